import PyProof.Rows.All
import Wide.All
import OpenK.AllK
import Wide.FinOn
import HandS.ForMost
import HandS.Defaults
import HandS.Wide
import HandS.Zip
import HandS.TupAny
import HandS.Deep
import HandS.IsInst
import HandS.Conv
import HandS.HeadHook1
import HandS.HeadHook2
import PySem.Challenge.RW_rolldiscs_k79_whole_benches_of_benches
import HandS.Walk
import KE.KDictList
import HandS.ForExc
import HandS.ExcCtx
import HandS.ExcInit
import HandS.ExcField
import HandS.ExcIs
import HandS.Style
import HandS.HotCalls
import HandS.SetFor
import Lean
import HandS.Base
import HandS.Call
import HandS.Ends
import HandS.More
import HandS.Words
import HandS.WordsExc
import HandS.Head0
import HandS.Head1
import HandS.Head2
import HandS.HeadEnd
set_option Elab.async false
section
/-! K79A: the mirror: rows, their order, what is solved along it. Plain Lean. -/
namespace K79

/-- a row of a machine -/
inductive Row where
  | src (s : Rat)
  | gear (s r : Rat) (j : Nat)
  | adder (s : Rat) (i j : Nat)
  | disc (s : Rat) (c t : Nat)
  deriving DecidableEq

def Row.start : Row → Rat
  | .src s => s
  | .gear s _ _ => s
  | .adder s _ _ => s
  | .disc s _ _ => s
def Row.at_ (h : Rat) : Row → Row
  | .src _ => .src h
  | .gear _ r j => .gear h r j
  | .adder _ i j => .adder h i j
  | .disc _ c t => .disc h c t
/-- the shafts that drive a row -/
def Row.drives : Row → List Nat
  | .src _ => []
  | .gear _ _ j => [j]
  | .adder _ i j => [i, j]
  | .disc _ _ t => [t]
/-- all shafts that a row names are below n -/
def Row.In (n : Nat) : Row → Prop
  | .src _ => True
  | .gear _ _ j => j < n
  | .adder _ i j => i < n ∧ j < n
  | .disc _ c t => c < n ∧ t < n
def Row.isSrc : Row → Bool
  | .src _ => true
  | _ => false
theorem Row.at_start (h : Rat) (r : Row) : (r.at_ h).start = h := by cases r <;> rfl
theorem Row.at_drives (h : Rat) (r : Row) : (r.at_ h).drives = r.drives := by cases r <;> rfl
theorem Row.at_self (r : Row) : r.at_ r.start = r := by cases r <;> rfl
theorem Row.drives_in {n : Nat} {r : Row} (h : r.In n) : ∀ j ∈ r.drives, j < n := by
  intro j hj
  cases r with
  | src s => cases hj
  | gear s q k => simp [Row.drives] at hj; subst hj; exact h
  | adder s a b =>
    simp [Row.drives] at hj
    rcases hj with rfl | rfl
    · exact h.1
    · exact h.2
  | disc s c t => simp [Row.drives] at hj; subst hj; exact h.2

/-- may stand: all that drive it stand ahead -/
def may (st : List Nat) (r : Row) : Bool := r.drives.all fun k => st.contains k
/-- the shafts that may stand next, rising -/
def nexts (rows : List Row) (st : List Nat) : List Nat :=
  (List.range rows.length).filter fun k => !st.contains k && (match rows[k]? with | some r => may st r | none => false)
/-- the order, at most f steps on -/
def ordF (rows : List Row) : Nat → List Nat → List Nat
  | 0, st => st
  | f + 1, st => match nexts rows st with
    | [] => st
    | k :: _ => ordF rows f (st ++ [k])
def ord (rows : List Row) : List Nat := ordF rows rows.length []

/-- an order as far as it goes: unlike shafts, each behind those that drive it -/
structure Pre (rows : List Row) (st : List Nat) : Prop where
  nd : st.Nodup
  lt : ∀ k ∈ st, k < rows.length
  dr : ∀ i k, st[i]? = some k → ∀ r, rows[k]? = some r → ∀ j ∈ r.drives, j ∈ st.take i

theorem mem_nexts {rows : List Row} {st : List Nat} {k : Nat} : k ∈ nexts rows st ↔ k < rows.length ∧ k ∉ st ∧ ∃ r, rows[k]? = some r ∧ ∀ j ∈ r.drives, j ∈ st := by
  unfold nexts
  rw [List.mem_filter, List.mem_range]
  constructor
  · rintro ⟨h1, h2⟩
    rw [Bool.and_eq_true] at h2
    obtain ⟨h2, h3⟩ := h2
    refine ⟨h1, by simpa using h2, ?_⟩
    cases e : rows[k]? with
    | none => rw [e] at h3; cases h3
    | some r =>
      rw [e] at h3
      refine ⟨r, rfl, fun j hj => ?_⟩
      have h4 : r.drives.all (fun k => st.contains k) = true := h3
      rw [List.all_eq_true] at h4
      simpa using h4 j hj
  · rintro ⟨h1, h2, r, e, h3⟩
    refine ⟨h1, ?_⟩
    rw [Bool.and_eq_true]
    refine ⟨by simpa using h2, ?_⟩
    rw [e]
    show r.drives.all (fun k => st.contains k) = true
    rw [List.all_eq_true]
    intro j hj
    simpa using h3 j hj

theorem Pre.nil (rows : List Row) : Pre rows [] := ⟨List.nodup_nil, by simp, by simp⟩
theorem Pre.snoc {rows : List Row} {st : List Nat} {k : Nat} (p : Pre rows st) (h : k ∈ nexts rows st) : Pre rows (st ++ [k]) := by
  obtain ⟨h1, h2, r, e, h3⟩ := mem_nexts.mp h
  refine ⟨?_, ?_, ?_⟩
  · rw [List.nodup_append]
    refine ⟨p.nd, by simp, ?_⟩
    intro a ha b hb
    simp at hb
    subst hb
    rintro rfl
    exact h2 ha
  · intro j hj
    rw [List.mem_append] at hj
    rcases hj with hj | hj
    · exact p.lt j hj
    · simp at hj
      subst hj
      exact h1
  · intro i c hc r' hr' j hj
    by_cases hi : i < st.length
    · rw [List.getElem?_append_left hi] at hc
      rw [List.take_append_of_le_length (Nat.le_of_lt hi)]
      exact p.dr i c hc r' hr' j hj
    · rw [List.getElem?_append_right (Nat.le_of_not_lt hi)] at hc
      have hi2 : i - st.length = 0 := by
        cases q : i - st.length with
        | zero => rfl
        | succ n => rw [q] at hc; simp at hc
      have hil : i = st.length := by omega
      subst hil
      simp at hc
      subst hc
      rw [e] at hr'
      cases hr'
      rw [List.take_append_of_le_length (Nat.le_refl _), List.take_length]
      exact h3 j hj
theorem nodup_len {n : Nat} : ∀ {l : List Nat}, l.Nodup → (∀ k ∈ l, k < n) → l.length ≤ n := by
  induction n with
  | zero =>
    intro l _ h
    cases l with
    | nil => exact Nat.le_refl _
    | cons a r => exact absurd (h a List.mem_cons_self) (Nat.not_lt_zero _)
  | succ n ih =>
    intro l nd h
    have h1 : (l.erase n).length ≤ n := ih (nd.erase n) fun k hk => by
      have h2 := h k (List.mem_of_mem_erase hk)
      have h3 : k ≠ n := fun e => by
        subst e
        exact (List.Nodup.not_mem_erase nd) hk
      omega
    have h2 : l.length ≤ (l.erase n).length + 1 := by
      rw [List.length_erase]
      split <;> omega
    omega
theorem Pre.len {rows : List Row} {st : List Nat} (p : Pre rows st) : st.length ≤ rows.length := nodup_len p.nd p.lt
theorem nodup_full {n : Nat} : ∀ {l : List Nat}, l.Nodup → (∀ k ∈ l, k < n) → l.length = n → ∀ k, k < n → k ∈ l := by
  intro l nd h hl k hk
  refine Classical.byContradiction fun hn => ?_
  have h1 : (k :: l).length ≤ n := nodup_len (List.nodup_cons.mpr ⟨hn, nd⟩) fun j hj => by
    rcases List.mem_cons.mp hj with rfl | hj
    · exact hk
    · exact h j hj
  rw [List.length_cons] at h1
  omega
theorem ordF_pre {rows : List Row} : ∀ (f : Nat) {st : List Nat}, Pre rows st → Pre rows (ordF rows f st)
  | 0, _, p => p
  | f + 1, st, p => by
    unfold ordF
    cases e : nexts rows st with
    | nil => exact p
    | cons k r => exact ordF_pre f (p.snoc (by rw [e]; exact List.mem_cons_self))
theorem ord_pre (rows : List Row) : Pre rows (ord rows) := ordF_pre _ (Pre.nil rows)
theorem ordF_end {rows : List Row} : ∀ (f : Nat) {st : List Nat}, Pre rows st → rows.length ≤ f + st.length → nexts rows (ordF rows f st) = []
  | 0, st, p, h => by
    have hl := p.len
    have he : st.length = rows.length := by omega
    show nexts rows st = []
    cases e : nexts rows st with
    | nil => rfl
    | cons k r =>
      obtain ⟨h1, h2, _⟩ := mem_nexts.mp (show k ∈ nexts rows st by rw [e]; exact List.mem_cons_self)
      exact absurd (nodup_full p.nd p.lt he k h1) h2
  | f + 1, st, p, h => by
    unfold ordF
    cases e : nexts rows st with
    | nil => exact e
    | cons k r => exact ordF_end f (p.snoc (by rw [e]; exact List.mem_cons_self)) (by rw [List.length_append, List.length_singleton]; omega)
theorem ord_end (rows : List Row) : nexts rows (ord rows) = [] := ordF_end _ (Pre.nil rows) (Nat.le_add_right _ _)

/-- a machine but for the number of its sources: no ring, all shafts there -/
structure Mach (rows : List Row) : Prop where
  inn : ∀ (k : Nat) (r : Row), rows[k]? = some r → r.In rows.length
  full : (ord rows).length = rows.length
theorem Mach.mem {rows : List Row} (m : Mach rows) {k : Nat} (h : k < rows.length) : k ∈ ord rows := nodup_full (ord_pre rows).nd (ord_pre rows).lt m.full k h

/-- where some turning-in of the shafts puts each behind its drives, there is no ring -/
theorem full_of_names {rows : List Row} {names : List Nat} (hn : ∀ k, k < rows.length → k ∈ names) (hl : ∀ k ∈ names, k < rows.length)
    (hd : ∀ i k r, names[i]? = some k → rows[k]? = some r → ∀ j ∈ r.drives, j ∈ names.take i) : (ord rows).length = rows.length := by
  have all : ∀ i, ∀ k ∈ names.take i, k ∈ ord rows := by
    intro i
    induction i with
    | zero => intro k hk; simp at hk
    | succ i ih =>
      intro k hk
      by_cases h0 : k ∈ names.take i
      · exact ih k h0
      obtain ⟨a, hka⟩ := List.mem_iff_getElem?.mp hk
      have ha : a < i + 1 := by
        have := (List.getElem?_eq_some_iff.mp hka).1
        rw [List.length_take] at this
        omega
      have hka' : names[a]? = some k := by
        rw [List.getElem?_take, if_pos ha] at hka
        exact hka
      have hai : a = i := by
        refine Classical.byContradiction fun hne => h0 ?_
        refine List.mem_iff_getElem?.mpr ⟨a, ?_⟩
        rw [List.getElem?_take, if_pos (by omega)]
        exact hka'
      subst hai
      have hk' : k < rows.length := hl k (List.mem_of_getElem? hka')
      refine Classical.byContradiction fun hno => ?_
      have hr : rows[k]? = some rows[k] := List.getElem?_eq_getElem hk'
      have : k ∈ nexts rows (ord rows) := mem_nexts.mpr ⟨hk', hno, _, hr, fun j hj => ih j (hd a k _ hka' hr j hj)⟩
      rw [ord_end] at this
      cases this
  have h1 : ∀ k, k < rows.length → k ∈ ord rows := fun k hk => by
    have := all names.length k (by rw [List.take_length]; exact hn k hk)
    exact this
  have h2 := (ord_pre rows).len
  refine Nat.le_antisymm h2 ?_
  have h3 : (List.range rows.length).length ≤ (ord rows).length := by
    exact (List.nodup_range (n := rows.length)).length_le_of_subset (fun k hk => h1 k (List.mem_range.mp hk))
  rw [List.length_range] at h3
  exact h3
/-- the same drives, the same order -/
theorem ord_congr {rows rows' : List Row} (hl : rows.length = rows'.length) (hd : ∀ k : Nat, (rows[k]?).map Row.drives = (rows'[k]?).map Row.drives) : ord rows = ord rows' := by
  have hn : ∀ st, nexts rows st = nexts rows' st := fun st => by
    unfold nexts
    rw [hl]
    congr 1
    funext k
    congr 1
    have := hd k
    cases e : rows[k]? with
    | none =>
      rw [e] at this
      cases e' : rows'[k]? with
      | none => rfl
      | some r => rw [e'] at this; cases this
    | some r =>
      rw [e] at this
      cases e' : rows'[k]? with
      | none => rw [e'] at this; cases this
      | some r' =>
        rw [e'] at this
        have h : r.drives = r'.drives := by simpa using this
        show may st r = may st r'
        unfold may
        rw [h]
  have hf : ∀ f st, ordF rows f st = ordF rows' f st := by
    intro f
    induction f with
    | zero => intro st; rfl
    | succ f ih =>
      intro st
      unfold ordF
      rw [hn]
      cases nexts rows' st with
      | nil => rfl
      | cons k r => exact ih _
  unfold ord
  rw [hl]
  exact hf _ _
end K79
end

section
/-! K79B: sizes of numbers. -/
namespace K79

/-- top and bottom below 2 ^ n -/
def Sz (n : Nat) (q : Rat) : Prop := q.num.natAbs < 2 ^ n ∧ q.den < 2 ^ n
theorem Sz.mono {m n : Nat} {q : Rat} (h : Sz m q) (hmn : m ≤ n) : Sz n q :=
  ⟨Nat.lt_of_lt_of_le h.1 (Nat.pow_le_pow_right (by decide) hmn), Nat.lt_of_lt_of_le h.2 (Nat.pow_le_pow_right (by decide) hmn)⟩
theorem mk_le {t : Int} {b : Nat} (hb : b ≠ 0) : (mkRat t b).num.natAbs ≤ t.natAbs ∧ (mkRat t b).den ≤ b := by
  rw [Rat.num_mkRat, Rat.den_mkRat, if_neg hb, if_neg hb]
  refine ⟨?_, Nat.div_le_self _ _⟩
  have hg : 0 < b.gcd t.natAbs := Nat.gcd_pos_of_pos_left _ (Nat.pos_of_ne_zero hb)
  have hd : ((b.gcd t.natAbs : Nat) : Int) ∣ t := by
    rw [← Int.dvd_natAbs, Int.ofNat_dvd]
    exact Nat.gcd_dvd_right _ _
  rw [Int.natAbs_ediv_of_dvd hd, Int.natAbs_natCast]
  exact Nat.div_le_self _ _
theorem Sz.add {m n : Nat} {a b : Rat} (ha : Sz m a) (hb : Sz n b) : Sz (m + n + 1) (a + b) := by
  have hz : a.den * b.den ≠ 0 := Nat.mul_ne_zero a.den_nz b.den_nz
  have h := mk_le (t := a.num * b.den + b.num * a.den) hz
  rw [Rat.add_def']
  have e1 : (a.num * b.den + b.num * a.den).natAbs ≤ a.num.natAbs * b.den + b.num.natAbs * a.den := by
    refine Nat.le_trans (Int.natAbs_add_le _ _) ?_
    rw [Int.natAbs_mul, Int.natAbs_mul, Int.natAbs_natCast, Int.natAbs_natCast]
    exact Nat.le_refl _
  have p1 : a.num.natAbs * b.den < 2 ^ (m + n) := by
    rw [Nat.pow_add]
    exact Nat.mul_lt_mul'' ha.1 hb.2
  have p2 : b.num.natAbs * a.den < 2 ^ (m + n) := by
    rw [Nat.add_comm m n, Nat.pow_add]
    exact Nat.mul_lt_mul'' hb.1 ha.2
  have p3 : a.den * b.den < 2 ^ (m + n) := by
    rw [Nat.pow_add]
    exact Nat.mul_lt_mul'' ha.2 hb.2
  have p4 : 2 ^ (m + n + 1) = 2 ^ (m + n) * 2 := Nat.pow_succ ..
  exact ⟨by omega, by omega⟩
theorem Sz.mul {m n : Nat} {a b : Rat} (ha : Sz m a) (hb : Sz n b) : Sz (m + n) (a * b) := by
  have hz : a.den * b.den ≠ 0 := Nat.mul_ne_zero a.den_nz b.den_nz
  have h := mk_le (t := a.num * b.num) hz
  rw [Rat.mul_def']
  rw [Int.natAbs_mul] at h
  have p1 : a.num.natAbs * b.num.natAbs < 2 ^ (m + n) := by
    rw [Nat.pow_add]
    exact Nat.mul_lt_mul'' ha.1 hb.1
  have p3 : a.den * b.den < 2 ^ (m + n) := by
    rw [Nat.pow_add]
    exact Nat.mul_lt_mul'' ha.2 hb.2
  exact ⟨by omega, by omega⟩
theorem Sz.neg {m : Nat} {a : Rat} (ha : Sz m a) : Sz m (-a) := ⟨by rw [Rat.neg_num, Int.natAbs_neg]; exact ha.1, by rw [Rat.neg_den]; exact ha.2⟩
theorem Sz.zero {n : Nat} : Sz n 0 → Sz n 0 := id
theorem sz_zero : Sz 1 0 := ⟨by decide, by decide⟩
theorem sz_one : Sz 1 1 := ⟨by decide, by decide⟩

/-- the bottom divides M: a multiple of 1 / M -/
theorem den_dvd {q : Rat} {M : Nat} (hM : M ≠ 0) : q.den ∣ M ↔ ∃ z : Int, q = mkRat z M := by
  constructor
  · rintro ⟨c, hc⟩
    have h0 : c ≠ 0 := fun e => hM (by rw [hc, e, Nat.mul_zero])
    refine ⟨q.num * c, ?_⟩
    rw [hc, Rat.mkRat_mul_right h0, Rat.mkRat_self]
  · rintro ⟨z, rfl⟩
    rw [Rat.den_mkRat, if_neg hM]
    exact ⟨M.gcd z.natAbs, (Nat.div_mul_cancel (Nat.gcd_dvd_left _ _)).symm⟩
theorem dvd_add {a b : Rat} {M : Nat} (hM : M ≠ 0) (ha : a.den ∣ M) (hb : b.den ∣ M) : (a + b).den ∣ M := by
  obtain ⟨x, rfl⟩ := (den_dvd hM).mp ha
  obtain ⟨y, rfl⟩ := (den_dvd hM).mp hb
  refine (den_dvd hM).mpr ⟨x + y, ?_⟩
  rw [Rat.mkRat_add_mkRat _ _ hM hM, ← Int.add_mul, Rat.mkRat_mul_right hM]
theorem dvd_mul {a b : Rat} {M N : Nat} (hM : M ≠ 0) (hN : N ≠ 0) (ha : a.den ∣ M) (hb : b.den ∣ N) : (a * b).den ∣ M * N := by
  obtain ⟨x, rfl⟩ := (den_dvd hM).mp ha
  obtain ⟨y, rfl⟩ := (den_dvd hN).mp hb
  exact (den_dvd (Nat.mul_ne_zero hM hN)).mpr ⟨x * y, Rat.mkRat_mul_mkRat _ _ _ _⟩
theorem den_lt {q : Rat} {M n : Nat} (hM : M ≠ 0) (h : q.den ∣ M) (hn : M < 2 ^ n) : q.den < 2 ^ n := Nat.lt_of_le_of_lt (Nat.le_of_dvd (Nat.pos_of_ne_zero hM) h) hn

/-- what a sum, a product ask: the bottoms' product has less than 9,000 bits -/
structure Fit (a b : Rat) : Prop where
  den : a.den * b.den < 2 ^ 9000
  na : a.num.natAbs < 2 ^ 400000
  nb : b.num.natAbs < 2 ^ 400000
theorem Fit.of {m n : Nat} {a b : Rat} (ha : Sz m a) (hb : Sz n b) (h : m + n ≤ 9000) : Fit a b := by
  have p3 : a.den * b.den < 2 ^ (m + n) := by
    rw [Nat.pow_add]
    exact Nat.mul_lt_mul'' ha.2 hb.2
  exact ⟨Nat.lt_of_lt_of_le p3 (Nat.pow_le_pow_right (by decide) h), Nat.lt_of_lt_of_le ha.1 (Nat.pow_le_pow_right (by decide) (by omega)), Nat.lt_of_lt_of_le hb.1 (Nat.pow_le_pow_right (by decide) (by omega))⟩
theorem Fit.ofD {m n x y : Nat} {a b : Rat} (ha : Sz m a) (hb : Sz n b) (da : a.den < 2 ^ x) (db : b.den < 2 ^ y) (h : x + y ≤ 9000) (hm : m ≤ 400000) (hn : n ≤ 400000) : Fit a b := by
  have p3 : a.den * b.den < 2 ^ (x + y) := by
    rw [Nat.pow_add]
    exact Nat.mul_lt_mul'' da db
  exact ⟨Nat.lt_of_lt_of_le p3 (Nat.pow_le_pow_right (by decide) h), Nat.lt_of_lt_of_le ha.1 (Nat.pow_le_pow_right (by decide) hm), Nat.lt_of_lt_of_le hb.1 (Nat.pow_le_pow_right (by decide) hn)⟩
theorem Fit.symm {a b : Rat} (h : Fit a b) : Fit b a := ⟨by rw [Nat.mul_comm]; exact h.den, h.nb, h.na⟩

/-- the number of two whole numbers, as the program reckons it: by the common divisor -/
theorem low_eq {t b : Int} (hb : 0 < b) : t / ((t.natAbs.gcd b.natAbs : Nat) : Int) = (mkRat t b.toNat).num ∧ b / ((t.natAbs.gcd b.natAbs : Nat) : Int) = ((mkRat t b.toNat).den : Int) := by
  obtain ⟨n, rfl⟩ : ∃ n : Nat, b = n := ⟨b.toNat, by omega⟩
  have hn : n ≠ 0 := by omega
  rw [Int.toNat_natCast, Rat.num_mkRat, Rat.den_mkRat, if_neg hn, if_neg hn, Int.natAbs_natCast, Nat.gcd_comm]
  exact ⟨rfl, by rw [Int.natCast_ediv]⟩
theorem lt_rat (a b : Rat) : decide (a.num * b.den < b.num * a.den) = decide (a < b) := by
  by_cases h : a < b
  · rw [decide_eq_true h, decide_eq_true ((Rat.lt_iff a b).mp h)]
  · rw [decide_eq_false h, decide_eq_false fun q => h ((Rat.lt_iff a b).mpr q)]
end K79
end

section
/-! K79C: what is solved along the order; moves; terms. -/
namespace K79

/-- the values along an order: each shaft's by its row and the values so far -/
def solveS (rows : List Row) (f : Nat → Row → List Rat → Rat) (st : List Nat) : List Rat :=
  st.foldl (fun ms k => match rows[k]? with | some r => ms.set k (f k r ms) | none => ms) (List.replicate rows.length 0)
def solve (rows : List Row) (f : Nat → Row → List Rat → Rat) : List Rat := solveS rows f (ord rows)
theorem solveS_snoc {rows : List Row} {f : Nat → Row → List Rat → Rat} {st : List Nat} {k : Nat} {r : Row} (h : rows[k]? = some r) : solveS rows f (st ++ [k]) = (solveS rows f st).set k (f k r (solveS rows f st)) := by
  unfold solveS
  rw [List.foldl_append, List.foldl_cons, List.foldl_nil]
  rw [h]
theorem fold_len {rows : List Row} {f : Nat → Row → List Rat → Rat} : ∀ (st : List Nat) (ms : List Rat), (st.foldl (fun ms k => match rows[k]? with | some r => ms.set k (f k r ms) | none => ms) ms).length = ms.length
  | [], _ => rfl
  | k :: st, ms => by
    rw [List.foldl_cons, fold_len st]
    cases rows[k]? with
    | none => rfl
    | some r => exact List.length_set ..
theorem solveS_len {rows : List Row} {f : Nat → Row → List Rat → Rat} (st : List Nat) : (solveS rows f st).length = rows.length := by
  unfold solveS
  rw [fold_len, List.length_replicate]
theorem solve_len {rows : List Row} {f : Nat → Row → List Rat → Rat} : (solve rows f).length = rows.length := solveS_len _
theorem take_snoc {α : Type} : ∀ {l : List α} {i : Nat} {x : α}, l[i]? = some x → l.take (i + 1) = l.take i ++ [x]
  | [], i, x, h => by simp at h
  | a :: l, 0, x, h => by
    have e : a = x := Option.some.inj h
    subst e
    rfl
  | a :: l, i + 1, x, h => by
    have ih := take_snoc (l := l) (i := i) (x := x) h
    show a :: l.take (i + 1) = a :: l.take i ++ [x]
    rw [ih]
    rfl
/-- it leans on the values of those that drive the row alone -/
def Leans (f : Nat → Row → List Rat → Rat) : Prop := ∀ (k : Nat) (r : Row) (ms ms' : List Rat), (∀ j ∈ r.drives, ms[j]? = ms'[j]?) → f k r ms = f k r ms'
theorem nodup_not_take {l : List Nat} (nd : l.Nodup) {i k : Nat} (h : l[i]? = some k) : k ∉ l.take i := fun hk => by
  obtain ⟨a, ha⟩ := List.mem_iff_getElem?.mp hk
  have h1 : a < i := by
    have := (List.getElem?_eq_some_iff.mp ha).1
    rw [List.length_take] at this
    omega
  rw [List.getElem?_take, if_pos h1] at ha
  obtain ⟨p, e1⟩ := List.getElem?_eq_some_iff.mp ha
  obtain ⟨q, e2⟩ := List.getElem?_eq_some_iff.mp h
  have := (List.getElem_inj nd).mp (e1.trans e2.symm)
  omega
/-- what stands so far is what it asks -/
theorem solve_pre {rows : List Row} {f : Nat → Row → List Rat → Rat} (hf : Leans f) {st : List Nat} (p : Pre rows st) : ∀ i, i ≤ st.length → ∀ k ∈ st.take i, ∀ r, rows[k]? = some r → (solveS rows f (st.take i))[k]? = some (f k r (solveS rows f (st.take i))) := by
  intro i
  induction i with
  | zero => intro _ k hk; simp at hk
  | succ i ih =>
    intro hi k hk r hr
    have hlt : i < st.length := by omega
    have hx : st[i]? = some st[i] := List.getElem?_eq_getElem hlt
    generalize st[i] = x at hx
    rw [take_snoc hx] at hk ⊢
    have hxl : x < rows.length := p.lt x (List.mem_of_getElem? hx)
    have hrx : rows[x]? = some rows[x] := List.getElem?_eq_getElem hxl
    generalize rows[x] = rx at hrx
    rw [solveS_snoc hrx]
    have hnot := nodup_not_take p.nd hx
    have same : ∀ j ∈ st.take i, ((solveS rows f (st.take i)).set x (f x rx (solveS rows f (st.take i))))[j]? = (solveS rows f (st.take i))[j]? := fun j hj =>
      List.getElem?_set_ne (fun e => hnot (by rw [e]; exact hj))
    rw [List.mem_append] at hk
    rcases hk with hk | hk
    · rw [same k hk, ih (by omega) k hk r hr]
      congr 1
      refine hf k r _ _ fun j hj => (same j ?_).symm
      obtain ⟨a, ha⟩ := List.mem_iff_getElem?.mp hk
      have h1 : a < i := by
        have := (List.getElem?_eq_some_iff.mp ha).1
        rw [List.length_take] at this
        omega
      rw [List.getElem?_take, if_pos h1] at ha
      have h2 := p.dr a k ha r hr j hj
      exact (List.take_sublist_take_left (Nat.le_of_lt h1)).subset h2
    · simp at hk
      subst hk
      rw [hrx] at hr
      cases hr
      rw [List.getElem?_set_self (by rw [solveS_len]; exact hxl)]
      congr 1
      refine hf _ _ _ _ fun j hj => (same j ?_).symm
      exact p.dr i _ hx _ hrx j hj
theorem solve_fix {rows : List Row} {f : Nat → Row → List Rat → Rat} (hf : Leans f) (m : Mach rows) {k : Nat} {r : Row} (hr : rows[k]? = some r) : (solve rows f)[k]? = some (f k r (solve rows f)) := by
  have h := solve_pre hf (ord_pre rows) (ord rows).length (Nat.le_refl _) k (by rw [List.take_length]; exact m.mem (List.getElem?_eq_some_iff.mp hr).1) r hr
  rw [List.take_length] at h
  exact h
/-- a word of each value, step by step -/
theorem solve_inv {rows : List Row} {f : Nat → Row → List Rat → Rat} (P : Nat → Rat → Prop) (h0 : P 0 0) (hs : ∀ i k r ms, rows[k]? = some r → (∀ q ∈ ms, P i q) → ms.length = rows.length → P (i + 1) (f k r ms)) (hm : ∀ i q, P i q → P (i + 1) q) :
    ∀ i (st : List Nat), i = st.length → ∀ q ∈ solveS rows f st, P i q := by
  intro i
  induction i with
  | zero =>
    intro st hst q hq
    have : st = [] := List.eq_nil_of_length_eq_zero hst.symm
    subst this
    have hq' : q ∈ List.replicate rows.length (0 : Rat) := hq
    rw [List.eq_of_mem_replicate hq']
    exact h0
  | succ i ih =>
    intro st hst q hq
    have hne : st ≠ [] := fun e => by rw [e] at hst; cases hst
    have hd := List.dropLast_concat_getLast hne
    generalize st.dropLast = st0 at hd
    generalize st.getLast hne = x at hd
    subst hd
    have hl : i = st0.length := by rw [List.length_append, List.length_singleton] at hst; omega
    have ih' := ih st0 hl
    cases hr : rows[x]? with
    | none =>
      have e : solveS rows f (st0 ++ [x]) = solveS rows f st0 := by
        unfold solveS
        rw [List.foldl_append, List.foldl_cons, List.foldl_nil, hr]
      rw [e] at hq
      exact hm i q (ih' q hq)
    | some r =>
      rw [solveS_snoc hr] at hq
      rcases List.mem_or_eq_of_mem_set hq with h | h
      · exact hm i q (ih' q h)
      · subst h
        exact hs i x r _ hr ih' (solveS_len _)

/-- how far a row's shaft is moved -/
def moveOf (stood : List Rat) (q : Rat) (r : Row) (ms : List Rat) : Rat := match r with
  | .src _ => q
  | .gear _ x j => x * ms.getD j 0
  | .adder _ i j => ms.getD i 0 + ms.getD j 0
  | .disc _ c t => stood.getD c 0 * ms.getD t 0
theorem getD_eq {l l' : List Rat} {j : Nat} (h : l[j]? = l'[j]?) : l.getD j 0 = l'.getD j 0 := by
  rw [List.getD_eq_getElem?_getD, List.getD_eq_getElem?_getD, h]
theorem moveOf_leans (stood : List Rat) (q : Rat) : Leans (fun _ r ms => moveOf stood q r ms) := by
  intro k r ms ms' h
  cases r with
  | src s => rfl
  | gear s x j => show x * _ = x * _; rw [getD_eq (h j (by simp [Row.drives]))]
  | adder s i j => show _ + _ = _ + _; rw [getD_eq (h i (by simp [Row.drives])), getD_eq (h j (by simp [Row.drives]))]
  | disc s c t => show _ * _ = _ * _; rw [getD_eq (h t (by simp [Row.drives]))]
/-- all moves of a click -/
def movesBy (rows : List Row) (outs : List Bool) (stood : List Rat) (q : Rat) : List Rat :=
  solve rows fun k r ms => if outs.getD k false = true then 0 else moveOf stood q r ms
/-- the program's own step: one that is out is passed by -/
theorem outs_step {rows : List Row} {outs : List Bool} {stood : List Rat} {q : Rat} {st : List Nat} {k : Nat} (p : Pre rows (st ++ [k])) (ho : outs.getD k false = true) :
    solveS rows (fun k r ms => if outs.getD k false = true then 0 else moveOf stood q r ms) (st ++ [k]) = solveS rows (fun k r ms => if outs.getD k false = true then 0 else moveOf stood q r ms) st := by
  have hk : k < rows.length := p.lt k (by simp)
  have hr : rows[k]? = some rows[k] := List.getElem?_eq_getElem hk
  rw [solveS_snoc hr, if_pos ho]
  -- it stands at 0 still
  have key : ∀ (st : List Nat), k ∉ st → ∀ f : Nat → Row → List Rat → Rat, (solveS rows f st)[k]? = some 0 := by
    intro st
    suffices h : ∀ (n : Nat) (st : List Nat), st.length = n → k ∉ st → ∀ f : Nat → Row → List Rat → Rat, (solveS rows f st)[k]? = some 0 from h _ st rfl
    intro n
    induction n with
    | zero =>
      intro st hl _ f
      have : st = [] := List.eq_nil_of_length_eq_zero hl
      subst this
      show (List.replicate rows.length (0 : Rat))[k]? = some 0
      rw [List.getElem?_replicate, if_pos hk]
    | succ n ih =>
      intro st hl hn f
      have hne : st ≠ [] := fun e => by rw [e] at hl; cases hl
      have hd := List.dropLast_concat_getLast hne
      generalize st.dropLast = st0 at hd
      generalize st.getLast hne = x at hd
      subst hd
      rw [List.length_append, List.length_singleton] at hl
      rw [List.mem_append, not_or] at hn
      have ih' := ih st0 (by omega) hn.1 f
      cases hrx : rows[x]? with
      | none =>
        have e : solveS rows f (st0 ++ [x]) = solveS rows f st0 := by
          unfold solveS
          rw [List.foldl_append, List.foldl_cons, List.foldl_nil, hrx]
        rw [e]
        exact ih'
      | some r =>
        rw [solveS_snoc hrx, List.getElem?_set_ne (fun e => hn.2 (by rw [e]; simp))]
        exact ih'
  have hnot : k ∉ st := by
    have := p.nd
    rw [List.nodup_append] at this
    intro hk
    exact this.2.2 k hk k (by simp) rfl
  have z := key st hnot (fun k r ms => if outs.getD k false = true then 0 else moveOf stood q r ms)
  generalize solveS rows (fun k r ms => if outs.getD k false = true then 0 else moveOf stood q r ms) st = ms at z
  refine List.ext_getElem? fun i => ?_
  by_cases e : k = i
  · subst e
    rw [List.getElem?_set_self (List.getElem?_eq_some_iff.mp z).1, z]
  · rw [List.getElem?_set_ne e]
theorem mem_getD {P : Rat → Prop} {l : List Rat} {k : Nat} (h : ∀ q ∈ l, P q) (h0 : P 0) : P (l.getD k 0) := by
  rw [List.getD_eq_getElem?_getD]
  cases e : l[k]? with
  | none => exact h0
  | some x => exact h x (List.mem_of_getElem? e)
/-- numbers of a row: start and ratio -/
def Row.small (n m : Nat) : Row → Prop
  | .src s => Sz n s
  | .gear s r _ => Sz n s ∧ Sz m r
  | .adder s _ _ => Sz n s
  | .disc s _ _ => Sz n s
/-- the bound behind i steps -/
def bnd (b : Nat) : Nat → Nat
  | 0 => b
  | i + 1 => 2 * bnd b i + 200
theorem bnd_le (b i : Nat) : b ≤ bnd b i := by
  induction i with
  | zero => exact Nat.le_refl _
  | succ i ih => show b ≤ 2 * bnd b i + 200; omega
theorem moves_sz {rows : List Row} {outs : List Bool} {stood : List Rat} {q : Rat} {b : Nat} (hb : 1 ≤ b) (hr : ∀ r ∈ rows, r.small 200 4) (hst : ∀ x ∈ stood, Sz 200 x) (hq : Sz b q) (st : List Nat) :
    ∀ x ∈ solveS rows (fun k r ms => if outs.getD k false = true then 0 else moveOf stood q r ms) st, Sz (bnd b st.length) x := by
  refine solve_inv (fun i x => Sz (bnd b i) x) (sz_zero.mono hb) (fun i k r ms hk hms hl => ?_) (fun i x h => h.mono (by show bnd b i ≤ 2 * bnd b i + 200; omega)) _ st rfl
  have hbi := bnd_le b i
  have z : Sz (bnd b (i + 1)) 0 := sz_zero.mono (by have := bnd_le b (i + 1); omega)
  have zi : Sz (bnd b i) 0 := sz_zero.mono (by omega)
  by_cases ho : outs.getD k false = true
  · rw [if_pos ho]
    exact z
  · rw [if_neg ho]
    have hs := hr r (List.mem_of_getElem? hk)
    have e : bnd b (i + 1) = 2 * bnd b i + 200 := rfl
    rw [e]
    cases r with
    | src s => exact hq.mono (by omega)
    | gear s x j => exact (hs.2.mul (mem_getD hms zi)).mono (by omega)
    | adder s x y => exact ((mem_getD hms zi).add (mem_getD hms zi)).mono (by omega)
    | disc s c t => exact ((mem_getD hst (sz_zero.mono (by omega))).mul (mem_getD hms zi)).mono (by omega)
end K79
end

section
set_option linter.all false
set_option maxRecDepth 100000
/-! K79T: the text by places; a def with its promise by name; numbers and rows in the heap. -/
namespace K79
open PySem PySem.Spec PyProof.Rows L2

def top (i : Nat) : Stmt := PySem.Challenge.pw_rolldiscs_k79_whole_benches_of_benches.main.body.getD i (.Pass ⟨0, 0, 0, 0⟩)
/-- what a walk stands in -/
structure G where
  P : Program
  w : World
  K : PySem.W.Frag
  mg : Str → Option Value
  base : Heap
/-- a def of the text, as the top has made it -/
def Def (g : G) (x : Str) (st : Stmt) (ps : List Str) : Prop := ∃ (f : Addr) (fd : FuncData), FunD g.K x x (defArgs st) (defBody st) (defScope st) [] [] f fd ∧ g.mg x = some (.ref f) ∧ Binds g.K fd ps []
/-- a method of the class at C -/
def MDef (g : G) (C : Addr) (m qual : Str) (st : Stmt) (ps : List Str) : Prop := ∃ (f : Addr) (fd : FuncData), FunD g.K m qual (defArgs st) (defBody st) (defScope st) [] [] f fd ∧ Meth g.K C m f ∧ Binds g.K fd ps []
/-- a def with its promise -/
def Has (g : G) (CX : CXT) (k : Nat) (x : Str) (ps : List Str) (sp : Sp) : Prop := ∃ (f : Addr) (fd : FuncData), FnOk g.P g.w g.K g.mg g.base CX k f fd ps sp ∧ g.mg x = some (.ref f) ∧ PySem.W.keepIn g.K (.ref f) = true ∧ Binds g.K fd ps []
def HasM (g : G) (CX : CXT) (k : Nat) (C : Addr) (m : Str) (ps : List Str) (sp : Sp) : Prop := ∃ (f : Addr) (fd : FuncData), FnOk g.P g.w g.K g.mg g.base CX k f fd ps sp ∧ Meth g.K C m f ∧ Binds g.K fd ps []
abbrev Cx.g (X : Cx) : G := ⟨X.prog, X.w, X.K, X.mg, X.base⟩
section
variable {X : Cx} {CX : CXT} {j k : Nat} {C : Addr} {ps : List Str} {sp : Sp} {E : XK} {x m : Str} {p pos apos : Pos} {e o : Expr} {es : List Expr} {ta : TE} {t : TA}
theorem pe_has (h : Has (Cx.g X) CX k x ps sp) (hr : Room j X.A) (hk : k ≤ j) (hx : Passes CX X E) (ha : PA X (e :: es) t) (hg : Gl X x := by rfl) (hdb : (x == ("__debug__" : Str)) = false := by decide)
    (he : starEach (e :: es) X.env = (false, eval e X.env) :: starEach es X.env := by rfl) (hpl : (backTo pos (starEach es X.env)).any (·.1) = false := by rfl) : PE X (.Call (.Name x p) (e :: es) [] pos) (tCall sp [] E t) := by
  obtain ⟨f, fd, F, hm, hkp, hb⟩ := h
  exact pe_call F (hr.mono hk) hg hm hkp hb .nil hx ha hdb he hpl
theorem pe_hasM {pl : Sem Bool} (h : HasM (Cx.g X) CX k C m ps sp) (he : PE X o ta) (c : Cls X.K C) (hr : Room j X.A) (hk : k ≤ j) (hx : Passes CX X E) (ha : PA X (e :: es) t)
    (hst : starEach (e :: es) X.env = (false, eval e X.env) :: starEach es X.env := by rfl) (hpl : (backTo pos (starEach es X.env)).any (·.1) = false := by rfl)
    (ht : eval (.Call (.Attribute o m apos) (e :: es) [] pos) X.env = (do
      let ov ← eval o X.env
      standAt apos.atName
      let (f, first) ← holding [ov] (getMethod ov m pl)
      callWith pos f first (backTo pos (starEach (e :: es) X.env)) (backToKw pos (keywordEach [] X.env))) := by rfl) : PE X (.Call (.Attribute o m apos) (e :: es) [] pos) (tMeth C m sp [] E ta t) := by
  obtain ⟨f, fd, F, hm, hb⟩ := h
  exact pe_meth he c hm F (hr.mono hk) hb .nil hx ha hst hpl ht
theorem pe_hasM0 {pl : Sem Bool} (h : HasM (Cx.g X) CX k C m ps sp) (he : PE X o ta) (c : Cls X.K C) (hr : Room j X.A) (hk : k ≤ j) (hx : Passes CX X E)
    (ht : eval (.Call (.Attribute o m apos) [] [] pos) X.env = (do
      let ov ← eval o X.env
      standAt apos.atName
      let (f, first) ← holding [ov] (getMethod ov m pl)
      callWith pos f first (backTo pos (starEach [] X.env)) (backToKw pos (keywordEach [] X.env))) := by rfl) : PE X (.Call (.Attribute o m apos) [] [] pos) (tMeth C m sp [] E ta tNil) := by
  obtain ⟨f, fd, F, hm, hb⟩ := h
  exact pe_meth0 he c hm F (hr.mono hk) hb .nil hx ht
end
section
variable {g : G}
/-- a def's body keeps its promise; nothing leaves it -/
theorem Def.ok {x : Str} {st : Stmt} {N ps : List Str} {k : Nat} {sp : Sp} (F : Def g x st ps) (S : FnScope N ps (defScope st)) (len : ∀ vs H Q E, sp vs H Q E → vs.length = ps.length)
    (hbody : ∀ (f : Addr) (cdv : Value) (A : Around) (outer : List Env) (s : Shared) (H : Hp) (vs : List V) (Q : VK) (E : XK), Room k (A.deeper (envOfC x (defScope st) s.heap.objs.size f cdv)) → sp vs H Q E →
      ∃ t, PSs (cxOf CX0 g.P g.w g.K g.mg g.base N x (defScope st) f cdv A outer s H E).nox (defBody st) t ∧ t { nx := fun _ H' => Q .non H', rt := Q } (start N vs) H) : Has g CX0 (k + 1) x ps sp := by
  obtain ⟨f, fd, F, hm, hb⟩ := F
  refine ⟨f, fd, F.ok S len fun cdv A outer s H vs Q E hr h => ?_, hm, F.kp, hb⟩
  obtain ⟨t, a, q⟩ := hbody f cdv A outer s H vs Q E hr h
  exact ⟨t, a.nox, q⟩
theorem MDef.ok {C : Addr} {m qual : Str} {st : Stmt} {N ps : List Str} {k : Nat} {sp : Sp} (F : MDef g C m qual st ps) (S : FnScope N ps (defScope st)) (len : ∀ vs H Q E, sp vs H Q E → vs.length = ps.length)
    (hbody : ∀ (f : Addr) (cdv : Value) (A : Around) (outer : List Env) (s : Shared) (H : Hp) (vs : List V) (Q : VK) (E : XK), Room k (A.deeper (envOfC qual (defScope st) s.heap.objs.size f cdv)) → sp vs H Q E →
      ∃ t, PSs (cxOf CX0 g.P g.w g.K g.mg g.base N qual (defScope st) f cdv A outer s H E).nox (defBody st) t ∧ t { nx := fun _ H' => Q .non H', rt := Q } (start N vs) H) : HasM g CX0 (k + 1) C m ps sp := by
  obtain ⟨f, fd, F, hm, hb⟩ := F
  refine ⟨f, fd, F.ok S len fun cdv A outer s H vs Q E hr h => ?_, hm, hb⟩
  obtain ⟨t, a, q⟩ := hbody f cdv A outer s H vs Q E hr h
  exact ⟨t, a.nox, q⟩
end

/-! ### rules whose reading names the written part by a letter -/
section
variable {X : Cx} {K : PySem.W.Frag}
def rLenK (K : PySem.W.Frag) : List V → Hp → VK → Prop := fun xs H Q => ∃ p ys, xs = [.ref p] ∧ (SqL K H p ys ∨ SqT K H p ys) ∧ Q (.int ys.length) H
def rListK (K : PySem.W.Frag) : List V → Hp → VK → Prop := fun xs H Q => ∃ p ys, xs = [.ref p] ∧ (SqL K H p ys ∨ SqT K H p ys) ∧ ∀ l, H l = none → Q (.ref l) (upd H l (.lst ys))
theorem call_lenK (e : X.K = K := by rfl) : CallR X (.builtin "len") (rLenK K) := by subst e; exact call_len_seq
theorem call_listK (e : X.K = K := by rfl) : CallR X (.type "list") (rListK K) := by subst e; exact call_list_of
theorem ix_listK (e : X.K = K := by rfl) : IxR X (rIxL K) := by subst e; exact ix_list
theorem ix_tupK (e : X.K = K := by rfl) : IxR X (rIxT K) := by subst e; exact ix_tup
theorem sl_listK (e : X.K = K := by rfl) : SlR X (rSlL K) := by subst e; exact sl_list
theorem sl_tupK (e : X.K = K := by rfl) : SlR X (rSlA K) := by subst e; exact sl_tupA
theorem op_catK (e : X.K = K := by rfl) : OpR X (binaryOp .Add) (rCatA K) := by subst e; exact op_catA
theorem op_inK (hu : X.A.units + 65 < cLine) (e : X.K = K := by rfl) : OpR X (compareOp .In) (rInD K) := by subst e; exact op_inD hu
theorem op_notInK (hu : X.A.units + 65 < cLine) (e : X.K = K := by rfl) : OpR X (compareOp .NotIn) (rNotInD K) := by subst e; exact op_notInD hu
theorem op_inSK (e : X.K = K := by rfl) : OpR X (compareOp .In) (rIn K false) := by subst e; exact op_in_seq
theorem op_notInSK (e : X.K = K := by rfl) : OpR X (compareOp .NotIn) (rIn K true) := by subst e; exact op_notIn_seq
theorem op_eqK (hu : X.A.units + 64 < cLine) (e : X.K = K := by rfl) : OpR X (compareOp .Eq) (rEqD K) := by subst e; exact op_eqD hu
theorem op_neK (hu : X.A.units + 64 < cLine) (e : X.K = K := by rfl) : OpR X (compareOp .NotEq) (rNeD K) := by subst e; exact op_neD hu
theorem call_isiK' (e : X.K = K := by rfl) : CallR X (.builtin "isinstance") (rIsi K) := by subst e; exact call_isi
theorem call_allK (hc : X.calm = true) (e : X.K = K := by rfl) : CallR X (.builtin "all") (rAll K) := by subst e; exact cr_all hc
theorem call_anyK (hc : X.calm = true) (e : X.K = K := by rfl) : CallR X (.builtin "any") (rAny K) := by subst e; exact cr_any hc
end
theorem hu65 {k : Nat} {A : Around} (r : Room k A) : A.units + 65 < cLine := by
  have := r.un
  omega

/-! ### what the written part says -/
structure Txt (g : G) : Prop where
  len : g.mg "len" = none
  abs : g.mg "abs" = none
  isinstance : g.mg "isinstance" = none
  range : g.mg "range" = none
  list : g.mg "list" = none
  tuple : g.mg "tuple" = none
  int : g.mg "int" = none
  bool : g.mg "bool" = none
  str : g.mg "str" = none
  zip : g.mg "zip" = none
  enumerate : g.mg "enumerate" = none
  all : g.mg "all" = none
  any : g.mg "any" = none
  max : g.mg "max" = none
  min : g.mg "min" = none
  nought : g.mg "NOUGHT" = some (.ref (He.ga g.K "NOUGHT"))
  noughtT : ∀ H, SqT g.K H (He.ga g.K "NOUGHT") [.int 0, .int 1]
  one : g.mg "ONE" = some (.ref (He.ga g.K "ONE"))
  oneT : ∀ H, SqT g.K H (He.ga g.K "ONE") [.int 1, .int 1]
  most : ∃ t, g.mg "MOST_SHAFTS" = some (.int 120 t)

/-! ### numbers, rows in the heap -/
section
variable {K : PySem.W.Frag} {H H' : Hp}
/-- what may never change: a tuple, tracked (or locked), or of the written part -/
theorem sqT_keep {a : Addr} {xs : List V} (k : ∀ b o, H b = some o → ((∃ ys, o = .tup ys) ∨ ∃ u ys, o = .frz u ys) → H' b = some o) (h : SqT K H a xs) : SqT K H' a xs := by
  rcases h with (h | ⟨o, h⟩) | h
  · exact .inl (.inl (k _ _ h (.inl ⟨_, rfl⟩)))
  · exact .inl (.inr ⟨o, k _ _ h (.inr ⟨_, _, rfl⟩)⟩)
  · exact .inr h
theorem Same.tup {a : Addr} {xs : List V} (s : Same H H') (h : SqT K H a xs) : SqT K H' a xs := sqT_keep (fun b o e _ => s b o e) h
theorem same_new {p : Addr} {o : HO} (h : H p = none) : Same H (upd H p o) := fun b u e => by
  rw [upd_ne (ne_of_none e h)]
  exact e
/-- the number q -/
def Nm (K : PySem.W.Frag) (H : Hp) (v : V) (q : Rat) : Prop := ∃ a, v = .ref a ∧ SqT K H a [.int q.num, .int (q.den : Int)]
theorem Nm.same {v : V} {q : Rat} (s : Same H H') (h : Nm K H v q) : Nm K H' v q := let ⟨a, e, t⟩ := h; ⟨a, e, Same.tup s t⟩
theorem Nm.new {p : Addr} {q : Rat} {xs : List V} (e : xs = [.int q.num, .int (q.den : Int)]) : Nm K (upd H p (.tup xs)) (.ref p) q := ⟨p, rfl, .inl (.inl (by rw [upd_same, e]))⟩
/-- a row -/
inductive Rw (K : PySem.W.Frag) (H : Hp) : V → Row → Prop
  | src {a : Addr} {x : V} {s : Rat} (t : SqT K H a [.str "source", x]) (hx : Nm K H x s) : Rw K H (.ref a) (.src s)
  | gear {a : Addr} {x y : V} {s r : Rat} {j : Nat} (t : SqT K H a [.str "gear", x, y, .int j]) (hx : Nm K H x s) (hy : Nm K H y r) : Rw K H (.ref a) (.gear s r j)
  | adder {a : Addr} {x : V} {s : Rat} {i j : Nat} (t : SqT K H a [.str "adder", x, .int i, .int j]) (hx : Nm K H x s) : Rw K H (.ref a) (.adder s i j)
  | disc {a : Addr} {x : V} {s : Rat} {i j : Nat} (t : SqT K H a [.str "disc", x, .int i, .int j]) (hx : Nm K H x s) : Rw K H (.ref a) (.disc s i j)
theorem Rw.same {v : V} {r : Row} (s : Same H H') (h : Rw K H v r) : Rw K H' v r := by
  cases h with
  | src t hx => exact .src (Same.tup s t) (hx.same s)
  | gear t hx hy => exact .gear (Same.tup s t) (hx.same s) (hy.same s)
  | adder t hx => exact .adder (Same.tup s t) (hx.same s)
  | disc t hx => exact .disc (Same.tup s t) (hx.same s)
theorem Pd.get {α : Type} {R : V → α → Prop} {vs : List V} {xs : List α} (h : Paired R vs xs) : ∀ {i : Nat} {x : α}, xs[i]? = some x → ∃ v, vs[i]? = some v ∧ R v x := by
  induction h with
  | nil => intro i x e; simp at e
  | cons r t ih =>
    intro i x e
    cases i with
    | zero => simp at e; subst e; exact ⟨_, rfl, r⟩
    | succ i => exact ih (by simpa using e)
theorem Pd.getV {α : Type} {R : V → α → Prop} {vs : List V} {xs : List α} (h : Paired R vs xs) : ∀ {i : Nat} {v : V}, vs[i]? = some v → ∃ x, xs[i]? = some x ∧ R v x := by
  induction h with
  | nil => intro i x e; simp at e
  | cons r t ih =>
    intro i x e
    cases i with
    | zero => simp at e; subst e; exact ⟨_, rfl, r⟩
    | succ i => exact ih (by simpa using e)
theorem Pd.same {α : Type} {R : Hp → V → α → Prop} (hR : ∀ v x, R H v x → R H' v x) {vs : List V} {xs : List α} (h : Paired (R H) vs xs) : Paired (R H') vs xs := h.mono hR
theorem Pd.set {α : Type} {R : V → α → Prop} {vs : List V} {xs : List α} {v : V} {x : α} (h : Paired R vs xs) (r : R v x) : ∀ (i : Nat), Paired R (vs.set i v) (xs.set i x) := by
  induction h with
  | nil => intro i; exact .nil
  | cons r' t ih =>
    intro i
    cases i with
    | zero => exact .cons r t
    | succ i => exact .cons r' (ih i)
end
end K79
end

section
set_option linter.all false
set_option maxRecDepth 100000
set_option maxHeartbeats 4000000
/-! K79L: comprehensions, once for all. -/
namespace K79
open PySem PySem.Spec PyProof.Rows L2
theorem Pd.mem {α : Type} {R R' : V → α → Prop} {vs : List V} {xs : List α} (h : Paired R vs xs) (f : ∀ v x, x ∈ xs → R v x → R' v x) : Paired R' vs xs := by
  induction h with
  | nil => exact .nil
  | cons r t ih => exact .cons (f _ _ List.mem_cons_self r) (ih fun v x hx => f v x (List.mem_cons_of_mem _ hx))
section
variable {J : It} {n : Nat} {Gd : Hp → Prop} {Y : Nat → Hp → V → Hp → Prop} {gt : TG} {tt : TT} {te : TE} {vs : List Nat} {σ : List (Option V)} {H1 : Hp} {Q : Addr → Hp → Prop}
/-- [te for .. if tt]: the places that p keeps, each with R; what stood stands -/
theorem lc_filt (w : Walk J n Gd Y) (p : Nat → Bool) (R : Addr → Hp → V → Nat → Prop) (hn : n ≤ 1000)
    (hst : ∀ D l Ha Hb y i, Ha D = some (.lst l) → (∀ b o, Ha b = some o → b ≠ D → Hb b = some o) → R D Ha y i → R D Hb y i)
    (hG : ∀ H', Same H1 H' → Gd H')
    (he : ∀ D i x H H' (Nx : Hp → Prop), i < n → H1 D = none → Same H1 H → (∃ l, H D = some (.lst l)) → Y i H x H' →
      (∀ y H3, p i = true → Same H H3 → R D H3 y i → ∃ acc, H3 D = some (.lst acc) ∧ acc.length < sizeLine ∧ Nx (upd H3 D (.lst (acc ++ [y])))) → (∀ H3, p i = false → Same H H3 → Nx H3) →
      gt x (wipe σ vs) H' fun σ2 H2 => wipe σ2 vs = wipe σ vs ∧ tt σ2 H2 fun b H3 => if b = true then te σ2 H3 fun y H4 => ∃ acc, H4 D = some (.lst acc) ∧ acc.length < sizeLine ∧ Nx (upd H4 D (.lst (acc ++ [y]))) else Nx H3)
    (hd : ∀ D ys H', H1 D = none → Same H1 H' → H' D = some (.lst ys) → Paired (R D H') ys ((List.range n).filter p) → Q D H') :
    ∀ D, H1 D = none → ∃ W : Nat → Nat → Hp → Prop, (∃ m, W 0 m (upd H1 D (.lst []))) ∧ ∀ i m H, W i m H →
      (J.stop i H ∧ Q D H) ∨ (J.go i H ∧ ∃ Nx : Hp → Prop, (∀ H', Nx H' → ∃ m', m' < m ∧ W (i + 1) m' H') ∧ ∀ x H', J.yld i H x H' → gt x (wipe σ vs) H' fun σ2 H2 => wipe σ2 vs = wipe σ vs ∧ tt σ2 H2 fun b H3 =>
        if b = true then te σ2 H3 fun y H4 => ∃ acc, H4 D = some (.lst acc) ∧ acc.length < sizeLine ∧ Nx (upd H4 D (.lst (acc ++ [y]))) else Nx H3) := by
  intro D hD
  refine lc_it w (fun i H' => ∃ ys, Same H1 H' ∧ H' D = some (.lst ys) ∧ Paired (R D H') ys ((List.range i).filter p)) ⟨[], same_new hD, upd_same, .nil⟩ (fun i H' _ ⟨_, s, _⟩ => hG H' s) ?_ (fun H' ⟨ys, s, h1, h2⟩ => hd D ys H' hD s h1 h2)
  rintro i x H H' hi ⟨ys, s, hl, hp⟩ hy
  have len : ys.length ≤ i := by
    rw [hp.length]
    refine Nat.le_trans (List.length_filter_le _ _) ?_
    rw [List.length_range]
    exact Nat.le_refl _
  refine he D i x H H' _ hi hD s ⟨ys, hl⟩ hy (fun y H3 hpi s3 r => ?_) (fun H3 hpi s3 => ?_)
  · refine ⟨ys, s3 _ _ hl, small1000 (by omega), ys ++ [y], fun b o e => ?_, upd_same, ?_⟩
    · rw [upd_ne (ne_of_none e hD)]
      exact s3 _ _ (s _ _ e)
    · rw [List.range_succ, List.filter_append, List.filter_cons, hpi, if_pos rfl, List.filter_nil]
      have k1 : ∀ b o, H3 b = some o → b ≠ D → (upd H3 D (.lst (ys ++ [y]))) b = some o := fun b o e hb => by
        rw [upd_ne hb]
        exact e
      refine Paired.snoc (hp.mono fun v j r => ?_) (hst D ys H3 _ y i (s3 _ _ hl) k1 r)
      exact hst D ys H _ v j hl (fun b o e hb => k1 b o (s3 b o e) hb) r
  · refine ⟨ys, fun b o e => s3 _ _ (s _ _ e), s3 _ _ hl, ?_⟩
    rw [List.range_succ, List.filter_append, List.filter_cons, hpi, if_neg Bool.false_ne_true, List.filter_nil, List.append_nil]
    exact hp.mono fun v j r => hst D ys H H3 v j hl (fun b o e _ => s3 b o e) r
/-- without tests -/
theorem lc_map (w : Walk J n Gd Y) (R : Addr → Hp → V → Nat → Prop) (hn : n ≤ 1000)
    (hst : ∀ D l Ha Hb y i, Ha D = some (.lst l) → (∀ b o, Ha b = some o → b ≠ D → Hb b = some o) → R D Ha y i → R D Hb y i)
    (hG : ∀ H', Same H1 H' → Gd H')
    (he : ∀ D i x H H' (Nx : V → Hp → Prop), i < n → H1 D = none → Same H1 H → (∃ l, H D = some (.lst l)) → Y i H x H' → (∀ y H3, Same H H3 → R D H3 y i → Nx y H3) →
      gt x (wipe σ vs) H' fun σ2 H2 => wipe σ2 vs = wipe σ vs ∧ te σ2 H2 Nx)
    (hd : ∀ D ys H', H1 D = none → Same H1 H' → H' D = some (.lst ys) → ys.length = n → (∀ i y, ys[i]? = some y → R D H' y i) → Q D H') :
    ∀ D, H1 D = none → ∃ W : Nat → Nat → Hp → Prop, (∃ m, W 0 m (upd H1 D (.lst []))) ∧ ∀ i m H, W i m H →
      (J.stop i H ∧ Q D H) ∨ (J.go i H ∧ ∃ Nx : Hp → Prop, (∀ H', Nx H' → ∃ m', m' < m ∧ W (i + 1) m' H') ∧ ∀ x H', J.yld i H x H' → gt x (wipe σ vs) H' fun σ2 H2 => wipe σ2 vs = wipe σ vs ∧ tYes σ2 H2 fun b H3 =>
        if b = true then te σ2 H3 fun y H4 => ∃ acc, H4 D = some (.lst acc) ∧ acc.length < sizeLine ∧ Nx (upd H4 D (.lst (acc ++ [y]))) else Nx H3) := by
  refine lc_filt w (fun _ => true) R hn hst hG (fun D i x H H' Nx hi hD s hl hy k1 k0 => ?_) (fun D ys H' hD s h1 h2 => ?_)
  · have h := he D i x H H' (fun y H4 => ∃ acc, H4 D = some (.lst acc) ∧ acc.length < sizeLine ∧ Nx (upd H4 D (.lst (acc ++ [y])))) hi hD s hl hy fun y H3 s3 r => k1 y H3 rfl s3 r
    have e : ∀ (σ2 : List (Option V)) (H2 : Hp), (wipe σ2 vs = wipe σ vs ∧ te σ2 H2 fun y H4 => ∃ acc, H4 D = some (.lst acc) ∧ acc.length < sizeLine ∧ Nx (upd H4 D (.lst (acc ++ [y])))) =
        (wipe σ2 vs = wipe σ vs ∧ tYes σ2 H2 fun b H3 => if b = true then te σ2 H3 fun y H4 => ∃ acc, H4 D = some (.lst acc) ∧ acc.length < sizeLine ∧ Nx (upd H4 D (.lst (acc ++ [y]))) else Nx H3) := fun σ2 H2 => by
      show _ = (wipe σ2 vs = wipe σ vs ∧ if true = true then te σ2 H2 fun y H4 => ∃ acc, H4 D = some (.lst acc) ∧ acc.length < sizeLine ∧ Nx (upd H4 D (.lst (acc ++ [y]))) else Nx H2)
      rw [if_pos rfl]
    have e2 := funext fun σ2 => funext fun H2 => e σ2 H2
    rw [← e2]
    exact h
  · have e : (List.range n).filter (fun _ => true) = List.range n := List.filter_eq_self.mpr fun _ _ => rfl
    rw [e] at h2
    refine hd D ys H' hD s h1 (by rw [h2.length, List.length_range]) fun i y hy => ?_
    obtain ⟨j, hj, r⟩ := Pd.getV h2 hy
    obtain ⟨hlt, e3⟩ := List.getElem?_eq_some_iff.mp hj
    rw [List.getElem_range] at e3
    subst e3
    exact r
end
section
variable {K : PySem.W.Frag} {Ha Hb : Hp} {D : Addr} {l : List V}
/-- what is written at a list's place changes no tuple -/
theorem but_tup {a : Addr} {xs : List V} (hD : Ha D = some (.lst l)) (k : ∀ b o, Ha b = some o → b ≠ D → Hb b = some o) (h : SqT K Ha a xs) : SqT K Hb a xs :=
  sqT_keep (fun b o e t => k b o e (ne_of e hD (by
    rcases t with ⟨ys, rfl⟩ | ⟨u, ys, rfl⟩
    · intro z; cases z
    · intro z; cases z))) h
theorem Nm.but {v : V} {q : Rat} (hD : Ha D = some (.lst l)) (k : ∀ b o, Ha b = some o → b ≠ D → Hb b = some o) (h : Nm K Ha v q) : Nm K Hb v q := let ⟨a, e, t⟩ := h; ⟨a, e, but_tup hD k t⟩
theorem Rw.but {v : V} {r : Row} (hD : Ha D = some (.lst l)) (k : ∀ b o, Ha b = some o → b ≠ D → Hb b = some o) (h : Rw K Ha v r) : Rw K Hb v r := by
  cases h with
  | src t hx => exact .src (but_tup hD k t) (hx.but hD k)
  | gear t hx hy => exact .gear (but_tup hD k t) (hx.but hD k) (hy.but hD k)
  | adder t hx => exact .adder (but_tup hD k t) (hx.but hD k)
  | disc t hx => exact .disc (but_tup hD k t) (hx.but hD k)
end
end K79
end

section
set_option linter.all false
set_option maxRecDepth 100000
set_option maxHeartbeats 4000000
/-! K79N: the numbers' defs. -/
namespace K79
open PySem PySem.Spec PyProof.Rows L2

section
variable {g : G}
def spShared : Sp := fun vs H Q _ => ∃ a b : Int, vs = [.int a, .int b] ∧ Q (.int ((a.natAbs.gcd b.natAbs : Nat) : Int)) H
theorem gcd_turn {x y : Int} (hx : 0 ≤ x) (hy : 0 < y) : y.natAbs.gcd (x % y).natAbs = x.natAbs.gcd y.natAbs := by
  obtain ⟨m, rfl⟩ : ∃ m : Nat, x = m := ⟨x.toNat, by omega⟩
  obtain ⟨n, rfl⟩ : ∃ n : Nat, y = n := ⟨y.toNat, by omega⟩
  rw [← Int.natCast_emod, Int.natAbs_natCast, Int.natAbs_natCast, Int.natAbs_natCast, Nat.gcd_comm n, ← Nat.gcd_rec, Nat.gcd_comm]
theorem abs_eq (a : Int) : (if a < 0 then -a else a) = (a.natAbs : Int) := by
  split <;> omega
/-- Euclid's while, the two in slots 0 and 1 (of whatever more slots there are) -/
theorem gcd_while {tc : TT} {tb : TS} {D : Ends} {H : Hp} {rest : List (Option V)} {a b : Nat} (e : tc = tTest (tOp (rI0 fun i j => .bl (decide (j < i))) (tVar 1) (tC (.int 0))))
    (eb : tb = tPar 0 1 (tCons (tVar 1) (tCons (tOp (rI (fun _ j => 0 < j) fun i j => .int (i % j)) (tVar 0) (tVar 1)) tNil))) (h : D.nx (some (.int ((a.gcd b : Nat) : Int)) :: some (.int 0) :: rest) H) :
    tWhile tc tb D (some (.int a) :: some (.int b) :: rest) H := by
  subst e eb
  refine ⟨fun m σ H' => ∃ x y : Nat, σ = some (.int x) :: some (.int y) :: rest ∧ H' = H ∧ m = y ∧ x.gcd y = a.gcd b, ⟨b, a, b, rfl, rfl, rfl, rfl⟩, ?_⟩
  rintro m σ H1 ⟨x, y, rfl, rfl, rfl, eg⟩
  refine ⟨_, rfl, _, _, rfl, rfl, _, rfl, ?_⟩
  by_cases hy : (0 : Int) < (m : Int)
  · rw [decide_eq_true hy]
    refine iteT ⟨fun σ' H' => ∃ x' y' : Nat, y' < m ∧ σ' = some (.int x') :: some (.int y') :: rest ∧ H' = H1 ∧ x'.gcd y' = a.gcd b, fun σ' H' h' => ?_, ?_⟩
    · obtain ⟨x', y', h1, h2, h3, h4⟩ := h'
      exact ⟨y', h1, x', y', h2, h3, rfl, h4⟩
    · refine ⟨_, rfl, _, rfl, _, rfl, _, _, rfl, rfl, hy, _, _, rfl, m, x % m, ?_, ?_, rfl, ?_⟩
      · exact Nat.mod_lt _ (by omega)
      · rw [Int.natCast_emod]
        rfl
      · rw [← eg, Nat.gcd_comm m, ← Nat.gcd_rec, Nat.gcd_comm]
  · rw [decide_eq_false hy]
    refine iteF ?_
    have : m = 0 := by omega
    subst this
    rw [Nat.gcd_zero_right] at eg
    rw [eg]
    exact h

abbrev s_shared : Stmt := top 23
theorem sc_shared : FnScope ["one", "other"] ["one", "other"] (defScope s_shared) := ⟨rfl, rfl, rfl, by decide +kernel, rfl, by decide +kernel, by decide +kernel⟩
theorem ok_shared (T : Txt g) (F : Def g "shared" s_shared ["one", "other"]) : Has g CX0 1 "shared" ["one", "other"] spShared := by
  refine F.ok sc_shared (fun vs H Q E h => ?_) (fun f cdv A outer s H vs Q E hr h => ?_)
  · obtain ⟨a, b, rfl, _⟩ := h
    rfl
  · obtain ⟨a, b, rfl, k⟩ := h
    refine ⟨_, (pss_cons (ps_par (i := 0) (j := 1) (by rfl) sc_shared.nd rfl rfl (by decide) rfl rfl (pa_cons (pe_callB call_abs (by rfl) T.abs (by decide +kernel) (pa_cons (pv 0) pa_nil)) (pa_cons (pe_callB call_abs (by rfl) T.abs (by decide +kernel) (pa_cons (pv 1) pa_nil)) pa_nil)) (by rfl))
      (pss_cons (ps_while PassesOwn.never (pt_cmpR op_gt (pv 1) pe_int (nomark _)) (pss_one (ps_par (i := 0) (j := 1) (by rfl) sc_shared.nd rfl rfl (by decide) rfl rfl (pa_cons (pv 1) (pa_cons (pe_op op_mod (pv 0) (pv 1)) pa_nil)) (by rfl))))
      (pss_one (ps_ret (pv 0))))), ?_⟩
    refine ⟨_, rfl, a, rfl, _, rfl, b, rfl, _, _, rfl, ?_⟩
    rw [abs_eq, abs_eq]
    exact gcd_while (rest := []) rfl rfl ⟨_, rfl, k⟩

/-- top over bottom, the bottom above 0 -/
def spFraction (K : PySem.W.Frag) : Sp := fun vs H Q _ => ∃ a b : Int, vs = [.int a, .int b] ∧ 0 < b ∧ b < 2 ^ 9000 ∧ ∀ v H', Same H H' → Nm K H' v (mkRat a b.toNat) → Q v H'
theorem fit_div {a b : Int} (hb : 0 < b) (h9 : b < 2 ^ 9000) : CDivW a ((a.natAbs.gcd b.natAbs : Nat) : Int) := by
  have h1 : 0 < a.natAbs.gcd b.natAbs := Nat.gcd_pos_of_pos_right _ (by omega)
  have h2 : a.natAbs.gcd b.natAbs ≤ b.natAbs := Nat.le_of_dvd (by omega) (Nat.gcd_dvd_right _ _)
  refine wide_div (by omega) (b := 9000) ?_ (by decide) (by decide)
  rw [Int.natAbs_natCast]
  refine Nat.lt_of_le_of_lt h2 ?_
  have h3 : ((b.natAbs : Nat) : Int) < ((2 ^ 9000 : Nat) : Int) := by
    rw [Int.natCast_pow]
    have : ((b.natAbs : Nat) : Int) = b := by omega
    rw [this]
    exact h9
  exact Int.ofNat_lt.mp h3
theorem fit_div2 {a b c : Int} (hb : 0 < b) (h9 : b < 2 ^ 9000) : CDivW c ((a.natAbs.gcd b.natAbs : Nat) : Int) := fit_div (a := a) hb h9
abbrev s_fraction : Stmt := top 25
theorem sc_fraction : FnScope ["top", "bottom", "common"] ["top", "bottom"] (defScope s_fraction) := ⟨rfl, rfl, rfl, by decide +kernel, rfl, by decide +kernel, by decide +kernel⟩
theorem ok_fraction (T : Txt g) (F : Def g "fraction" s_fraction ["top", "bottom"]) (G_shared : Has g CX0 1 "shared" ["one", "other"] spShared) : Has g CX0 2 "fraction" ["top", "bottom"] (spFraction g.K) := by
  refine F.ok sc_fraction (fun vs H Q E h => ?_) (fun f cdv A outer s H vs Q E hr h => ?_)
  · obtain ⟨a, b, rfl, _⟩ := h
    rfl
  · obtain ⟨a, b, rfl, hb, h9, k⟩ := h
    refine ⟨_, (pss_cons (ps_if (pt_cmpR op_eq (pv 1) pe_int (nomark _)) (pss_one ps_never) pss_nil)
      (pss_cons (ps_set (i := 2) sc_fraction.nd rfl (Or.inl rfl) (pe_has G_shared hr (by decide) pass0 (pa_cons (pv 0) (pa_cons (pv 1) pa_nil))))
      (pss_cons (ps_if (pt_cmpR op_lt (pv 1) pe_int (nomark _)) (pss_one (ps_set (i := 2) sc_fraction.nd rfl (Or.inl rfl) (pe_op op_sub pe_int (pv 2)))) pss_nil)
      (pss_one (ps_ret (pe_tup (pa_cons (pe_op op_fdivW (pv 0) (pv 2)) (pa_cons (pe_op op_fdivW (pv 1) (pv 2)) pa_nil)))))))), ?_⟩
    -- if bottom == 0
    refine ⟨_, rfl, rfl, _, rfl, ?_⟩
    rw [decide_eq_false (show ¬ (V.int b = V.int 0) from fun e => by injection e with e; omega)]
    refine iteF ?_
    refine ⟨_, rfl, _, rfl, a, b, rfl, ?_⟩
    -- if bottom < 0
    refine ⟨_, rfl, _, _, rfl, rfl, _, rfl, ?_⟩
    rw [decide_eq_false (show ¬ b < 0 by omega)]
    refine iteF ?_
    refine ⟨_, rfl, _, rfl, _, _, rfl, rfl, fit_div hb h9, _, rfl, _, rfl, _, _, rfl, rfl, fit_div2 hb h9, (by show 2 ≤ sizeLine; decide), fun p hp => ?_⟩
    refine k _ _ (same_new hp) (Nm.new ?_)
    show [V.int (a / ((a.natAbs.gcd b.natAbs : Nat) : Int)), V.int (b / ((a.natAbs.gcd b.natAbs : Nat) : Int))] = _
    rw [(low_eq hb).1, (low_eq hb).2]

theorem fit_nd {a b : Rat} (h : Fit a b) : CMulW a.num (b.den : Int) := by
  refine wide_mul (a := 400000) (b := 9000) h.na ?_ (by decide) (by decide) (by decide)
  rw [Int.natAbs_natCast]
  refine Nat.lt_of_le_of_lt ?_ h.den
  exact Nat.le_mul_of_pos_left _ a.den_pos
theorem fit_dd {a b : Rat} (h : Fit a b) : CMulW (a.den : Int) (b.den : Int) := by
  refine wide_mul (a := 9000) (b := 9000) ?_ ?_ (by decide) (by decide) (by decide)
  · rw [Int.natAbs_natCast]
    exact Nat.lt_of_le_of_lt (Nat.le_mul_of_pos_right _ b.den_pos) h.den
  · rw [Int.natAbs_natCast]
    exact Nat.lt_of_le_of_lt (Nat.le_mul_of_pos_left _ a.den_pos) h.den
theorem fit_nn {a b : Rat} (h : Fit a b) : CMulW a.num b.num := wide_mul (a := 400000) (b := 400000) h.na h.nb (by decide) (by decide) (by decide)
theorem fit_dpos (a b : Rat) : (0 : Int) < (a.den : Int) * (b.den : Int) := by
  rw [← Int.natCast_mul]
  have := Nat.mul_pos a.den_pos b.den_pos
  omega
theorem fit_dlt {a b : Rat} (h : Fit a b) : (a.den : Int) * (b.den : Int) < 2 ^ 9000 := by
  rw [← Int.natCast_mul]
  have h1 : ((a.den * b.den : Nat) : Int) < ((2 ^ 9000 : Nat) : Int) := Int.ofNat_lt.mpr h.den
  rw [Int.natCast_pow] at h1
  exact h1
theorem den_mul_nat (a b : Rat) : ((a.den : Int) * (b.den : Int)).toNat = a.den * b.den := by
  rw [← Int.natCast_mul, Int.toNat_natCast]
/-- two numbers, their sum | product -/
def spPlus (K : PySem.W.Frag) : Sp := fun vs H Q _ => ∃ (v w : V) (a b : Rat), vs = [v, w] ∧ Nm K H v a ∧ Nm K H w b ∧ Fit a b ∧ ∀ u H', Same H H' → Nm K H' u (a + b) → Q u H'
def spTimes (K : PySem.W.Frag) : Sp := fun vs H Q _ => ∃ (v w : V) (a b : Rat), vs = [v, w] ∧ Nm K H v a ∧ Nm K H w b ∧ Fit a b ∧ ∀ u H', Same H H' → Nm K H' u (a * b) → Q u H'
abbrev s_plus : Stmt := top 26
theorem sc_plus : FnScope ["one", "other"] ["one", "other"] (defScope s_plus) := ⟨rfl, rfl, rfl, by decide +kernel, rfl, by decide +kernel, by decide +kernel⟩
theorem ok_plus (T : Txt g) (F : Def g "plus" s_plus ["one", "other"]) (G_fraction : Has g CX0 2 "fraction" ["top", "bottom"] (spFraction g.K)) : Has g CX0 3 "plus" ["one", "other"] (spPlus g.K) := by
  refine F.ok sc_plus (fun vs H Q E h => ?_) (fun f cdv A outer s H vs Q E hr h => ?_)
  · obtain ⟨v, w, a, b, rfl, _⟩ := h
    rfl
  · obtain ⟨v, w, a, b, rfl, hv, hw, ft, k⟩ := h
    refine ⟨_, (pss_one (ps_ret (pe_has G_fraction hr (by decide) pass0 (pa_cons (pe_op op_add (pe_op op_mulW (pe_ix (ix_tupK (K := g.K)) (pv 0) pe_int (fun _ _ => rfl)) (pe_ix (ix_tupK (K := g.K)) (pv 1) pe_int (fun _ _ => rfl))) (pe_op op_mulW (pe_ix (ix_tupK (K := g.K)) (pv 1) pe_int (fun _ _ => rfl)) (pe_ix (ix_tupK (K := g.K)) (pv 0) pe_int (fun _ _ => rfl)))) (pa_cons (pe_op op_mulW (pe_ix (ix_tupK (K := g.K)) (pv 0) pe_int (fun _ _ => rfl)) (pe_ix (ix_tupK (K := g.K)) (pv 1) pe_int (fun _ _ => rfl))) pa_nil))))), ?_⟩
    obtain ⟨pa, rfl, ta⟩ := hv
    obtain ⟨pb, rfl, tb⟩ := hw
    refine ⟨_, rfl, _, _, _, _, rfl, rfl, ta, rfl, _, rfl, _, _, _, _, rfl, rfl, tb, rfl, _, _, rfl, rfl, fit_nd ft, _, rfl, _, _, _, _, rfl, rfl, tb, rfl, _, rfl, _, _, _, _, rfl, rfl, ta, rfl, _, _, rfl, rfl, fit_nd ft.symm, _, _, rfl, rfl,
      _, rfl, _, _, _, _, rfl, rfl, ta, rfl, _, rfl, _, _, _, _, rfl, rfl, tb, rfl, _, _, rfl, rfl, fit_dd ft, _, _, rfl, fit_dpos a b, fit_dlt ft, fun u H' s1 hu => ?_⟩
    rw [den_mul_nat, ← Rat.add_def'] at hu
    exact k u H' s1 hu
abbrev s_times : Stmt := top 27
theorem sc_times : FnScope ["one", "other"] ["one", "other"] (defScope s_times) := ⟨rfl, rfl, rfl, by decide +kernel, rfl, by decide +kernel, by decide +kernel⟩
theorem ok_times (T : Txt g) (F : Def g "times" s_times ["one", "other"]) (G_fraction : Has g CX0 2 "fraction" ["top", "bottom"] (spFraction g.K)) : Has g CX0 3 "times" ["one", "other"] (spTimes g.K) := by
  refine F.ok sc_times (fun vs H Q E h => ?_) (fun f cdv A outer s H vs Q E hr h => ?_)
  · obtain ⟨v, w, a, b, rfl, _⟩ := h
    rfl
  · obtain ⟨v, w, a, b, rfl, hv, hw, ft, k⟩ := h
    refine ⟨_, (pss_one (ps_ret (pe_has G_fraction hr (by decide) pass0 (pa_cons (pe_op op_mulW (pe_ix (ix_tupK (K := g.K)) (pv 0) pe_int (fun _ _ => rfl)) (pe_ix (ix_tupK (K := g.K)) (pv 1) pe_int (fun _ _ => rfl))) (pa_cons (pe_op op_mulW (pe_ix (ix_tupK (K := g.K)) (pv 0) pe_int (fun _ _ => rfl)) (pe_ix (ix_tupK (K := g.K)) (pv 1) pe_int (fun _ _ => rfl))) pa_nil))))), ?_⟩
    obtain ⟨pa, rfl, ta⟩ := hv
    obtain ⟨pb, rfl, tb⟩ := hw
    refine ⟨_, rfl, _, _, _, _, rfl, rfl, ta, rfl, _, rfl, _, _, _, _, rfl, rfl, tb, rfl, _, _, rfl, rfl, fit_nn ft, _, rfl, _, _, _, _, rfl, rfl, ta, rfl, _, rfl, _, _, _, _, rfl, rfl, tb, rfl, _, _, rfl, rfl, fit_dd ft, _, _, rfl, fit_dpos a b, fit_dlt ft, fun u H' s1 hu => ?_⟩
    rw [den_mul_nat, ← Rat.mul_def'] at hu
    exact k u H' s1 hu
/-- over a whole number above 0 -/
def spOver (K : PySem.W.Frag) : Sp := fun vs H Q _ => ∃ (v w : V) (a : Rat) (n : Nat), vs = [v, w] ∧ Nm K H v a ∧ Nm K H w (n : Rat) ∧ 0 < n ∧ n < 2 ^ 64 ∧ Fit a (n : Rat) ∧ a.den * n < 2 ^ 9000 ∧ ∀ u H', Same H H' → Nm K H' u (a / (n : Rat)) → Q u H'
theorem over_eq (a : Rat) {n : Nat} (hn : 0 < n) : mkRat (a.num * ((n : Rat).den : Int)) ((a.den : Int) * (n : Rat).num).toNat = a / (n : Rat) := by
  rw [Rat.den_natCast, Rat.num_natCast, Int.natCast_one, Int.mul_one, ← Int.natCast_mul, Int.toNat_natCast]
  have h1 : mkRat a.num (a.den * n) = a * mkRat 1 n := by
    have h2 : a * mkRat 1 n = mkRat a.num a.den * mkRat 1 n := by rw [Rat.mkRat_self]
    rw [h2, Rat.mkRat_mul_mkRat, Int.mul_one]
  rw [h1, Rat.div_def, Rat.inv_def, Rat.den_natCast, Rat.num_natCast, Rat.divInt_ofNat]
  rfl
abbrev s_over : Stmt := top 28
theorem sc_over : FnScope ["one", "other"] ["one", "other"] (defScope s_over) := ⟨rfl, rfl, rfl, by decide +kernel, rfl, by decide +kernel, by decide +kernel⟩
theorem ok_over (T : Txt g) (F : Def g "over" s_over ["one", "other"]) (G_fraction : Has g CX0 2 "fraction" ["top", "bottom"] (spFraction g.K)) : Has g CX0 3 "over" ["one", "other"] (spOver g.K) := by
  refine F.ok sc_over (fun vs H Q E h => ?_) (fun f cdv A outer s H vs Q E hr h => ?_)
  · obtain ⟨v, w, a, n, rfl, _⟩ := h
    rfl
  · obtain ⟨v, w, a, n, rfl, hv, hw, hn, hn64, ft, h9, k⟩ := h
    refine ⟨_, (pss_one (ps_ret (pe_has G_fraction hr (by decide) pass0 (pa_cons (pe_op op_mulW (pe_ix (ix_tupK (K := g.K)) (pv 0) pe_int (fun _ _ => rfl)) (pe_ix (ix_tupK (K := g.K)) (pv 1) pe_int (fun _ _ => rfl))) (pa_cons (pe_op op_mulW (pe_ix (ix_tupK (K := g.K)) (pv 0) pe_int (fun _ _ => rfl)) (pe_ix (ix_tupK (K := g.K)) (pv 1) pe_int (fun _ _ => rfl))) pa_nil))))), ?_⟩
    have c2 : CMulW (a.den : Int) ((n : Rat).num) := by
      refine wide_mul (a := 9000) (b := 64) ?_ ?_ (by decide) (by decide) (by decide)
      · rw [Int.natAbs_natCast]
        exact Nat.lt_of_le_of_lt (Nat.le_mul_of_pos_right _ hn) h9
      · rw [Rat.num_natCast, Int.natAbs_natCast]
        exact hn64
    have p1 : (0 : Int) < (a.den : Int) * (n : Rat).num := by
      rw [Rat.num_natCast, ← Int.natCast_mul]
      have := Nat.mul_pos a.den_pos hn
      omega
    have p2 : (a.den : Int) * (n : Rat).num < 2 ^ 9000 := by
      rw [Rat.num_natCast, ← Int.natCast_mul]
      have h1 : ((a.den * n : Nat) : Int) < ((2 ^ 9000 : Nat) : Int) := Int.ofNat_lt.mpr h9
      rw [Int.natCast_pow] at h1
      exact h1
    obtain ⟨pa, rfl, ta⟩ := hv
    obtain ⟨pb, rfl, tb⟩ := hw
    refine ⟨_, rfl, _, _, _, _, rfl, rfl, ta, rfl, _, rfl, _, _, _, _, rfl, rfl, tb, rfl, _, _, rfl, rfl, fit_nd ft, _, rfl, _, _, _, _, rfl, rfl, ta, rfl, _, rfl, _, _, _, _, rfl, rfl, tb, rfl, _, _, rfl, rfl, c2, _, _, rfl, p1, p2, fun u H' s1 hu => ?_⟩
    rw [over_eq a hn] at hu
    exact k u H' s1 hu
def spWhole (K : PySem.W.Frag) : Sp := fun vs H Q _ => ∃ (n : Int), vs = [.int n] ∧ ∀ u H', Same H H' → Nm K H' u (n : Rat) → Q u H'
abbrev s_whole : Stmt := top 29
theorem sc_whole : FnScope ["n"] ["n"] (defScope s_whole) := ⟨rfl, rfl, rfl, by decide +kernel, rfl, by decide +kernel, by decide +kernel⟩
theorem ok_whole (T : Txt g) (F : Def g "whole" s_whole ["n"]) : Has g CX0 1 "whole" ["n"] (spWhole g.K) := by
  refine F.ok sc_whole (fun vs H Q E h => ?_) (fun f cdv A outer s H vs Q E hr h => ?_)
  · obtain ⟨n, rfl, _⟩ := h
    rfl
  · obtain ⟨n, rfl, k⟩ := h
    refine ⟨_, (pss_one (ps_ret (pe_tup (pa_cons (pv 0) (pa_cons pe_int pa_nil))))), ?_⟩
    exact ⟨_, rfl, (by show 2 ≤ sizeLine; decide), fun p hp => k _ _ (same_new hp) (Nm.new rfl)⟩
/-- one above the other -/
def spAbove (K : PySem.W.Frag) : Sp := fun vs H Q _ => ∃ (v w : V) (a b : Rat), vs = [v, w] ∧ Nm K H v a ∧ Nm K H w b ∧ Fit a b ∧ Q (.bl (decide (b < a))) H
abbrev s_is_above : Stmt := top 30
theorem sc_is_above : FnScope ["one", "other"] ["one", "other"] (defScope s_is_above) := ⟨rfl, rfl, rfl, by decide +kernel, rfl, by decide +kernel, by decide +kernel⟩
theorem ok_is_above (T : Txt g) (F : Def g "is_above" s_is_above ["one", "other"]) : Has g CX0 1 "is_above" ["one", "other"] (spAbove g.K) := by
  refine F.ok sc_is_above (fun vs H Q E h => ?_) (fun f cdv A outer s H vs Q E hr h => ?_)
  · obtain ⟨v, w, a, b, rfl, _⟩ := h
    rfl
  · obtain ⟨v, w, a, b, rfl, hv, hw, ft, k⟩ := h
    refine ⟨_, (pss_one (ps_ret (pe_cmpR op_gt (pe_op op_mulW (pe_ix (ix_tupK (K := g.K)) (pv 0) pe_int (fun _ _ => rfl)) (pe_ix (ix_tupK (K := g.K)) (pv 1) pe_int (fun _ _ => rfl))) (pe_op op_mulW (pe_ix (ix_tupK (K := g.K)) (pv 1) pe_int (fun _ _ => rfl)) (pe_ix (ix_tupK (K := g.K)) (pv 0) pe_int (fun _ _ => rfl))) (nomark _)))), ?_⟩
    obtain ⟨pa, rfl, ta⟩ := hv
    obtain ⟨pb, rfl, tb⟩ := hw
    refine ⟨_, rfl, _, _, _, _, rfl, rfl, ta, rfl, _, rfl, _, _, _, _, rfl, rfl, tb, rfl, _, _, rfl, rfl, fit_nd ft, _, rfl, _, _, _, _, rfl, rfl, tb, rfl, _, rfl, _, _, _, _, rfl, rfl, ta, rfl, _, _, rfl, rfl, fit_nd ft.symm, _, _, rfl, rfl, ?_⟩
    show Q (.bl (decide (b.num * (a.den : Int) < a.num * (b.den : Int)))) H
    rw [lt_rat]
    exact k
/-- whole numbers alone -/
def spIsWhole : Sp := fun vs H Q _ => ∃ (n : Int), vs = [.int n] ∧ Q (.bl true) H
abbrev s_is_whole : Stmt := top 22
theorem sc_is_whole : FnScope ["thing"] ["thing"] (defScope s_is_whole) := ⟨rfl, rfl, rfl, by decide +kernel, rfl, by decide +kernel, by decide +kernel⟩
theorem ok_is_whole (T : Txt g) (F : Def g "is_whole" s_is_whole ["thing"]) : Has g CX0 1 "is_whole" ["thing"] spIsWhole := by
  refine F.ok sc_is_whole (fun vs H Q E h => ?_) (fun f cdv A outer s H vs Q E hr h => ?_)
  · obtain ⟨n, rfl, _⟩ := h
    rfl
  · obtain ⟨n, rfl, k⟩ := h
    refine ⟨_, (pss_one (ps_ret (pe_and (pe_callB (call_isiK' (K := g.K)) (by rfl) T.isinstance (by decide +kernel) (pa_cons (pv 0) (pa_cons (pe_bltn (v := .ty "int") (by rfl) T.int (by decide +kernel) rfl) pa_nil))) (pe_one (pe_not (pe_callB (call_isiK' (K := g.K)) (by rfl) T.isinstance (by decide +kernel) (pa_cons (pv 0) (pa_cons (pe_bltn (v := .ty "bool") (by rfl) T.bool (by decide +kernel) rfl) pa_nil)))))))), ?_⟩
    refine ⟨_, rfl, _, _, _, _, _, rfl, .ty "int", .base (.int n), kit_ty (b := "int") (by decide +kernel), _, rfl, iteT ?_⟩
    exact ⟨_, rfl, _, _, _, _, _, rfl, .ty "bool", .base (.int n), kit_ty (b := "bool") (r := false) (by decide +kernel), _, rfl, k⟩
/-- a number is one -/
def spIsNumber (K : PySem.W.Frag) : Sp := fun vs H Q _ => ∃ (v : V) (q : Rat), vs = [v] ∧ Nm K H v q ∧ Q (.bl true) H
theorem tyx_tup {K : PySem.W.Frag} {H : Hp} {a : Addr} {xs : List V} (h : SqT K H a xs) : TyX K H (.ref a) (.type "tuple") := by
  rcases h with (h | ⟨o, h⟩) | ⟨o, its, n, h1, h2, h3, h4, h5⟩
  · exact .base (.tup h)
  · exact .fTuple h
  · exact .kTuple h1 h2
abbrev s_is_number : Stmt := top 24
theorem sc_is_number : FnScope ["thing"] ["thing"] (defScope s_is_number) := ⟨rfl, rfl, rfl, by decide +kernel, rfl, by decide +kernel, by decide +kernel⟩
theorem ok_is_number (T : Txt g) (F : Def g "is_number" s_is_number ["thing"]) (G_shared : Has g CX0 1 "shared" ["one", "other"] spShared) (G_is_whole : Has g CX0 1 "is_whole" ["thing"] spIsWhole) : Has g CX0 2 "is_number" ["thing"] (spIsNumber g.K) := by
  refine F.ok sc_is_number (fun vs H Q E h => ?_) (fun f cdv A outer s H vs Q E hr h => ?_)
  · obtain ⟨v, q, rfl, _⟩ := h
    rfl
  · obtain ⟨v, q, rfl, hv, k⟩ := h
    refine ⟨_, (pss_cons (ps_if (PW.pt (pw_or (pt_not (pt_val (pe_callB (call_isiK' (K := g.K)) (by rfl) T.isinstance (by decide +kernel) (pa_cons (pv 0) (pa_cons (pe_bltn (v := .ty "tuple") (by rfl) T.tuple (by decide +kernel) rfl) pa_nil))))) (pw_or (pt_cmpR op_ne (pe_callB (call_lenK (K := g.K)) (by rfl) T.len PySem.boot_len (pa_cons (pv 0) pa_nil)) pe_int (nomark _)) (pw_or (pt_not (pt_val (pe_has G_is_whole hr (by decide) pass0 (pa_cons (pe_ix (ix_tupK (K := g.K)) (pv 0) pe_int (fun _ _ => rfl)) pa_nil)))) (pw_or1 (pt_not (pt_val (pe_has G_is_whole hr (by decide) pass0 (pa_cons (pe_ix (ix_tupK (K := g.K)) (pv 0) pe_int (fun _ _ => rfl)) pa_nil))))))))) (pss_one (ps_ret pe_bl)) pss_nil)
      (pss_one (ps_ret (pe_and (pe_cmpR op_ge (pe_ix (ix_tupK (K := g.K)) (pv 0) pe_int (fun _ _ => rfl)) pe_int (nomark _)) (pe_one (pe_cmpR op_eq (pe_has G_shared hr (by decide) pass0 (pa_cons (pe_ix (ix_tupK (K := g.K)) (pv 0) pe_int (fun _ _ => rfl)) (pa_cons (pe_ix (ix_tupK (K := g.K)) (pv 0) pe_int (fun _ _ => rfl)) pa_nil))) pe_int (nomark _))))))), ?_⟩
    obtain ⟨pa, rfl, ta⟩ := hv
    refine ⟨_, rfl, _, _, _, _, _, rfl, .ty "tuple", tyx_tup ta, kit_ty (b := "tuple") (r := true) (by decide +kernel), _, rfl, iteF ?_⟩
    refine ⟨_, rfl, _, _, rfl, .inr ta, rfl, _, rfl, iteF ?_⟩
    refine ⟨_, rfl, _, _, _, _, rfl, rfl, ta, rfl, _, rfl, _, rfl, iteF ?_⟩
    refine ⟨_, rfl, _, _, _, _, rfl, rfl, ta, rfl, _, rfl, _, rfl, iteF ?_⟩
    have hp : (1 : Int) ≤ (q.den : Int) := by
      have := q.den_pos
      omega
    refine ⟨_, rfl, _, _, _, _, rfl, rfl, ta, rfl, _, _, rfl, rfl, _, rfl, ?_⟩
    rw [decide_eq_true hp]
    refine iteT ⟨_, rfl, _, _, _, _, rfl, rfl, ta, rfl, _, rfl, _, _, _, _, rfl, rfl, ta, rfl, _, _, rfl, rfl, ?_⟩
    have e : q.num.natAbs.gcd ((q.den : Int)).natAbs = 1 := by
      rw [Int.natAbs_natCast]
      exact q.reduced
    show Q (.bl (decide (V.int ((q.num.natAbs.gcd ((q.den : Int)).natAbs : Nat) : Int) = V.int 1))) H
    rw [e]
    exact k
end
end K79
end

section
set_option linter.all false
set_option maxRecDepth 100000
set_option maxHeartbeats 4000000
/-! K79D: list(d.keys()); a dict of shafts. -/
namespace K79
open PySem PySem.Spec PyProof.Rows L2
/-- a new list of the keys, in their order -/
def tListKeys (te : TE) : TE := fun σ H Q => te σ H fun x H1 => ∃ (d : Addr) (kvs : List (Key × V)), x = .ref d ∧ H1 d = some (.dK kvs) ∧ ∀ p, H1 p = none → Q (.ref p) (upd H1 p (.lst (kvs.map fun kv => kV kv.1)))
theorem vals_of_at : ∀ {xs : List V} {us : List Value}, xs.length = us.length → (∀ (i : Nat) (x : V) (u : Value), xs[i]? = some x → us[i]? = some u → RelV x u) → Vals xs us
  | [], [], _, _ => .nil
  | [], _ :: _, h, _ => nomatch h
  | _ :: _, [], h, _ => nomatch h
  | x :: xs, u :: us, h, f => .cons (f 0 x u rfl rfl) (vals_of_at (by simpa using h) fun i x' u' h1 h2 => f (i + 1) x' u' (by simpa using h1) (by simpa using h2))
section
variable {X : Cx} {e : Expr} {te : TE} {p apos cpos pos : Pos}
theorem pe_listKeys (hc : X.calm = true) (hg : Gl X "list") (hm : X.mg "list" = none) (he : PE X e te) (hbase : attributeBase e "keys" X.env (eval e X.env) = eval e X.env := by rfl) (hline : (apos.endLine == cpos.line) = true := by rfl)
    (hs : starEach [.Call (.Attribute e "keys" apos) [] [] cpos] X.env = (false, eval (.Call (.Attribute e "keys" apos) [] [] cpos) X.env) :: starEach [] X.env := by rfl) :
    PE X (.Call (.Name "list" p) [.Call (.Attribute e "keys" apos) [] [] cpos] [] pos) (tListKeys te) := by
  have hv : bootBuiltins "list" = some (.type "list") := by decide +kernel
  refine ⟨fun pins s σ H Q I hq => ?_⟩
  refine wpAny_Call_Name_kw (ld_blt I hg hm hv ?_)
  refine PyProof.Rows.callWith_type1 ?_ hs rfl
  rw [hs]
  show wpAny _ _ (spliced ((false, eval (.Call (.Attribute e "keys" apos) [] [] cpos) X.env) :: backTo pos (starEach [] X.env))) _ _ s
  refine Calls.spliced_cons ?_
  refine wpAny_Call_method (T := "dict") (id := "dict.keys") hbase rfl hline F.plainAttrs_dict F.slot_dict_keys F.type_dict_keys (thn (he.run pins s σ H _ I hq) fun u s1 ⟨x, H1, I1, rx, d, kvs, ex, hd, q⟩ => ?_)
  subst ex
  obtain rfl : u = Value.ref d := rx
  obtain ⟨hz, hs0, vs, kv, hdo⟩ := I1.hok d _ hd
  obtain ⟨ep, hat⟩ := hdo.dictAt
  have lk : kvs.length = vs.length := Paired.length kv
  have I2 : Inv X pins σ H1 { s1 with heap := s1.heap.push { cls := .type "dict_keys", data := .fields #[.ref d] } } := I1.kept (t' := s1.toks) fun b ob q => Heap.get?_push_of_some _ q
  refine ⟨hdo.typeIs, hdo.mapOf.noDict, ?_⟩
  show wpAny _ _ (callWith cpos (.builtin "dict.keys") [.ref d] [] []) _ X.xe s1
  refine method_meetsIn F.slot_dict_keys F.entry_dict_keys rfl (PySem.evalArgs_none ⟨rfl, hdo.typeIs, F.args_dict_keys_1 _, _, PySem.W.kdl_meets_keys (mixKind X.prog X.w) d hs0, ⟨vs, hdo⟩, ?_⟩)
  refine Calls.spliced_nil ?_
  refine PySem.W.kdl_call (PySem.W.kdl_keys (knd := mixKind X.prog X.w) (kvs := vs) (ep := ep)) (I1.ok.hd hc) ⟨⟨_, Heap.get?_push_size _ rfl, rfl, rfl⟩, hat.push _⟩ (by omega) fun h' tk acc c hk hS hacc => ?_
  have hn : H1 (s1.heap.push { cls := .type "dict_keys", data := .fields #[.ref d] }).objs.size = none := I2.hok.fresh (Nat.le_refl _)
  have rel : Vals (kvs.map fun kv => kV kv.1) acc.toList := by
    refine vals_of_at (by have z : acc.size = vs.length := hacc.1; rw [List.length_map, lk, ← z]; simp) fun i x u h1 h2 => ?_
    rw [List.getElem?_map] at h1
    obtain ⟨pk, hpk, ex⟩ := Option.map_eq_some_iff.mp h1
    obtain ⟨k, y, hv2, his⟩ := hacc.2 i u (by rw [← Array.getElem?_toList]; exact h2)
    have hky : pk.1 = k := by
      have : ∀ {l1 : List (Key × V)} {l2 : List (Key × Value)}, KV l1 l2 → ∀ {i : Nat} {a : Key × V} {b : Key × Value}, l1[i]? = some a → l2[i]? = some b → a.1 = b.1 := by
        intro l1 l2 h
        induction h with
        | nil => intro i a b h; simp at h
        | cons r t ih =>
          intro i a b h1 h2
          cases i with
          | zero =>
            simp at h1 h2
            subst h1 h2
            exact r.1
          | succ i => exact ih (by simpa using h1) (by simpa using h2)
      exact this kv hpk hv2
    rw [← ex, hky]
    rcases keyIs_shape his with ⟨j, t, rfl, rfl⟩ | ⟨z, t, rfl, rfl⟩
    · exact ⟨t, rfl⟩
    · exact ⟨t, rfl⟩
  have J := I2.laid (t' := tk) (o := .lst (kvs.map fun kv => kV kv.1)) hk (Nat.le_refl _) ⟨by rw [List.length_map]; omega, acc.toList, c, rel, by rw [Array.toArray_toList]; exact hS⟩
  exact ⟨.ref _, _, J, rfl, q _ hn⟩
end
/-- the dict of the shafts that stand -/
def dkv (st : List Nat) : List (Key × V) := st.map fun k : Nat => ((Sum.inl (k : Int) : Key), V.bl true)
theorem dkv_at (st : List Nat) (k : Nat) : (valV (dkv st) (Sum.inl (k : Int))).isSome = st.contains k := by
  rw [← valV_any]
  unfold dkv
  rw [List.any_map]
  rw [Bool.eq_iff_iff, List.any_eq_true, List.contains_iff_mem]
  constructor
  · rintro ⟨j, hj, e⟩
    have e2 := of_decide_eq_true e
    have e3 : ((j : Int)) = (k : Int) := Sum.inl.inj e2
    have : j = k := by omega
    subst this
    exact hj
  · intro hk
    exact ⟨k, hk, decide_eq_true rfl⟩
theorem dkv_put {st : List Nat} {k : Nat} (h : k ∉ st) : putK (dkv st) (Sum.inl (k : Int)) (V.bl true) = dkv (st ++ [k]) := by
  rw [putK_new]
  · unfold dkv
    rw [List.map_append]
    rfl
  · have e := dkv_at st k
    have e2 : st.contains k = false := by simpa using h
    rw [e2] at e
    cases q : valV (dkv st) (Sum.inl (k : Int)) with
    | none => rfl
    | some v => rw [q] at e; cases e
/-- whole numbers from 0 on as values -/
def nV (l : List Nat) : List V := l.map fun j : Nat => V.int (j : Int)
theorem dkv_keys (st : List Nat) : ((dkv st).map fun kv => kV kv.1) = nV st := by
  unfold dkv nV
  rw [List.map_map]
  rfl
/-- a list of whole numbers as data -/
def nD (l : List Nat) : PyData := .list (l.map fun j : Nat => PyData.int (j : Int))
theorem dpAll_ints {K : PySem.W.Frag} {H : Hp} : ∀ l : List Int, DpAll K H (l.map V.int) (l.map PyData.int)
  | [] => .nil
  | i :: l => .cons (.int i) (dpAll_ints l)
theorem dp_ints {K : PySem.W.Frag} {H : Hp} {a : Addr} {l : List Int} (h : SqL K H a (l.map V.int)) : Dp K H (.ref a) (.list (l.map PyData.int)) := .lst h (dpAll_ints l)
theorem shaped_all : ∀ (ds : List PyData), (∀ d ∈ ds, d.canLay0 = true) → PyData.canLayAll0 ds = true
  | [], _ => rfl
  | d :: ds, h => by
    show (d.canLay0 && PyData.canLayAll0 ds) = true
    rw [h d List.mem_cons_self, shaped_all ds fun x hx => h x (List.mem_cons_of_mem _ hx)]
    rfl
theorem depth_all {n : Nat} : ∀ (ds : List PyData), (∀ d ∈ ds, d.depth ≤ n) → PyData.depthAll ds ≤ n
  | [], _ => Nat.zero_le _
  | d :: ds, h => by
    show max d.depth (PyData.depthAll ds) ≤ n
    exact Nat.max_le.mpr ⟨h d List.mem_cons_self, depth_all ds fun x hx => h x (List.mem_cons_of_mem _ hx)⟩
theorem shaped_ints (l : List Int) : SeqAt.shaped (.list (l.map PyData.int)) = true := by
  unfold SeqAt.shaped
  rw [Bool.and_eq_true]
  refine ⟨shaped_all _ fun d hd => ?_, decide_eq_true ?_⟩
  · obtain ⟨i, _, rfl⟩ := List.mem_map.mp hd
    rfl
  · show PyData.depthAll (l.map PyData.int) + 1 ≤ 64
    have := depth_all (n := 0) (l.map PyData.int) fun d hd => by
      obtain ⟨i, _, rfl⟩ := List.mem_map.mp hd
      exact Nat.le_refl 0
    omega
theorem eqv_nil (ds : List PyData) : PyData.eqv (.list ds) (.list []) = ds.isEmpty := by
  cases ds <;> rfl
end K79
end

section
set_option linter.all false
set_option maxRecDepth 100000
set_option maxHeartbeats 4000000
/-! K79M: machines' defs. -/
namespace K79
open PySem PySem.Spec PyProof.Rows L2

section
variable {g : G}
/-- a shaft below many -/
def spIsShaft : Sp := fun vs H Q _ => ∃ (j n : Nat), vs = [.int j, .int n] ∧ j < n ∧ Q (.bl true) H
abbrev s_is_shaft : Stmt := top 33
theorem sc_is_shaft : FnScope ["thing", "many"] ["thing", "many"] (defScope s_is_shaft) := ⟨rfl, rfl, rfl, by decide +kernel, rfl, by decide +kernel, by decide +kernel⟩
theorem ok_is_shaft (T : Txt g) (F : Def g "is_shaft" s_is_shaft ["thing", "many"]) (G_is_whole : Has g CX0 1 "is_whole" ["thing"] spIsWhole) : Has g CX0 2 "is_shaft" ["thing", "many"] spIsShaft := by
  refine F.ok sc_is_shaft (fun vs H Q E h => ?_) (fun f cdv A outer s H vs Q E hr h => ?_)
  · obtain ⟨j, n, rfl, _⟩ := h
    rfl
  · obtain ⟨j, n, rfl, hj, k⟩ := h
    refine ⟨_, (pss_one (ps_ret (pe_and (pe_has G_is_whole hr (by decide) pass0 (pa_cons (pv 0) pa_nil)) (pe_one (pe_chain op_le op_lt pe_int (pv 0) (pv 1)))))), ?_⟩
    refine ⟨_, rfl, _, rfl, _, rfl, iteT ?_⟩
    refine ⟨_, rfl, _, _, rfl, rfl, _, rfl, ?_⟩
    rw [decide_eq_true (show (0 : Int) ≤ (j : Int) by omega)]
    refine iteT ⟨_, rfl, _, _, rfl, rfl, ?_⟩
    show Q (.bl (decide ((j : Int) < (n : Int)))) H
    rw [decide_eq_true (show (j : Int) < (n : Int) by omega)]
    exact k
/-- is it a source's -/
def spIsSource (K : PySem.W.Frag) : Sp := fun vs H Q _ => ∃ (v : V) (r : Row), vs = [v] ∧ Rw K H v r ∧ Q (.bl r.isSrc) H
abbrev s_is_source : Stmt := top 35
theorem sc_is_source : FnScope ["row"] ["row"] (defScope s_is_source) := ⟨rfl, rfl, rfl, by decide +kernel, rfl, by decide +kernel, by decide +kernel⟩
theorem ok_is_source (T : Txt g) (F : Def g "is_source" s_is_source ["row"]) : Has g CX0 1 "is_source" ["row"] (spIsSource g.K) := by
  refine F.ok sc_is_source (fun vs H Q E h => ?_) (fun f cdv A outer s H vs Q E hr h => ?_)
  · obtain ⟨v, r, rfl, _⟩ := h
    rfl
  · obtain ⟨v, r, rfl, hv, k⟩ := h
    refine ⟨_, (pss_one (ps_ret (pe_cmpR op_eq (pe_ix (ix_tupK (K := g.K)) (pv 0) pe_int (fun _ _ => rfl)) pe_str (nomark _)))), ?_⟩
    cases hv with
    | src t hx => exact ⟨_, rfl, _, _, _, _, rfl, rfl, t, rfl, rfl, k⟩
    | gear t hx hy => exact ⟨_, rfl, _, _, _, _, rfl, rfl, t, rfl, rfl, k⟩
    | adder t hx => exact ⟨_, rfl, _, _, _, _, rfl, rfl, t, rfl, rfl, k⟩
    | disc t hx => exact ⟨_, rfl, _, _, _, _, rfl, rfl, t, rfl, rfl, k⟩
/-- a row of shafts that are there -/
def spIsRow (K : PySem.W.Frag) : Sp := fun vs H Q _ => ∃ (v : V) (r : Row) (n : Nat), vs = [v, .int n] ∧ Rw K H v r ∧ r.In n ∧ ∀ H', Same H H' → Q (.bl true) H'
abbrev s_is_row : Stmt := top 34
theorem sc_is_row : FnScope ["thing", "many"] ["thing", "many"] (defScope s_is_row) := ⟨rfl, rfl, rfl, by decide +kernel, rfl, by decide +kernel, by decide +kernel⟩
theorem ok_is_row (T : Txt g) (F : Def g "is_row" s_is_row ["thing", "many"]) (G_is_number : Has g CX0 2 "is_number" ["thing"] (spIsNumber g.K)) (G_is_shaft : Has g CX0 2 "is_shaft" ["thing", "many"] spIsShaft) :
    Has g CX0 3 "is_row" ["thing", "many"] (spIsRow g.K) := by
  refine F.ok sc_is_row (fun vs H Q E h => ?_) (fun f cdv A outer s H vs Q E hr h => ?_)
  · obtain ⟨v, r, n, rfl, _⟩ := h
    rfl
  · obtain ⟨v, r, n, rfl, hv, hin, k⟩ := h
    refine ⟨_, (pss_cons (ps_if (PW.pt (pw_or (pt_not (pt_val (pe_callB (call_isiK' (K := g.K)) (by rfl) T.isinstance (by decide +kernel) (pa_cons (pv 0) (pa_cons (pe_bltn (v := .ty "tuple") (by rfl) T.tuple (by decide +kernel) rfl) pa_nil))))) (pw_or (pt_cmpR op_lt (pe_callB (call_lenK (K := g.K)) (by rfl) T.len PySem.boot_len (pa_cons (pv 0) pa_nil)) pe_int (nomark _)) (pw_or (pt_not (pt_val (pe_callB (call_isiK' (K := g.K)) (by rfl) T.isinstance (by decide +kernel) (pa_cons (pe_ix (ix_tupK (K := g.K)) (pv 0) pe_int (fun _ _ => rfl)) (pa_cons (pe_bltn (v := .ty "str") (by rfl) T.str (by decide +kernel) rfl) pa_nil))))) (pw_or1 (pt_not (pt_val (pe_has G_is_number hr (by decide) pass0 (pa_cons (pe_ix (ix_tupK (K := g.K)) (pv 0) pe_int (fun _ _ => rfl)) pa_nil))))))))) (pss_one (ps_ret pe_bl)) pss_nil)
      (pss_cons (ps_if (pt_cmpR op_eq (pe_ix (ix_tupK (K := g.K)) (pv 0) pe_int (fun _ _ => rfl)) pe_str (nomark _)) (pss_one (ps_ret (pe_cmpR op_eq (pe_callB (call_lenK (K := g.K)) (by rfl) T.len PySem.boot_len (pa_cons (pv 0) pa_nil)) pe_int (nomark _)))) pss_nil)
      (pss_cons (ps_if (PW.pt (pw_or (pt_cmpR (op_notInSK (K := g.K)) (pe_ix (ix_tupK (K := g.K)) (pv 0) pe_int (fun _ _ => rfl)) (pe_tup (pa_cons pe_str (pa_cons pe_str (pa_cons pe_str pa_nil)))) rfl) (pw_or (pt_cmpR op_ne (pe_callB (call_lenK (K := g.K)) (by rfl) T.len PySem.boot_len (pa_cons (pv 0) pa_nil)) pe_int (nomark _)) (pw_or1 (pt_not (pt_val (pe_has G_is_shaft hr (by decide) pass0 (pa_cons (pe_ix (ix_tupK (K := g.K)) (pv 0) pe_int (fun _ _ => rfl)) (pa_cons (pv 1) pa_nil))))))))) (pss_one (ps_ret pe_bl)) pss_nil)
      (pss_cons (ps_if (pt_cmpR op_eq (pe_ix (ix_tupK (K := g.K)) (pv 0) pe_int (fun _ _ => rfl)) pe_str (nomark _)) (pss_one (ps_ret (pe_has G_is_number hr (by decide) pass0 (pa_cons (pe_ix (ix_tupK (K := g.K)) (pv 0) pe_int (fun _ _ => rfl)) pa_nil)))) pss_nil)
      (pss_one (ps_ret (pe_has G_is_shaft hr (by decide) pass0 (pa_cons (pe_ix (ix_tupK (K := g.K)) (pv 0) pe_int (fun _ _ => rfl)) (pa_cons (pv 1) pa_nil))))))))), ?_⟩
    cases hv with
    | src t hx =>
      refine ⟨_, rfl, _, _, _, _, _, rfl, .ty "tuple", tyx_tup t, kit_ty (b := "tuple") (r := true) (by decide +kernel), _, rfl, iteF ?_⟩
      refine ⟨_, rfl, _, _, rfl, .inr t, _, _, rfl, rfl, _, rfl, iteF ?_⟩
      refine ⟨_, rfl, _, _, _, _, rfl, rfl, t, rfl, _, _, _, _, _, rfl, .ty "str", .base (.str _), kit_ty (b := "str") (r := true) (by decide +kernel), _, rfl, iteF ?_⟩
      refine ⟨_, rfl, _, _, _, _, rfl, rfl, t, rfl, _, _, rfl, hx, _, rfl, iteF ?_⟩
      refine ⟨_, rfl, _, _, _, _, rfl, rfl, t, rfl, rfl, _, rfl, iteT ?_⟩
      exact ⟨_, rfl, _, _, rfl, .inr t, rfl, k _ (Same.refl _)⟩
    | gear t hx hy =>
      refine ⟨_, rfl, _, _, _, _, _, rfl, .ty "tuple", tyx_tup t, kit_ty (b := "tuple") (r := true) (by decide +kernel), _, rfl, iteF ?_⟩
      refine ⟨_, rfl, _, _, rfl, .inr t, _, _, rfl, rfl, _, rfl, iteF ?_⟩
      refine ⟨_, rfl, _, _, _, _, rfl, rfl, t, rfl, _, _, _, _, _, rfl, .ty "str", .base (.str _), kit_ty (b := "str") (r := true) (by decide +kernel), _, rfl, iteF ?_⟩
      refine ⟨_, rfl, _, _, _, _, rfl, rfl, t, rfl, _, _, rfl, hx, _, rfl, iteF ?_⟩
      refine ⟨_, rfl, _, _, _, _, rfl, rfl, t, rfl, rfl, _, rfl, iteF ?_⟩
      refine ⟨_, rfl, _, _, _, _, rfl, rfl, t, rfl, (by show 3 ≤ sizeLine; decide), fun p hp => ?_⟩
      have s1 := same_new (o := .tup [.str "gear", .str "adder", .str "disc"]) hp
      have t' := Same.tup s1 t
      refine ⟨_, _, rfl, .inr (.inl (.inl upd_same)), rfl, rfl, _, rfl, iteF ?_⟩
      refine ⟨_, rfl, _, _, rfl, .inr t', rfl, _, rfl, iteF ?_⟩
      refine ⟨_, rfl, _, _, _, _, rfl, rfl, t', rfl, _, rfl, _, _, rfl, hin, _, rfl, iteF ?_⟩
      refine ⟨_, rfl, _, _, _, _, rfl, rfl, t', rfl, rfl, _, rfl, iteT ?_⟩
      exact ⟨_, rfl, _, _, _, _, rfl, rfl, t', rfl, _, _, rfl, hy.same s1, k _ s1⟩
    | adder t hx =>
      refine ⟨_, rfl, _, _, _, _, _, rfl, .ty "tuple", tyx_tup t, kit_ty (b := "tuple") (r := true) (by decide +kernel), _, rfl, iteF ?_⟩
      refine ⟨_, rfl, _, _, rfl, .inr t, _, _, rfl, rfl, _, rfl, iteF ?_⟩
      refine ⟨_, rfl, _, _, _, _, rfl, rfl, t, rfl, _, _, _, _, _, rfl, .ty "str", .base (.str _), kit_ty (b := "str") (r := true) (by decide +kernel), _, rfl, iteF ?_⟩
      refine ⟨_, rfl, _, _, _, _, rfl, rfl, t, rfl, _, _, rfl, hx, _, rfl, iteF ?_⟩
      refine ⟨_, rfl, _, _, _, _, rfl, rfl, t, rfl, rfl, _, rfl, iteF ?_⟩
      refine ⟨_, rfl, _, _, _, _, rfl, rfl, t, rfl, (by show 3 ≤ sizeLine; decide), fun p hp => ?_⟩
      have s1 := same_new (o := .tup [.str "gear", .str "adder", .str "disc"]) hp
      have t' := Same.tup s1 t
      refine ⟨_, _, rfl, .inr (.inl (.inl upd_same)), rfl, rfl, _, rfl, iteF ?_⟩
      refine ⟨_, rfl, _, _, rfl, .inr t', rfl, _, rfl, iteF ?_⟩
      refine ⟨_, rfl, _, _, _, _, rfl, rfl, t', rfl, _, rfl, _, _, rfl, hin.2, _, rfl, iteF ?_⟩
      refine ⟨_, rfl, _, _, _, _, rfl, rfl, t', rfl, rfl, _, rfl, iteF ?_⟩
      exact ⟨_, rfl, _, _, _, _, rfl, rfl, t', rfl, _, rfl, _, _, rfl, hin.1, k _ s1⟩
    | disc t hx =>
      refine ⟨_, rfl, _, _, _, _, _, rfl, .ty "tuple", tyx_tup t, kit_ty (b := "tuple") (r := true) (by decide +kernel), _, rfl, iteF ?_⟩
      refine ⟨_, rfl, _, _, rfl, .inr t, _, _, rfl, rfl, _, rfl, iteF ?_⟩
      refine ⟨_, rfl, _, _, _, _, rfl, rfl, t, rfl, _, _, _, _, _, rfl, .ty "str", .base (.str _), kit_ty (b := "str") (r := true) (by decide +kernel), _, rfl, iteF ?_⟩
      refine ⟨_, rfl, _, _, _, _, rfl, rfl, t, rfl, _, _, rfl, hx, _, rfl, iteF ?_⟩
      refine ⟨_, rfl, _, _, _, _, rfl, rfl, t, rfl, rfl, _, rfl, iteF ?_⟩
      refine ⟨_, rfl, _, _, _, _, rfl, rfl, t, rfl, (by show 3 ≤ sizeLine; decide), fun p hp => ?_⟩
      have s1 := same_new (o := .tup [.str "gear", .str "adder", .str "disc"]) hp
      have t' := Same.tup s1 t
      refine ⟨_, _, rfl, .inr (.inl (.inl upd_same)), rfl, rfl, _, rfl, iteF ?_⟩
      refine ⟨_, rfl, _, _, rfl, .inr t', rfl, _, rfl, iteF ?_⟩
      refine ⟨_, rfl, _, _, _, _, rfl, rfl, t', rfl, _, rfl, _, _, rfl, hin.2, _, rfl, iteF ?_⟩
      refine ⟨_, rfl, _, _, _, _, rfl, rfl, t', rfl, rfl, _, rfl, iteF ?_⟩
      exact ⟨_, rfl, _, _, _, _, rfl, rfl, t', rfl, _, rfl, _, _, rfl, hin.1, k _ s1⟩
/-- the shafts that drive a row: a new list -/
def spDrives (K : PySem.W.Frag) : Sp := fun vs H Q _ => ∃ (v : V) (r : Row), vs = [v] ∧ Rw K H v r ∧ ∀ p H', Same H H' → H p = none → H' p = some (.lst (nV r.drives)) → Q (.ref p) H'
abbrev s_drives_of : Stmt := top 37
theorem sc_drives_of : FnScope ["row"] ["row"] (defScope s_drives_of) := ⟨rfl, rfl, rfl, by decide +kernel, rfl, by decide +kernel, by decide +kernel⟩
theorem ok_drives_of (T : Txt g) (F : Def g "drives_of" s_drives_of ["row"]) : Has g CX0 1 "drives_of" ["row"] (spDrives g.K) := by
  refine F.ok sc_drives_of (fun vs H Q E h => ?_) (fun f cdv A outer s H vs Q E hr h => ?_)
  · obtain ⟨v, r, rfl, _⟩ := h
    rfl
  · obtain ⟨v, r, rfl, hv, k⟩ := h
    refine ⟨_, (pss_cons (ps_if (pt_cmpR op_eq (pe_ix (ix_tupK (K := g.K)) (pv 0) pe_int (fun _ _ => rfl)) pe_str (nomark _)) (pss_one (ps_ret (pe_lst pa_nil))) pss_nil)
      (pss_cons (ps_if (pt_cmpR op_eq (pe_ix (ix_tupK (K := g.K)) (pv 0) pe_int (fun _ _ => rfl)) pe_str (nomark _)) (pss_one (ps_ret (pe_lst (pa_cons (pe_ix (ix_tupK (K := g.K)) (pv 0) pe_int (fun _ _ => rfl)) (pa_cons (pe_ix (ix_tupK (K := g.K)) (pv 0) pe_int (fun _ _ => rfl)) pa_nil))))) pss_nil)
      (pss_one (ps_ret (pe_lst (pa_cons (pe_ix (ix_tupK (K := g.K)) (pv 0) pe_int (fun _ _ => rfl)) pa_nil)))))), ?_⟩
    cases hv with
    | src t hx =>
      refine ⟨_, rfl, _, _, _, _, rfl, rfl, t, rfl, rfl, _, rfl, iteT ?_⟩
      exact ⟨(by show 0 ≤ sizeLine; decide), fun p hp => k _ _ (same_new hp) hp upd_same⟩
    | gear t hx hy =>
      refine ⟨_, rfl, _, _, _, _, rfl, rfl, t, rfl, rfl, _, rfl, iteF ?_⟩
      refine ⟨_, rfl, _, _, _, _, rfl, rfl, t, rfl, rfl, _, rfl, iteF ?_⟩
      exact ⟨_, rfl, _, _, _, _, rfl, rfl, t, rfl, (by show 1 ≤ sizeLine; decide), fun p hp => k _ _ (same_new hp) hp upd_same⟩
    | adder t hx =>
      refine ⟨_, rfl, _, _, _, _, rfl, rfl, t, rfl, rfl, _, rfl, iteF ?_⟩
      refine ⟨_, rfl, _, _, _, _, rfl, rfl, t, rfl, rfl, _, rfl, iteT ?_⟩
      exact ⟨_, rfl, _, _, _, _, rfl, rfl, t, rfl, _, rfl, _, _, _, _, rfl, rfl, t, rfl, (by show 2 ≤ sizeLine; decide), fun p hp => k _ _ (same_new hp) hp upd_same⟩
    | disc t hx =>
      refine ⟨_, rfl, _, _, _, _, rfl, rfl, t, rfl, rfl, _, rfl, iteF ?_⟩
      refine ⟨_, rfl, _, _, _, _, rfl, rfl, t, rfl, rfl, _, rfl, iteF ?_⟩
      exact ⟨_, rfl, _, _, _, _, rfl, rfl, t, rfl, (by show 1 ≤ sizeLine; decide), fun p hp => k _ _ (same_new hp) hp upd_same⟩
end
end K79
end

section
/-! K79E: the bench, in plain Lean. -/
namespace K79

structure B where
  rows : List Row
  stood : List Rat
  sums : List Rat
  outs : List Bool
  lims : List (Option Rat × Option Rat)
  past : Nat

/-- what comes of a deed -/
inductive Res where
  | ok (moves : Option (List Rat)) (b : B)
  | stopped (k : Nat)
  | ring
  | no (x : String)

def fresh (rows : List Row) : B := ⟨rows, rows.map Row.start, rows.map fun _ => 0, rows.map fun _ => false, rows.map fun _ => (none, none), 0⟩
def beyond (l : Option Rat × Option Rat) (q : Rat) : Bool := (match l.1 with | some x => decide (q < x) | none => false) || (match l.2 with | some y => decide (y < q) | none => false)
def long (q : Rat) : Bool := decide (10 ^ 60 ≤ q.num.natAbs) || decide (10 ^ 60 ≤ q.den)
def adds (xs ys : List Rat) : List Rat := List.zipWith (fun x y : Rat => x + y) xs ys
def B.moves (b : B) (q : Rat) : List Rat := movesBy b.rows b.outs b.stood q
def B.ahead (b : B) (q : Rat) : List Rat := adds b.stood (b.moves q)
def B.stops (b : B) (q : Rat) : Option Nat := (List.range (b.ahead q).length).find? fun k => beyond (b.lims.getD k (none, none)) ((b.ahead q).getD k 0)
def B.click (b : B) (q : Rat) : Res := match b.stops q with
  | some k => .stopped k
  | none => if (b.ahead q).any long = true then .no "TooFar" else .ok (some (b.moves q)) { b with stood := b.ahead q, sums := adds b.sums (b.moves q), past := b.past + 1 }
def B.out (b : B) (k : Nat) : Res := if b.outs.getD k false = false then .ok none { b with outs := b.outs.set k true, past := b.past + 1 } else .no "Held"
def B.into (b : B) (k : Nat) : Res := if b.outs.getD k false = true then .ok none { b with outs := b.outs.set k false, past := b.past + 1 } else .no "Held"
def B.put (b : B) (k : Nat) (q : Rat) : Res := if b.outs.getD k false = true then (if beyond (b.lims.getD k (none, none)) q = true then .stopped k else .ok none { b with stood := b.stood.set k q, past := b.past + 1 }) else .no "Held"
def srcAt (rows : List Row) (i : Nat) : Bool := match rows[i]? with
  | some r => r.isSrc
  | none => false
/-- how many sources -/
def srcs (rows : List Row) : Nat := ((List.range rows.length).filter (srcAt rows)).length
def B.wire (b : B) (k : Nat) (r : Row) : Res := if b.outs.getD k false = true then
    (if srcs (b.rows.set k r) = 1 then (if (ord (b.rows.set k r)).length = (b.rows.set k r).length then .ok none { b with rows := b.rows.set k r, past := b.past + 1 } else .ring) else .no "NoMachine")
  else .no "Held"
def B.gear (b : B) (k : Nat) (q : Rat) : Res := match b.rows[k]? with
  | some (.gear s _ j) => .ok none { b with rows := b.rows.set k (.gear s q j), past := b.past + 1 }
  | _ => .no "NoGear"
def B.ends (b : B) (k : Nat) (l : Option Rat × Option Rat) : Res := if beyond l (b.stood.getD k 0) = true then .stopped k else .ok none { b with lims := b.lims.set k l, past := b.past + 1 }
/-- what the bench tells: each row with where its shaft stands as its start -/
def B.told (b : B) : List Row := List.zipWith (fun (r : Row) (h : Rat) => r.at_ h) b.rows b.stood

/-- a bench as it may stand -/
structure WF (b : B) : Prop where
  n1 : 1 ≤ b.rows.length
  n5 : b.rows.length ≤ 5
  ls : b.stood.length = b.rows.length
  lu : b.sums.length = b.rows.length
  lo : b.outs.length = b.rows.length
  ll : b.lims.length = b.rows.length
  m : Mach b.rows
  zr : ∀ r ∈ b.rows, r.small 200 4
  zs : ∀ q ∈ b.stood, Sz 200 q
  zu : ∀ q ∈ b.sums, Sz (402 * b.past + 1) q
  zl : ∀ l ∈ b.lims, ∀ q, (l.1 = some q ∨ l.2 = some q) → Sz 200 q

theorem ex_at {α : Type} {xs : List α} {i : Nat} (h : i < xs.length) : ∃ x, xs[i]? = some x := ⟨_, List.getElem?_eq_getElem h⟩
theorem mem_zipW {α β γ : Type} {f : α → β → γ} {z : γ} : ∀ {xs : List α} {ys : List β}, z ∈ List.zipWith f xs ys → ∃ x ∈ xs, ∃ y ∈ ys, z = f x y
  | [], _, h => by simp at h
  | _ :: _, [], h => by simp at h
  | x :: xs, y :: ys, h => by
    rw [List.zipWith_cons_cons] at h
    rcases List.mem_cons.mp h with h | h
    · exact ⟨x, List.mem_cons_self, y, List.mem_cons_self, h⟩
    · obtain ⟨a, ha, b, hb, e⟩ := mem_zipW h
      exact ⟨a, List.mem_cons_of_mem _ ha, b, List.mem_cons_of_mem _ hb, e⟩
theorem adds_len {xs ys : List Rat} (h : xs.length = ys.length) : (adds xs ys).length = xs.length := by
  unfold adds
  rw [List.length_zipWith, h, Nat.min_self]
theorem adds_at {xs ys : List Rat} {i : Nat} {x y : Rat} (h1 : xs[i]? = some x) (h2 : ys[i]? = some y) : (adds xs ys)[i]? = some (x + y) := by
  unfold adds
  rw [List.getElem?_zipWith, h1, h2]
theorem moves_len {b : B} {q : Rat} : (b.moves q).length = b.rows.length := solve_len
theorem moves_small {b : B} (h : WF b) {q : Rat} (hq : Sz 20 q) : ∀ x ∈ b.moves q, Sz 6840 x := by
  intro x hx
  have z := moves_sz (b := 20) (outs := b.outs) (by decide) h.zr h.zs hq (ord b.rows) x hx
  have hl : (ord b.rows).length ≤ 5 := Nat.le_trans (ord_pre b.rows).len h.n5
  refine z.mono ?_
  have key : ∀ i, i ≤ 5 → bnd 20 i ≤ 6840 := by decide
  exact key _ hl
theorem ten60 : 10 ^ 60 < 2 ^ 200 := by decide
theorem sz_of_not_long {q : Rat} (h : long q = false) : Sz 200 q := by
  unfold long at h
  rw [Bool.or_eq_false_iff] at h
  have h1 := of_decide_eq_false h.1
  have h2 := of_decide_eq_false h.2
  have t := ten60
  exact ⟨by omega, by omega⟩
/-- a move behind which a shaft stands near is small -/
theorem move_small {x y : Rat} (hx : Sz 200 x) (hs : Sz 200 (x + y)) : Sz 401 y := by
  have e : y = (x + y) + -x := by
    rw [Rat.add_comm x y, Rat.add_assoc, Rat.add_neg_cancel, Rat.add_zero]
  rw [e]
  exact (hs.add hx.neg).mono (by decide)
theorem WF.click {b b' : B} {q : Rat} {ms : Option (List Rat)} (h : WF b) (e : b.click q = .ok ms b') : WF b' := by
  unfold B.click at e
  split at e
  · cases e
  · split at e
    · cases e
    · rename_i hl
      cases e
      have hlong : ∀ x ∈ b.ahead q, long x = false := fun x hx => by
        cases z : long x with
        | false => rfl
        | true => exact absurd (List.any_eq_true.mpr ⟨x, hx, z⟩) hl
      have l1 : b.stood.length = (b.moves q).length := by rw [moves_len]; exact h.ls
      have l2 : (b.ahead q).length = b.rows.length := (adds_len l1).trans h.ls
      refine ⟨h.n1, h.n5, l2, ?_, h.lo, h.ll, h.m, h.zr, fun x hx => sz_of_not_long (hlong x hx), fun x hx => ?_, h.zl⟩
      · show (adds b.sums (b.moves q)).length = _
        rw [adds_len (by rw [moves_len]; exact h.lu)]
        exact h.lu
      · -- the sums
        have hx' : x ∈ adds b.sums (b.moves q) := hx
        obtain ⟨i, hi⟩ := List.mem_iff_getElem?.mp hx'
        have hil : i < b.rows.length := by
          have := (List.getElem?_eq_some_iff.mp hi).1
          rw [adds_len (by rw [moves_len]; exact h.lu), h.lu] at this
          exact this
        obtain ⟨u, hu⟩ := ex_at (xs := b.sums) (i := i) (by rw [h.lu]; exact hil)
        obtain ⟨m, hm⟩ := ex_at (xs := b.moves q) (i := i) (by rw [moves_len]; exact hil)
        obtain ⟨s, hs⟩ := ex_at (xs := b.stood) (i := i) (by rw [h.ls]; exact hil)
        rw [adds_at hu hm] at hi
        cases hi
        have ha : (b.ahead q)[i]? = some (s + m) := adds_at hs hm
        have z1 := sz_of_not_long (hlong _ (List.mem_of_getElem? ha))
        have z2 := move_small (h.zs _ (List.mem_of_getElem? hs)) z1
        refine ((h.zu _ (List.mem_of_getElem? hu)).add z2).mono ?_
        show 402 * b.past + 1 + 401 + 1 ≤ 402 * (b.past + 1) + 1
        omega
theorem WF.more {b : B} (h : WF b) : ∀ q ∈ b.sums, Sz (402 * (b.past + 1) + 1) q := fun q hq => (h.zu q hq).mono (by omega)
theorem WF.out {b b' : B} {k : Nat} {ms : Option (List Rat)} (h : WF b) (e : b.out k = .ok ms b') : WF b' := by
  unfold B.out at e
  split at e
  · cases e
    exact ⟨h.n1, h.n5, h.ls, h.lu, by rw [List.length_set]; exact h.lo, h.ll, h.m, h.zr, h.zs, h.more, h.zl⟩
  · cases e
theorem WF.into {b b' : B} {k : Nat} {ms : Option (List Rat)} (h : WF b) (e : b.into k = .ok ms b') : WF b' := by
  unfold B.into at e
  split at e
  · cases e
    exact ⟨h.n1, h.n5, h.ls, h.lu, by rw [List.length_set]; exact h.lo, h.ll, h.m, h.zr, h.zs, h.more, h.zl⟩
  · cases e
theorem WF.put {b b' : B} {k : Nat} {q : Rat} {ms : Option (List Rat)} (h : WF b) (hq : Sz 200 q) (e : b.put k q = .ok ms b') : WF b' := by
  unfold B.put at e
  split at e
  · split at e
    · cases e
    · cases e
      refine ⟨h.n1, h.n5, by rw [List.length_set]; exact h.ls, h.lu, h.lo, h.ll, h.m, h.zr, fun x hx => ?_, h.more, h.zl⟩
      rcases List.mem_or_eq_of_mem_set hx with hx | rfl
      · exact h.zs x hx
      · exact hq
  · cases e
theorem WF.ends {b b' : B} {k : Nat} {l : Option Rat × Option Rat} {ms : Option (List Rat)} (h : WF b) (hl : ∀ q, (l.1 = some q ∨ l.2 = some q) → Sz 200 q) (e : b.ends k l = .ok ms b') : WF b' := by
  unfold B.ends at e
  split at e
  · cases e
  · cases e
    refine ⟨h.n1, h.n5, h.ls, h.lu, h.lo, by rw [List.length_set]; exact h.ll, h.m, h.zr, h.zs, h.more, fun x hx => ?_⟩
    rcases List.mem_or_eq_of_mem_set hx with hx | rfl
    · exact h.zl x hx
    · exact hl
theorem mach_set {rows : List Row} {k : Nat} {r : Row} (h : ∀ (i : Nat) (x : Row), rows[i]? = some x → x.In rows.length) (hr : r.In rows.length) (f : (ord (rows.set k r)).length = (rows.set k r).length) : Mach (rows.set k r) := by
  refine ⟨fun i x hx => ?_, f⟩
  rw [List.length_set]
  by_cases e : k = i
  · subst e
    have hk : k < rows.length := by
      have := (List.getElem?_eq_some_iff.mp hx).1
      rw [List.length_set] at this
      exact this
    rw [List.getElem?_set_self hk] at hx
    cases hx
    exact hr
  · rw [List.getElem?_set_ne e] at hx
    exact h i x hx
theorem WF.wire {b b' : B} {k : Nat} {r : Row} {ms : Option (List Rat)} (h : WF b) (hin : r.In b.rows.length) (hz : r.small 200 4) (e : b.wire k r = .ok ms b') : WF b' := by
  unfold B.wire at e
  split at e
  · split at e
    · split at e
      · rename_i hf
        cases e
        have hl : (b.rows.set k r).length = b.rows.length := List.length_set
        refine ⟨by show 1 ≤ (b.rows.set k r).length; rw [hl]; exact h.n1, by show (b.rows.set k r).length ≤ 5; rw [hl]; exact h.n5, h.ls.trans hl.symm, h.lu.trans hl.symm, h.lo.trans hl.symm, h.ll.trans hl.symm, mach_set h.m.inn hin hf, fun x hx => ?_, h.zs, h.more, h.zl⟩
        rcases List.mem_or_eq_of_mem_set hx with hx | rfl
        · exact h.zr x hx
        · exact hz
      · cases e
    · cases e
  · cases e
theorem WF.gear {b b' : B} {k : Nat} {q : Rat} {ms : Option (List Rat)} (h : WF b) (hq : Sz 4 q) (e : b.gear k q = .ok ms b') : WF b' := by
  unfold B.gear at e
  split at e
  · rename_i s r0 j hk
    cases e
    have hl : (b.rows.set k (.gear s q j)).length = b.rows.length := List.length_set
    have hlt := (List.getElem?_eq_some_iff.mp hk).1
    have ho : ord (b.rows.set k (.gear s q j)) = ord b.rows := ord_congr hl fun i => by
      by_cases e : k = i
      · subst e
        rw [List.getElem?_set_self hlt, hk]
        rfl
      · rw [List.getElem?_set_ne e]
    have z0 := h.zr _ (List.mem_of_getElem? hk)
    refine ⟨by show 1 ≤ (b.rows.set k _).length; rw [hl]; exact h.n1, by show (b.rows.set k _).length ≤ 5; rw [hl]; exact h.n5, h.ls.trans hl.symm, h.lu.trans hl.symm, h.lo.trans hl.symm, h.ll.trans hl.symm,
      mach_set h.m.inn (show j < b.rows.length from h.m.inn k _ hk) (by rw [ho, hl]; exact h.m.full), fun x hx => ?_, h.zs, h.more, h.zl⟩
    rcases List.mem_or_eq_of_mem_set hx with hx | rfl
    · exact h.zr x hx
    · exact ⟨z0.1, hq⟩
  · cases e
theorem told_at {b : B} {i : Nat} {r : Row} {q : Rat} (h1 : b.rows[i]? = some r) (h2 : b.stood[i]? = some q) : b.told[i]? = some (r.at_ q) := by
  unfold B.told
  rw [List.getElem?_zipWith, h1, h2]
theorem WF.toldLen {b : B} (h : WF b) : b.told.length = b.rows.length := by
  unfold B.told
  rw [List.length_zipWith, h.ls, Nat.min_self]
theorem Row.at_in {n : Nat} {q : Rat} {r : Row} (h : r.In n) : (r.at_ q).In n := by cases r <;> exact h
theorem WF.told {b : B} (h : WF b) : WF (fresh b.told) := by
  have hl := h.toldLen
  have ho : ord b.told = ord b.rows := ord_congr hl fun i => by
    by_cases hi : i < b.rows.length
    · obtain ⟨r1, h1⟩ := ex_at (xs := b.rows) hi
      obtain ⟨r2, h2⟩ := ex_at (xs := b.stood) (i := i) (by rw [h.ls]; exact hi)
      rw [told_at h1 h2, h1]
      exact congrArg some (Row.at_drives _ _)
    · rw [List.getElem?_eq_none (by omega), List.getElem?_eq_none (by omega)]
  have mem : ∀ x ∈ b.told, ∃ r ∈ b.rows, ∃ q ∈ b.stood, x = r.at_ q := fun x hx => mem_zipW hx
  have small : ∀ x ∈ b.told, x.small 200 4 := fun x hx => by
    obtain ⟨r, hr, q, hq, rfl⟩ := mem x hx
    have z1 := h.zr r hr
    have z2 := h.zs q hq
    cases r with
    | src s => exact z2
    | gear s y j => exact ⟨z2, z1.2⟩
    | adder s i j => exact z2
    | disc s c t => exact z2
  refine ⟨by show 1 ≤ b.told.length; rw [hl]; exact h.n1, by show b.told.length ≤ 5; rw [hl]; exact h.n5, List.length_map .., List.length_map .., List.length_map .., List.length_map .., ⟨fun i x hx => ?_, by show (ord b.told).length = b.told.length; rw [ho, hl]; exact h.m.full⟩, small, ?_, ?_, ?_⟩
  · show x.In b.told.length
    rw [hl]
    have hi : i < b.rows.length := by
      have := (List.getElem?_eq_some_iff.mp hx).1
      have e : (fresh b.told).rows = b.told := rfl
      rw [e, hl] at this
      exact this
    obtain ⟨r1, h1⟩ := ex_at (xs := b.rows) hi
    obtain ⟨r2, h2⟩ := ex_at (xs := b.stood) (i := i) (by rw [h.ls]; exact hi)
    have hx' : b.told[i]? = some x := hx
    rw [told_at h1 h2] at hx'
    cases hx'
    exact Row.at_in (h.m.inn i _ h1)
  · intro q hq
    obtain ⟨x, hx, rfl⟩ := List.mem_map.mp hq
    have z := small x hx
    cases x with
    | src s => exact z
    | gear s y j => exact z.1
    | adder s i j => exact z
    | disc s c t => exact z
  · intro q hq
    obtain ⟨x, hx, rfl⟩ := List.mem_map.mp hq
    exact sz_zero
  · intro l hl q hq
    obtain ⟨x, hx, rfl⟩ := List.mem_map.mp hl
    rcases hq with hq | hq <;> cases hq
end K79
end

section
set_option linter.all false
set_option maxRecDepth 100000
set_option maxHeartbeats 4000000
/-! K79M2: machines' defs, further. -/
namespace K79
open PySem PySem.Spec PyProof.Rows L2

section
variable {g : G}
/-- a machine's list in the heap -/
structure RwL (K : PySem.W.Frag) (H : Hp) (a : Addr) (rows : List Row) : Prop where
  ex : ∃ vs, H a = some (.lst vs) ∧ Paired (Rw K H) vs rows
theorem RwL.same {K : PySem.W.Frag} {H H' : Hp} {a : Addr} {rows : List Row} (s : Same H H') (h : RwL K H a rows) : RwL K H' a rows := by
  obtain ⟨vs, h1, h2⟩ := h.ex
  exact ⟨vs, s _ _ h1, h2.mono fun _ _ r => r.same s⟩
/-- rows of shafts that are there: a machine but for its rings where just one is a source -/
def spAreRows (K : PySem.W.Frag) : Sp := fun vs H Q _ => ∃ (a : Addr) (rows : List Row), vs = [.ref a] ∧ RwL K H a rows ∧ (∀ r ∈ rows, r.In rows.length) ∧ 1 ≤ rows.length ∧ rows.length ≤ 120 ∧ ∀ H', Same H H' → Q (.bl (decide (srcs rows = 1))) H'
abbrev s_are_rows : Stmt := top 36
theorem sc_are_rows : FnScope ["thing", "row"] ["thing"] (defScope s_are_rows) := ⟨rfl, rfl, rfl, by decide +kernel, rfl, by decide +kernel, by decide +kernel⟩
theorem ok_are_rows (T : Txt g) (F : Def g "are_rows" s_are_rows ["thing"]) (G_is_row : Has g CX0 3 "is_row" ["thing", "many"] (spIsRow g.K)) (G_is_source : Has g CX0 1 "is_source" ["row"] (spIsSource g.K)) :
    Has g CX0 4 "are_rows" ["thing"] (spAreRows g.K) := by
  refine F.ok sc_are_rows (fun vs H Q E h => ?_) (fun f cdv A outer s H vs Q E hr h => ?_)
  · obtain ⟨a, rows, rfl, _⟩ := h
    rfl
  · obtain ⟨a, rows, rfl, hl, hin, h1, h120, k⟩ := h
    obtain ⟨tm, hMost⟩ := T.most
    refine ⟨_, (pss_cons (ps_if (PW.pt (pw_or (pt_not (pt_val (pe_callB (call_isiK' (K := g.K)) (by rfl) T.isinstance (by decide +kernel) (pa_cons (pv 0) (pa_cons (pe_bltn (v := .ty "list") (by rfl) T.list (by decide +kernel) rfl) pa_nil))))) (pw_or1 (pt_not (pt_chain op_le op_le pe_int (pe_callB (call_lenK (K := g.K)) (by rfl) T.len PySem.boot_len (pa_cons (pv 0) pa_nil)) (pe_glob rfl hMost (v := .int 120) ⟨_, rfl⟩)))))) (pss_one (ps_ret pe_bl)) pss_nil)
      (pss_cons (ps_if (pt_not (pt_val (pe_callB (call_allK (K := g.K) rfl) (by rfl) T.all (by decide +kernel) (pa_cons (pe_lc (own := [("row", 1)]) (g := gName 1) (tt := tYes) rfl sc_are_rows.nd (pi_list (pv 0)) (blkOk_by (own := [("row", 1)]) (N := ["thing", "row"]) (sc := defScope s_are_rows) (by decide +kernel)) (fun _ _ _ _ _ => (pg_name (i := 1) sc_are_rows.nd rfl (Or.inl rfl))) (fun _ _ _ _ _ => pts_nil) (fun _ _ _ _ _ => (pe_has G_is_row hr (by decide) pass0 (pa_cons (pv 1) (pa_cons (pe_callB (call_lenK (K := g.K)) (by rfl) T.len PySem.boot_len (pa_cons (pv 0) pa_nil)) pa_nil))))) pa_nil)))) (pss_one (ps_ret pe_bl)) pss_nil)
      (pss_one (ps_ret (pe_cmpR op_eq (pe_callB (call_lenK (K := g.K)) (by rfl) T.len PySem.boot_len (pa_cons (pe_lc (own := [("row", 1)]) (g := gName 1)  rfl sc_are_rows.nd (pi_list (pv 0)) (blkOk_by (own := [("row", 1)]) (N := ["thing", "row"]) (sc := defScope s_are_rows) (by decide +kernel)) (fun _ _ _ _ _ => (pg_name (i := 1) sc_are_rows.nd rfl (Or.inl rfl))) (fun _ _ _ _ _ => (pts_one (pt_val (pe_has G_is_source hr (by decide) pass0 (pa_cons (pv 1) pa_nil))))) (fun _ _ _ _ _ => (pv 1))) pa_nil)) pe_int (nomark _)))))), ?_⟩
    obtain ⟨vs, ha, hp⟩ := hl.ex
    have hlen := hp.length
    refine ⟨_, rfl, _, _, _, _, _, rfl, .ty "list", .base (.lst ha), kit_ty (b := "list") (r := true) (by decide +kernel), _, rfl, iteF ?_⟩
    refine ⟨_, rfl, _, _, rfl, .inl (SqL.of ha), _, _, rfl, rfl, _, rfl, ?_⟩
    rw [decide_eq_true (show (1 : Int) ≤ (vs.length : Int) by omega)]
    refine iteT ⟨_, _, rfl, rfl, _, rfl, ?_⟩
    rw [decide_eq_true (show (vs.length : Int) ≤ 120 by omega)]
    refine iteF ?_
    -- not all([is_row(row, len(thing)) for row in thing])
    refine ⟨_, rfl, a, rfl, ⟨_, SqL.of ha⟩, lc_map (walk_list (K := g.K) (a := a) (xs := vs)) (fun D H y i => y = .bl true) (by omega) (fun _ _ _ _ _ _ _ _ h => h) (fun H' s => SqL.of (s _ _ ha)) ?_ ?_⟩
    · rintro D i x H2 H3 Nx hi hD s2 hl ⟨rfl, hx⟩ kk
      obtain ⟨r, hr2, rw2⟩ := Pd.getV hp hx
      refine ⟨rfl, ⟨_, rfl, _, rfl, _, _, rfl, .inl (SqL.of (s2 _ _ ha)), _, r, rows.length, by rw [hlen]; rfl, rw2.same s2, hin r (List.mem_of_getElem? hr2), fun H4 s4 => kk _ _ s4 rfl⟩⟩
    · intro D ys H2 hD s2 hys hyl hy
      have e : ys = (List.replicate vs.length true).map V.bl := by
        refine List.ext_getElem? fun i => ?_
        rw [List.map_replicate, List.getElem?_replicate]
        split
        · rename_i hi
          have hi' : i < ys.length := by omega
          have q := hy i ys[i] (List.getElem?_eq_getElem hi')
          rw [List.getElem?_eq_getElem hi', q]
        · exact List.getElem?_eq_none (by omega)
      refine ⟨D, _, rfl, SqL.of (by rw [← e]; exact hys), _, rfl, ?_⟩
      rw [show (List.replicate vs.length true).all id = true from List.all_eq_true.mpr fun b hb => by rw [List.eq_of_mem_replicate hb]; rfl]
      refine iteF ?_
      -- len([row for row in thing if is_source(row)]) == 1
      have ha2 := s2 _ _ ha
      refine ⟨_, rfl, a, rfl, ⟨_, SqL.of ha2⟩, lc_filt (walk_list (K := g.K) (a := a) (xs := vs)) (srcAt rows) (fun D H y i => True) (by omega) (fun _ _ _ _ _ _ _ _ _ => True.intro) (fun H' s => SqL.of (s _ _ ha2)) ?_ ?_⟩
      · rintro D2 i x H3 H4 Nx hi hD2 s3 hl2 ⟨rfl, hx⟩ k1 k0
        obtain ⟨r, hr2, rw2⟩ := Pd.getV hp hx
        refine ⟨rfl, ⟨_, rfl, _, r, rfl, (rw2.same s2).same s3, _, rfl, ?_⟩⟩
        have e2 : srcAt rows i = r.isSrc := by
          unfold srcAt
          rw [hr2]
        rw [← e2]
        cases q : srcAt rows i with
        | true => exact iteT ⟨_, rfl, k1 _ _ q (Same.refl _) True.intro⟩
        | false => exact iteF (k0 _ q (Same.refl _))
      · intro D2 ys2 H3 hD2 s3 hys2 hp2
        refine ⟨_, _, rfl, .inl (SqL.of hys2), rfl, ?_⟩
        have e3 : decide (V.int (ys2.length : Int) = V.int 1) = decide (srcs rows = 1) := by
          have e4 : ys2.length = srcs rows := by
            rw [hp2.length, hlen]
            rfl
          rw [e4]
          by_cases q : srcs rows = 1
          · rw [decide_eq_true q, q]
            rfl
          · rw [decide_eq_false q, decide_eq_false]
            intro z
            injection z with z
            omega
        show Q (.bl (decide (V.int (ys2.length : Int) = V.int 1))) H3
        rw [e3]
        exact k _ (s2.trans s3)
/-- the dict of what stands, at d -/
def spMay (K : PySem.W.Frag) : Sp := fun vs H Q _ => ∃ (v : V) (d : Addr) (r : Row) (st : List Nat), vs = [v, .ref d] ∧ Rw K H v r ∧ H d = some (.dK (dkv st)) ∧ ∀ H', Same H H' → Q (.bl (may st r)) H'
abbrev s_may_stand : Stmt := top 38
theorem sc_may_stand : FnScope ["row", "stands", "shaft"] ["row", "stands"] (defScope s_may_stand) := ⟨rfl, rfl, rfl, by decide +kernel, rfl, by decide +kernel, by decide +kernel⟩
theorem ok_may_stand (T : Txt g) (F : Def g "may_stand" s_may_stand ["row", "stands"]) (G_drives_of : Has g CX0 1 "drives_of" ["row"] (spDrives g.K)) : Has g CX0 2 "may_stand" ["row", "stands"] (spMay g.K) := by
  refine F.ok sc_may_stand (fun vs H Q E h => ?_) (fun f cdv A outer s H vs Q E hr h => ?_)
  · obtain ⟨v, d, r, st, rfl, _⟩ := h
    rfl
  · obtain ⟨v, d, r, st, rfl, hv, hd, k⟩ := h
    refine ⟨_, (pss_one (ps_ret (pe_callB (call_allK (K := g.K) rfl) (by rfl) T.all (by decide +kernel) (pa_cons (pe_lc (own := [("shaft", 2)]) (g := gName 2) (tt := tYes) rfl sc_may_stand.nd (pi_list (pe_has G_drives_of hr (by decide) pass0 (pa_cons (pv 0) pa_nil))) (blkOk_by (own := [("shaft", 2)]) (N := ["row", "stands", "shaft"]) (sc := defScope s_may_stand) (by decide +kernel)) (fun _ _ _ _ _ => (pg_name (i := 2) sc_may_stand.nd rfl (Or.inl rfl))) (fun _ _ _ _ _ => pts_nil) (fun _ _ _ _ _ => (pe_cmp (pc_din (hu_of hr) (pv 2) (pv 1)) rfl))) pa_nil)))), ?_⟩
    refine ⟨_, rfl, _, r, rfl, hv, fun p H1 s1 hp0 hp => ⟨p, rfl, ⟨_, SqL.of hp⟩, lc_map (walk_list (K := g.K) (a := p) (xs := nV r.drives)) (fun D H y i => ∃ j, r.drives[i]? = some j ∧ y = .bl (st.contains j)) ?_ (fun _ _ _ _ _ _ _ _ h => h) (fun H' s => SqL.of (s _ _ hp)) ?_ ?_⟩⟩
    · show (nV r.drives).length ≤ 1000
      unfold nV
      rw [List.length_map]
      cases r <;> (simp [Row.drives])
    · rintro D i x H2 H3 Nx hi hD s2 hl ⟨rfl, hx⟩ kk
      unfold nV at hx
      rw [List.getElem?_map] at hx
      obtain ⟨j, hj, rfl⟩ := Option.map_eq_some_iff.mp hx
      refine ⟨rfl, ⟨_, rfl, _, rfl, d, _, rfl, DGet.k (k := Sum.inl (j : Int)) (s2 _ _ (s1 _ _ hd)), ?_⟩⟩
      rw [dkv_at]
      exact kk _ _ (Same.refl _) ⟨j, hj, rfl⟩
    · intro D ys H2 hD s2 hys hyl hy
      have e : ys = (r.drives.map fun j => st.contains j).map V.bl := by
        refine List.ext_getElem? fun i => ?_
        rw [List.map_map, List.getElem?_map]
        by_cases hi : i < ys.length
        · obtain ⟨j, hj, e2⟩ := hy i ys[i] (List.getElem?_eq_getElem hi)
          rw [List.getElem?_eq_getElem hi, hj, e2]
          rfl
        · have hl2 : (nV r.drives).length = r.drives.length := List.length_map ..
          rw [List.getElem?_eq_none (by omega), List.getElem?_eq_none (by omega)]
          rfl
      refine ⟨D, _, rfl, SqL.of (by rw [← e]; exact hys), ?_⟩
      have e2 : (r.drives.map fun j => st.contains j).all id = may st r := by
        unfold may
        rw [List.all_map]
        rfl
      rw [e2]
      exact k _ (s1.trans s2)
end
end K79
end

section
set_option linter.all false
set_option maxRecDepth 100000
set_option maxHeartbeats 4000000
/-! K79M3: the order. -/
namespace K79
open PySem PySem.Spec PyProof.Rows L2

section
variable {g : G}
theorem nV_pd {R : V → Nat → Prop} {ys : List V} {l : List Nat} (h : Paired R ys l) (e : ∀ y j, R y j → y = .int (j : Int)) : ys = nV l := by
  induction h with
  | nil => rfl
  | cons r t ih =>
    rw [e _ _ r, ih]
    rfl
theorem nV_len (l : List Nat) : (nV l).length = l.length := List.length_map ..
theorem nV_at {l : List Nat} {i j : Nat} (h : l[i]? = some j) : (nV l)[i]? = some (V.int (j : Int)) := by
  unfold nV
  rw [List.getElem?_map, h]
  rfl
theorem nV_ints (l : List Nat) : nV l = (l.map fun j : Nat => (j : Int)).map V.int := by
  unfold nV
  rw [List.map_map]
  rfl
theorem range_at {x : V} {i : Nat} (h : x = (fun i : Nat => V.int (0 + (i : Int))) i) : x = .int (i : Int) := by
  rw [h]
  show V.int (0 + (i : Int)) = _
  rw [Int.zero_add]
/-- the order: a new list -/
def spOrder (K : PySem.W.Frag) : Sp := fun vs H Q _ => ∃ (a : Addr) (rows : List Row), vs = [.ref a] ∧ RwL K H a rows ∧ rows.length ≤ 120 ∧ ∀ p H', Same H H' → H p = none → H' p = some (.lst (nV (ord rows))) → Q (.ref p) H'
theorem ordF_step {rows : List Row} {st : List Nat} {k : Nat} {l : List Nat} (p : Pre rows st) (e : nexts rows st = k :: l) (h : ord rows = ordF rows (rows.length - st.length) st) : ord rows = ordF rows (rows.length - (st ++ [k]).length) (st ++ [k]) ∧ st.length < rows.length := by
  have hk : k ∈ nexts rows st := by rw [e]; exact List.mem_cons_self
  have hl := (p.snoc hk).len
  rw [List.length_append, List.length_singleton] at hl
  refine ⟨?_, by omega⟩
  rw [h, List.length_append, List.length_singleton]
  obtain ⟨f, hf⟩ : ∃ f, rows.length - st.length = f + 1 := ⟨rows.length - st.length - 1, by omega⟩
  have hf2 : rows.length - (st.length + 1) = f := by omega
  rw [hf, hf2]
  show (match nexts rows st with | [] => st | k :: _ => ordF rows f (st ++ [k])) = _
  rw [e]
theorem ordF_done {rows : List Row} {st : List Nat} (e : nexts rows st = []) : ∀ f, ordF rows f st = st
  | 0 => rfl
  | f + 1 => by
    show (match nexts rows st with | [] => st | k :: _ => ordF rows f (st ++ [k])) = _
    rw [e]
abbrev s_order_of : Stmt := top 39
theorem sc_order_of : FnScope ["machine", "stands", "more", "some", "shaft"] ["machine"] (defScope s_order_of) := ⟨rfl, rfl, rfl, by decide +kernel, rfl, by decide +kernel, by decide +kernel⟩
theorem ok_order_of (T : Txt g) (F : Def g "order_of" s_order_of ["machine"]) (G_may_stand : Has g CX0 2 "may_stand" ["row", "stands"] (spMay g.K)) : Has g CX0 3 "order_of" ["machine"] (spOrder g.K) := by
  refine F.ok sc_order_of (fun vs H Q E h => ?_) (fun f cdv A outer s H vs Q E hr h => ?_)
  · obtain ⟨a, rows, rfl, _⟩ := h
    rfl
  · obtain ⟨a, rows, rfl, hrows, h120, k⟩ := h
    refine ⟨_, (pss_cons (ps_set (i := 1) sc_order_of.nd rfl (Or.inr rfl) pe_dnewK)
      (pss_cons (ps_set (i := 2) sc_order_of.nd rfl (Or.inl rfl) pe_bl)
      (pss_cons (ps_while PassesOwn.never (pt_val (pv 2)) (pss_cons (ps_setLc (i := 3) (own := [("shaft", 4)]) (g := gName 4)  rfl sc_order_of.nd rfl rfl (sw_true rfl rfl rfl (by decide +kernel)) (pi_range1 (by rfl) T.range (pa_cons (pe_callB (call_lenK (K := g.K)) (by rfl) T.len PySem.boot_len (pa_cons (pv 0) pa_nil)) pa_nil)) (blkOk_by (own := [("shaft", 4)]) (N := ["machine", "stands", "more", "some", "shaft"]) (sc := defScope s_order_of) (by decide +kernel)) (fun _ _ _ _ _ => (pg_name (i := 4) sc_order_of.nd rfl (Or.inl rfl))) (fun _ _ _ _ _ => (pts_one (PW.pt (pw_and (pt_cmp (pc_dnotin (hu_of hr) (pv 4) (pv 1))) (pw_and1 (pt_val (pe_has G_may_stand hr (by decide) pass0 (pa_cons (pe_ix (ix_listK (K := g.K)) (pv 0) (pv 4) (fun _ _ => rfl)) (pa_cons (pv 1) pa_nil))))))))) (fun _ _ _ _ _ => (pv 4)))
      (pss_cons (ps_set (i := 2) sc_order_of.nd rfl (Or.inl rfl) (pe_cmpR (op_neK (K := g.K) hr.units) (pv 3) (pe_lst pa_nil) (nomark _)))
      (pss_one (ps_if (pt_val (pv 2)) (pss_one (ps_dput (hu_of hr) (pv 1) (pe_ix (ix_listK (K := g.K)) (pv 3) pe_int (fun _ _ => rfl)) pe_bl rfl)) pss_nil)))))
      (pss_one (ps_ret (pe_listKeys rfl (by rfl) T.list (pv 1))))))), ?_⟩
    obtain ⟨vs, ha, hp⟩ := hrows.ex
    have hlen := hp.length
    intro d hd
    refine ⟨fun m σ H' => ∃ (st : List Nat) (more : Bool) (v3 : Option V), σ = [some (.ref a), some (.ref d), some (.bl more), v3, none] ∧ Same H H' ∧ H' d = some (.dK (dkv st)) ∧ Pre rows st ∧ ord rows = ordF rows (rows.length - st.length) st ∧
      (more = false → nexts rows st = []) ∧ m = if more = true then rows.length - st.length + 1 else 0, ⟨_, [], true, none, rfl, same_new hd, upd_same, Pre.nil rows, rfl, (fun z => nomatch z), rfl⟩, ?_⟩
    rintro m σ H1 ⟨st, more, v3, rfl, s1, hd1, pre, hord, hmore, rfl⟩
    refine ⟨_, rfl, _, rfl, ?_⟩
    cases more with
    | false =>
      refine iteF ⟨_, rfl, d, _, rfl, hd1, fun p hp1 => ?_⟩
      rw [dkv_keys]
      have e := hmore rfl
      rw [ordF_done e] at hord
      rw [← hord]
      exact k p _ (fun b o e => by rw [upd_ne (ne_of_none (s1 _ _ e) hp1)]; exact s1 _ _ e) (s1.free hp1) upd_same
    | true =>
      refine iteT ⟨fun σ' H' => ∃ m', m' < (if true = true then rows.length - st.length + 1 else 0) ∧ ∃ (st : List Nat) (more : Bool) (v3 : Option V), σ' = [some (.ref a), some (.ref d), some (.bl more), v3, none] ∧ Same H H' ∧ H' d = some (.dK (dkv st)) ∧ Pre rows st ∧ ord rows = ordF rows (rows.length - st.length) st ∧
        (more = false → nexts rows st = []) ∧ m' = if more = true then rows.length - st.length + 1 else 0, fun σ' H' h => h, ?_⟩
      refine ⟨_, rfl, _, _, rfl, .inl (SqL.of (s1 _ _ ha)), _, rfl, by omega, by omega, lc_filt (walk_range (lo := 0) (n := _)) (fun i => !st.contains i && (match rows[i]? with | some r => may st r | none => false)) (fun D H y i => y = .int (i : Int)) (by omega) (fun _ _ _ _ _ _ _ _ h => h) (fun _ _ => True.intro) ?_ ?_⟩
      · rintro D i x H2 H3 Nx hi hD s2 hl ⟨rfl, hx⟩ k1 k0
        obtain rfl := range_at hx
        have hiv : i < vs.length := by omega
        have hv : vs[i]? = some vs[i] := List.getElem?_eq_getElem hiv
        obtain ⟨r, hr2, rw2⟩ := Pd.getV hp hv
        have s02 := s1.trans s2
        refine ⟨rfl, ⟨_, rfl, _, rfl, d, _, rfl, DGet.k (k := Sum.inl (i : Int)) (s2 _ _ hd1), _, rfl, ?_⟩⟩
        rw [dkv_at]
        rw [hr2] at k1 k0
        cases hc : st.contains i with
        | true =>
          rw [hc] at k0
          exact iteF (iteF (k0 _ rfl (Same.refl _)))
        | false =>
          rw [hc] at k1 k0
          refine iteT ⟨_, rfl, _, rfl, _, _, _, _, rfl, rfl, SqL.of (s02 _ _ ha), atI_nat hv, _, rfl, _, d, r, st, rfl, rw2.same s02, s2 _ _ hd1, fun H4 s4 => ⟨_, rfl, ?_⟩⟩
          cases hm : may st r with
          | true =>
            refine iteT ⟨_, rfl, k1 _ _ (by show (true && may st r) = true; rw [hm]; rfl) s4 rfl⟩
          | false => exact iteF (k0 _ (by show (true && may st r) = false; rw [hm]; rfl) s4)
      · intro D ys H2 hD s2 hys h2
        have e : ys = nV (nexts rows st) := by
          have z := nV_pd h2 fun _ _ h => h
          rw [Int.toNat_natCast, hlen] at z
          exact z
        have hd2 := s2 _ _ hd1
        have s02 := s1.trans s2
        refine ⟨_, rfl, (by show 0 ≤ sizeLine; decide), fun l hl => ?_⟩
        have s3 := same_new (o := .lst []) hl
        have hys3 := s3 _ _ hys
        rw [e, nV_ints] at hys3
        refine ⟨_, _, dp_ints (SqL.of hys3), .lst (SqL.of upd_same) .nil, shaped_ints _, rfl, ?_⟩
        rw [eqv_nil]
        refine ⟨_, rfl, _, rfl, ?_⟩
        cases hn : nexts rows st with
        | nil =>
          refine iteF ⟨_, ?_, st, false, some (.ref D), rfl, s02.trans s3, s3 _ _ hd2, pre, hord, fun _ => hn, rfl⟩
          rw [if_neg Bool.false_ne_true, if_pos rfl]
          omega
        | cons j r =>
          have hj : j ∈ nexts rows st := by rw [hn]; exact List.mem_cons_self
          obtain ⟨_, hjn, _⟩ := mem_nexts.mp hj
          obtain ⟨o1, o2⟩ := ordF_step pre hn hord
          rw [← nV_ints, hn] at hys3
          refine iteT ⟨_, rfl, _, rfl, _, _, _, _, rfl, rfl, SqL.of hys3, atI_nat (j := 0) rfl, d, _, rfl, DPut.k (k := Sum.inl (j : Int)) (s3 _ _ hd2) ?_, _, ?_, st ++ [j], true, some (.ref D), rfl, fun b o eb => ?_, ?_, pre.snoc hj, o1, (fun z => nomatch z), rfl⟩
          · unfold dkv
            rw [List.length_map]
            exact small1000 (by omega)
          · rw [if_pos rfl, if_pos rfl, List.length_append, List.length_singleton]
            omega
          · have nd : b ≠ d := fun z => by
              rw [z, hd] at eb
              cases eb
            rw [upd_ne nd]
            exact s3 _ _ (s02 _ _ eb)
          · rw [dkv_put hjn]
            exact upd_same
end
end K79
end

section
set_option linter.all false
set_option maxRecDepth 100000
set_option maxHeartbeats 4000000
/-! K79M4: rings. -/
namespace K79
open PySem PySem.Spec PyProof.Rows L2

section
variable {g : G}
theorem inV_nat (i : Nat) (l : List Nat) : inV (.int (i : Int)) (nV l) = l.contains i := by
  unfold inV nV
  rw [List.any_map, Bool.eq_iff_iff, List.any_eq_true, List.contains_iff_mem]
  constructor
  · rintro ⟨j, hj, e⟩
    have e2 : (((j : Int)) == (i : Int)) = true := e
    have e3 := beq_iff_eq.mp e2
    have : j = i := by omega
    subst this
    exact hj
  · intro h
    exact ⟨i, h, (beq_iff_eq.mpr rfl : (((i : Int)) == (i : Int)) = true)⟩
theorem flat_nV (l : List Nat) : (nV l).all flatV = true := by
  unfold nV
  rw [List.all_map]
  exact List.all_eq_true.mpr fun _ _ => rfl
/-- x not in a list of shafts -/
theorem notin_nat {K : PySem.W.Frag} {H : Hp} {p : Addr} {l : List Nat} {i : Nat} {Q : VK} (h : H p = some (.lst (nV l))) (q : Q (.bl (!l.contains i)) H) : rIn K true (.int (i : Int)) (.ref p) H Q := by
  refine ⟨p, _, rfl, .inl (SqL.of h), rfl, flat_nV l, ?_⟩
  rw [if_pos rfl, inV_nat]
  exact q
/-- a ring; nothing where there is none -/
def spRing (K : PySem.W.Frag) : Sp := fun vs H Q _ => ∃ (a : Addr) (rows : List Row), vs = [.ref a] ∧ RwL K H a rows ∧ rows.length ≤ 120 ∧ (∀ r ∈ rows, r.In rows.length) ∧
  ∀ p H' (ys : List Int), Same H H' → H p = none → H' p = some (.lst (ys.map V.int)) → (ys = [] ↔ (ord rows).length = rows.length) → Q (.ref p) H'
theorem first_at : ∀ {l : List Nat} {h : Nat}, h ∈ l → ∃ j : Nat, l[j]? = some h ∧ ∀ (m z : Nat), m < j → l[m]? = some z → z ≠ h
  | [], h, hm => by cases hm
  | a :: l, h, hm => by
    by_cases e : a = h
    · subst e
      exact ⟨0, rfl, fun m z hz => absurd hz (Nat.not_lt_zero _)⟩
    · have hm2 : h ∈ l := by
        rcases List.mem_cons.mp hm with q | q
        · exact absurd q.symm e
        · exact q
      obtain ⟨j, h1, h2⟩ := first_at hm2
      refine ⟨j + 1, by simpa using h1, fun m z hz hzl => ?_⟩
      cases m with
      | zero => simp at hzl; subst hzl; exact e
      | succ m => exact h2 m z (by omega) (by simpa using hzl)
theorem cut_ne {ys : List Int} {j : Nat} (h : j < ys.length) : ∃ zs : List Int, cutV (ys.map V.int) (some (j : Int)) none = zs.map V.int ∧ zs ≠ [] := by
  unfold cutV
  rw [HT.sIx_nat, HT.sIx_none, List.length_map, ← List.map_drop, ← List.map_take]
  refine ⟨_, rfl, fun e => ?_⟩
  have := congrArg List.length e
  rw [List.length_take, List.length_drop, List.length_nil] at this
  omega
abbrev s_ring_of : Stmt := top 40
theorem sc_ring_of : FnScope ["machine", "stands", "here", "path", "shaft"] ["machine"] (defScope s_ring_of) := ⟨rfl, rfl, rfl, by decide +kernel, rfl, by decide +kernel, by decide +kernel⟩
theorem ok_ring_of (T : Txt g) (F : Def g "ring_of" s_ring_of ["machine"]) (G_order_of : Has g CX0 3 "order_of" ["machine"] (spOrder g.K)) (G_drives_of : Has g CX0 1 "drives_of" ["row"] (spDrives g.K)) : Has g CX0 4 "ring_of" ["machine"] (spRing g.K) := by
  refine F.ok sc_ring_of (fun vs H Q E h => ?_) (fun f cdv A outer s H vs Q E hr h => ?_)
  · obtain ⟨a, rows, rfl, _⟩ := h
    rfl
  · obtain ⟨a, rows, rfl, hrows, h120, hin, k⟩ := h
    refine ⟨_, (pss_cons (ps_set (i := 1) sc_ring_of.nd rfl (Or.inr rfl) (pe_has G_order_of hr (by decide) pass0 (pa_cons (pv 0) pa_nil)))
      (pss_cons (ps_if (pt_cmpR op_eq (pe_callB (call_lenK (K := g.K)) (by rfl) T.len PySem.boot_len (pa_cons (pv 1) pa_nil)) (pe_callB (call_lenK (K := g.K)) (by rfl) T.len PySem.boot_len (pa_cons (pv 0) pa_nil)) (nomark _)) (pss_one (ps_ret (pe_lst pa_nil))) pss_nil)
      (pss_cons (ps_set (i := 2) sc_ring_of.nd rfl (Or.inl rfl) (pe_ix (ix_listK (K := g.K)) (pe_lc (own := [("shaft", 4)]) (g := gName 4)  rfl sc_ring_of.nd (pi_range1 (by rfl) T.range (pa_cons (pe_callB (call_lenK (K := g.K)) (by rfl) T.len PySem.boot_len (pa_cons (pv 0) pa_nil)) pa_nil)) (blkOk_by (own := [("shaft", 4)]) (N := ["machine", "stands", "here", "path", "shaft"]) (sc := defScope s_ring_of) (by decide +kernel)) (fun _ _ _ _ _ => (pg_name (i := 4) sc_ring_of.nd rfl (Or.inl rfl))) (fun _ _ _ _ _ => (pts_one (pt_cmpR (op_notInSK (K := g.K)) (pv 4) (pv 1) rfl))) (fun _ _ _ _ _ => (pv 4))) pe_int (fun _ _ => rfl)))
      (pss_cons (ps_set (i := 3) sc_ring_of.nd rfl (Or.inl rfl) (pe_lst pa_nil))
      (pss_cons (ps_while PassesOwn.never (pt_cmpR (op_notInSK (K := g.K)) (pv 2) (pv 3) rfl) (pss_cons (ps_expr (pe_bm PySem.F.plainAttrs_list PySem.F.slot_list_append PySem.F.type_list_append mt_append (pv 3) (pa_cons (pv 2) pa_nil)))
      (pss_one (ps_set (i := 2) sc_ring_of.nd rfl (Or.inl rfl) (pe_ix (ix_listK (K := g.K)) (pe_lc (own := [("shaft", 4)]) (g := gName 4)  rfl sc_ring_of.nd (pi_list (pe_has G_drives_of hr (by decide) pass0 (pa_cons (pe_ix (ix_listK (K := g.K)) (pv 0) (pv 2) (fun _ _ => rfl)) pa_nil))) (blkOk_by (own := [("shaft", 4)]) (N := ["machine", "stands", "here", "path", "shaft"]) (sc := defScope s_ring_of) (by decide +kernel)) (fun _ _ _ _ _ => (pg_name (i := 4) sc_ring_of.nd rfl (Or.inl rfl))) (fun _ _ _ _ _ => (pts_one (pt_cmpR (op_notInSK (K := g.K)) (pv 4) (pv 1) rfl))) (fun _ _ _ _ _ => (pv 4))) pe_int (fun _ _ => rfl))))))
      (pss_one (ps_ret (pe_slice (sl_listK (K := g.K)) (pv 3) (po_some (pe_bm PySem.F.plainAttrs_list PySem.F.slot_list_index PySem.F.type_list_index mt_index (pv 3) (pa_cons (pv 2) pa_nil))) po_none)))))))), ?_⟩
    obtain ⟨vs, ha, hp⟩ := hrows.ex
    have hlen := hp.length
    refine ⟨_, rfl, a, rows, rfl, hrows, h120, fun S H1 s1 hS0 hS => ?_⟩
    refine ⟨_, rfl, _, _, rfl, .inl (SqL.of hS), _, rfl, _, _, rfl, .inl (SqL.of (s1 _ _ ha)), rfl, _, rfl, ?_⟩
    by_cases hfull : (ord rows).length = rows.length
    · rw [decide_eq_true (show V.int ((nV (ord rows)).length : Int) = V.int (vs.length : Int) by rw [nV_len, hfull, hlen])]
      refine iteT ⟨(by show 0 ≤ sizeLine; decide), fun p hp0 => ?_⟩
      exact k p _ [] (s1.trans (same_new hp0)) (s1.free hp0) upd_same ⟨fun _ => hfull, fun _ => rfl⟩
    · rw [decide_eq_false (show ¬ V.int ((nV (ord rows)).length : Int) = V.int (vs.length : Int) by
        rw [nV_len, hlen]
        intro z
        injection z with z
        omega)]
      refine iteF ?_
      have pre := ord_pre rows
      -- some shaft does not stand
      have hex : ∃ j, j < rows.length ∧ j ∉ ord rows := by
        refine Classical.byContradiction fun hno => hfull ?_
        refine Nat.le_antisymm pre.len ?_
        have h3 : (List.range rows.length).length ≤ (ord rows).length :=
          (List.nodup_range (n := rows.length)).length_le_of_subset fun j hj => Classical.byContradiction fun hj2 => hno ⟨j, List.mem_range.mp hj, hj2⟩
        rw [List.length_range] at h3
        exact h3
      refine ⟨_, rfl, _, _, rfl, .inl (SqL.of (s1 _ _ ha)), _, rfl, by omega, by omega, lc_filt (walk_range (lo := 0) (n := _)) (fun i => !(ord rows).contains i) (fun D H y i => y = .int (i : Int)) (by omega) (fun _ _ _ _ _ _ _ _ h => h) (fun _ _ => True.intro) ?_ ?_⟩
      · rintro D i x H2 H3 Nx hi hD s2 hl ⟨rfl, hx⟩ k1 k0
        obtain rfl := range_at hx
        refine ⟨rfl, ⟨_, rfl, _, rfl, notin_nat (s2 _ _ hS) ⟨_, rfl, ?_⟩⟩⟩
        cases hc : (!(ord rows).contains i) with
        | true => exact iteT ⟨_, rfl, k1 _ _ hc (Same.refl _) rfl⟩
        | false => exact iteF (k0 _ hc (Same.refl _))
      · intro D ys H2 hD s2 hys h2
        rw [Int.toNat_natCast, hlen] at h2
        have e : ys = nV ((List.range rows.length).filter fun i => !(ord rows).contains i) := nV_pd h2 fun _ _ h => h
        obtain ⟨h0, l0, el⟩ : ∃ h0 l0, (List.range rows.length).filter (fun i => !(ord rows).contains i) = h0 :: l0 := by
          obtain ⟨j, hj1, hj2⟩ := hex
          have hm : j ∈ (List.range rows.length).filter fun i => !(ord rows).contains i := List.mem_filter.mpr ⟨List.mem_range.mpr hj1, by simpa using hj2⟩
          cases q : (List.range rows.length).filter fun i => !(ord rows).contains i with
          | nil => rw [q] at hm; cases hm
          | cons b c => exact ⟨b, c, rfl⟩
        have hh : h0 < rows.length ∧ h0 ∉ ord rows := by
          have hm : h0 ∈ (List.range rows.length).filter fun i => !(ord rows).contains i := by rw [el]; exact List.mem_cons_self
          obtain ⟨q1, q2⟩ := List.mem_filter.mp hm
          exact ⟨List.mem_range.mp q1, by simpa using q2⟩
        rw [e, el] at hys
        refine ⟨_, _, _, _, rfl, rfl, SqL.of hys, atI_nat (j := 0) rfl, ?_⟩
        -- path = []
        refine ⟨(by show 0 ≤ sizeLine; decide), fun P hP => ?_⟩
        have s02 := s1.trans s2
        refine ⟨fun m σ H' => ∃ (pl : List Nat) (h : Nat), σ = [some (.ref a), some (.ref S), some (.int (h : Int)), some (.ref P), none] ∧ Same H2 H' ∧ H' P = some (.lst (nV pl)) ∧ h < rows.length ∧ h ∉ ord rows ∧ pl.Nodup ∧ (∀ j ∈ pl, j < rows.length) ∧ m = rows.length - pl.length,
          ⟨_, [], h0, rfl, same_new hP, upd_same, hh.1, hh.2, List.nodup_nil, by simp, rfl⟩, ?_⟩
        rintro m σ H3 ⟨pl, h, rfl, s3, hP3, hh1, hh2, nd, hlt, rfl⟩
        refine ⟨_, rfl, _, rfl, notin_nat hP3 ⟨_, rfl, ?_⟩⟩
        have s03 := s02.trans s3
        by_cases hc : h ∈ pl
        · -- return path[path.index(here):]
          rw [show (!pl.contains h) = false by simpa using hc]
          obtain ⟨j, hj1, hj2⟩ := first_at hc
          have hjl : j < (pl.map fun j : Nat => (j : Int)).length := by
            rw [List.length_map]
            exact (List.getElem?_eq_some_iff.mp hj1).1
          obtain ⟨zs, hz1, hz2⟩ := cut_ne hjl
          refine iteF ⟨_, rfl, _, rfl, .inl ⟨rfl, _, SqL.of hP3⟩, _, rfl, P, _, _, j, _, rfl, rfl, SqL.of hP3, rfl, flat_nV pl, nV_at hj1, ?_, ?_, _, rfl, P, _, rfl, SqL.of hP3, fun p hp0 => ?_⟩
          · exact (beq_iff_eq.mpr rfl : (((h : Int)) == (h : Int)) = true)
          · intro m z' hm hz
            unfold nV at hz
            rw [List.getElem?_map] at hz
            obtain ⟨z, hz3, rfl⟩ := Option.map_eq_some_iff.mp hz
            have := hj2 m z hm hz3
            show (((z : Int)) == (h : Int)) = false
            exact beq_eq_false_iff_ne.mpr (by omega)
          · rw [nV_ints, hz1]
            exact k p _ zs (s03.trans (same_new hp0)) (s03.free hp0) upd_same ⟨fun z => absurd z hz2, fun z => absurd z hfull⟩
        · rw [show (!pl.contains h) = true by simpa using hc]
          have hpl : (h :: pl).length ≤ rows.length := nodup_len (List.nodup_cons.mpr ⟨hc, nd⟩) fun j hj => by
            rcases List.mem_cons.mp hj with rfl | hj
            · exact hh1
            · exact hlt j hj
          rw [List.length_cons] at hpl
          refine iteT ⟨fun σ' H' => ∃ m', m' < rows.length - pl.length ∧ ∃ (pl : List Nat) (h : Nat), σ' = [some (.ref a), some (.ref S), some (.int (h : Int)), some (.ref P), none] ∧ Same H2 H' ∧ H' P = some (.lst (nV pl)) ∧ h < rows.length ∧ h ∉ ord rows ∧ pl.Nodup ∧ (∀ j ∈ pl, j < rows.length) ∧ m' = rows.length - pl.length, fun _ _ h => h, ?_⟩
          refine ⟨_, rfl, .inl ⟨rfl, _, SqL.of hP3⟩, _, rfl, P, _, _, rfl, rfl, hP3, (by rw [nV_len]; exact small1000 (by omega)), ?_⟩
          -- here = [.. drives_of(machine[here]) ..][0]
          have hP4 : (upd H3 P (.lst (nV pl ++ [V.int (h : Int)]))) P = some (.lst (nV (pl ++ [h]))) := by
            rw [upd_same]
            unfold nV
            rw [List.map_append]
            rfl
          have s4 : Same H2 (upd H3 P (.lst (nV pl ++ [V.int (h : Int)]))) := fun b o eb => by
            rw [upd_ne (ne_of_none eb hP)]
            exact s3 _ _ eb
          generalize upd H3 P (.lst (nV pl ++ [V.int (h : Int)])) = H4 at hP4 s4
          have s04 := s02.trans s4
          have hv : vs[h]? = some vs[h] := List.getElem?_eq_getElem (by omega)
          obtain ⟨r, hr2, rw2⟩ := Pd.getV hp hv
          refine ⟨_, rfl, _, rfl, _, _, _, _, rfl, rfl, SqL.of (s04 _ _ ha), atI_nat hv, _, r, rfl, rw2.same s04, fun q H5 s5 hq0 hq => ⟨q, rfl, ⟨_, SqL.of hq⟩, lc_filt (walk_list (K := g.K) (a := q) (xs := nV r.drives)) (fun i => match r.drives[i]? with | some j => !(ord rows).contains j | none => false)
            (fun D H y i => ∃ j, r.drives[i]? = some j ∧ y = .int (j : Int)) ?_ (fun _ _ _ _ _ _ _ _ h => h) (fun H' s => SqL.of (s _ _ hq)) ?_ ?_⟩⟩
          · rw [nV_len]
            cases r <;> (simp [Row.drives])
          · rintro D2 i x H6 H7 Nx hi hD2 s6 hl ⟨rfl, hx⟩ k1 k0
            unfold nV at hx
            rw [List.getElem?_map] at hx
            obtain ⟨j, hj, rfl⟩ := Option.map_eq_some_iff.mp hx
            rw [hj] at k1 k0
            refine ⟨rfl, ⟨_, rfl, _, rfl, notin_nat (s6 _ _ (s5 _ _ (s4 _ _ (s2 _ _ hS)))) ⟨_, rfl, ?_⟩⟩⟩
            cases hcc : (!(ord rows).contains j) with
            | true => exact iteT ⟨_, rfl, k1 _ _ hcc (Same.refl _) ⟨j, rfl, rfl⟩⟩
            | false => exact iteF (k0 _ hcc (Same.refl _))
          · intro D2 ys2 H6 hD2 s6 hys2 hp2
            -- a drive that does not stand
            have hex2 : ∃ j ∈ r.drives, j ∉ ord rows := by
              refine Classical.byContradiction fun hno => ?_
              have hm : h ∈ nexts rows (ord rows) := mem_nexts.mpr ⟨hh1, hh2, r, hr2, fun j hj => Classical.byContradiction fun hj2 => hno ⟨j, hj, hj2⟩⟩
              rw [ord_end] at hm
              cases hm
            obtain ⟨j, hj1, hj2⟩ := hex2
            obtain ⟨i, hi⟩ := List.mem_iff_getElem?.mp hj1
            have hilt := (List.getElem?_eq_some_iff.mp hi).1
            have hm : i ∈ (List.range (nV r.drives).length).filter (fun i => match r.drives[i]? with | some j => !(ord rows).contains j | none => false) := by
              refine List.mem_filter.mpr ⟨List.mem_range.mpr (by rw [nV_len]; exact hilt), ?_⟩
              rw [hi]
              simpa using hj2
            obtain ⟨y0, hy0, i0, hi0, hR⟩ : ∃ y0, ys2[0]? = some y0 ∧ ∃ i0, i0 ∈ (List.range (nV r.drives).length).filter (fun i => match r.drives[i]? with | some j => !(ord rows).contains j | none => false) ∧ ∃ j, r.drives[i0]? = some j ∧ y0 = .int (j : Int) := by
              generalize (List.range (nV r.drives).length).filter (fun i => match r.drives[i]? with | some j => !(ord rows).contains j | none => false) = l2 at hp2 hm
              cases hp2 with
              | nil => cases hm
              | cons rr tt => exact ⟨_, rfl, _, List.mem_cons_self, rr⟩
            obtain ⟨j0, hj0, rfl⟩ := hR
            obtain ⟨_, hp0⟩ := List.mem_filter.mp hi0
            rw [hj0] at hp0
            refine ⟨_, _, _, _, rfl, rfl, SqL.of hys2, atI_nat (j := 0) hy0, _, ?_, pl ++ [h], j0, rfl, (s4.trans s5).trans s6, s6 _ _ (s5 _ _ hP4), ?_, by simpa using hp0, ?_, ?_, rfl⟩
            · rw [List.length_append, List.length_singleton]
              omega
            · exact Row.drives_in (hin r (List.mem_of_getElem? hr2)) j0 (List.mem_of_getElem? hj0)
            · rw [List.nodup_append]
              refine ⟨nd, by simp, ?_⟩
              intro b hb c hc2
              simp at hc2
              subst hc2
              rintro rfl
              exact hc hb
            · intro b hb
              rw [List.mem_append] at hb
              rcases hb with hb | hb
              · exact hlt b hb
              · simp at hb
                subst hb
                exact hh1
end
end K79
end

section
set_option linter.all false
set_option maxRecDepth 100000
set_option maxHeartbeats 4000000
/-! K79X: own errors, raised where nothing is handled. -/
namespace K79
open PySem PySem.Spec PyProof.Rows L2

/-- what the written part says of an own error's class -/
structure ExT (g : G) (x : Str) : Prop where
  gl : g.mg x = some (.ref (He.ga g.K x))
  kC : PySem.W.keepIn g.K (.ref (He.ga g.K x)) = true
  sub : PySem.W.subIn g.K (.ref (He.ga g.K x)) (.type "BaseException") = some true
  ty : PySem.W.typeIn g.K (.ref (He.ga g.K x)) = some (.type "type")
/-- .. of one without an __init__ -/
structure ExN (g : G) (x : Str) : Prop extends ExT g x where
  q : PySem.W.excIn g.K (He.ga g.K x) He.veBase "ValueError.__new__" = true
/-- .. of one with an __init__ that stores its one argument as f -/
structure ExI (g : G) (x f : Str) : Prop extends ExT g x where
  oex : OexC g.K (He.ga g.K x)
  noat : PySem.W.findIn g.K (.ref (He.ga g.K x)) f = some none

/-- the class's object, looked at -/
def oexB (K : PySem.W.Frag) (C : Addr) : Bool := match K.lookup C with
  | some ⟨.type "type", _, .cls cd, sl⟩ => (match cd.mro, sl.toList with
    | .ref C' :: bm, [_, _, _, _, some (.builtin n), _] => C' == C && (n == "ValueError.__new__" && (!cd.hasDel && (cd.hasDict && PySem.HandSPX.refsVE bm)))
    | _, _ => false)
  | _ => false
theorem oexB_ok {K : PySem.W.Frag} {C : Addr} (q : oexB K C = true) :
    ∃ nm q N bs bm sn sub ab col dd k0 k1 k2 k3 k5, K.lookup C = some (excClassObj nm q C N bs bm true sn sub ab col dd k0 k1 k2 k3 k5 "ValueError.__new__") ∧ PySem.HandSPX.refsVE bm = true := by
  unfold oexB at q
  split at q
  · rename_i dd cd sl ho
    split at q
    · rename_i C' bm k0 k1 k2 k3 n k5 hm hs
      simp only [Bool.and_eq_true, beq_iff_eq, Bool.not_eq_true'] at q
      obtain ⟨rfl, rfl, hdel, hdict, ht⟩ := q
      obtain ⟨nm, bs, mro, ns, qn, hd, sn, sub, ab, col, del⟩ := cd
      dsimp only at hm hdel hdict
      subst hm hdel hdict
      have hsl : sl = #[k0, k1, k2, k3, some (.builtin "ValueError.__new__"), k5] := by
        obtain ⟨l⟩ := sl
        simp only at hs
        rw [hs]
      subst hsl
      exact ⟨nm, qn, ns, bs, bm, sn, sub, ab, col, dd, k0, k1, k2, k3, k5, ho, ht⟩
    · cases q
  · cases q

/-- a def that may raise -/
abbrev CXN (g : G) : CXT := L2N.CX g.P g.w
section
variable {g : G}
theorem Def.okX {x : Str} {st : Stmt} {N ps : List Str} {k : Nat} {sp : Sp} (F : Def g x st ps) (S : FnScope N ps (defScope st)) (len : ∀ vs H Q E, sp vs H Q E → vs.length = ps.length)
    (hbody : ∀ (f : Addr) (cdv : Value) (A : Around) (outer : List Env) (s : Shared) (H : Hp) (vs : List V) (Q : VK) (E : XK), Room k (A.deeper (envOfC x (defScope st) s.heap.objs.size f cdv)) → sp vs H Q E →
      ∃ t, PSs (cxOf (CXN g) g.P g.w g.K g.mg g.base N x (defScope st) f cdv A outer s H E) (defBody st) t ∧ t { nx := fun _ H' => Q .non H', rt := Q } (start N vs) H) : Has g (CXN g) (k + 1) x ps sp := by
  obtain ⟨f, fd, F, hm, hb⟩ := F
  exact ⟨f, fd, F.ok S len fun cdv A outer s H vs Q E hr h => hbody f cdv A outer s H vs Q E hr h, hm, F.kp, hb⟩
theorem MDef.okX {C : Addr} {m qual : Str} {st : Stmt} {N ps : List Str} {k : Nat} {sp : Sp} (F : MDef g C m qual st ps) (S : FnScope N ps (defScope st)) (len : ∀ vs H Q E, sp vs H Q E → vs.length = ps.length)
    (hbody : ∀ (f : Addr) (cdv : Value) (A : Around) (outer : List Env) (s : Shared) (H : Hp) (vs : List V) (Q : VK) (E : XK), Room k (A.deeper (envOfC qual (defScope st) s.heap.objs.size f cdv)) → sp vs H Q E →
      ∃ t, PSs (cxOf (CXN g) g.P g.w g.K g.mg g.base N qual (defScope st) f cdv A outer s H E) (defBody st) t ∧ t { nx := fun _ H' => Q .non H', rt := Q } (start N vs) H) : HasM g (CXN g) (k + 1) C m ps sp := by
  obtain ⟨f, fd, F, hm, hb⟩ := F
  exact ⟨f, fd, F.ok S len fun cdv A outer s H vs Q E hr h => hbody f cdv A outer s H vs Q E hr h, hm, hb⟩
end

/-- the __init__ of an own error: the class at C, the field f -/
def spIni (K : PySem.W.Frag) (C : Addr) (f : Str) : Sp := fun vs H Q _ => ∃ (a : Addr) (v : V), vs = [.ref a, v] ∧ OexC K C ∧ PySem.W.findIn K (.ref C) f = some none ∧ H a = some (exo a C none) ∧
  ∀ dx, H dx = none → dx ≠ a → Q .non (upd (upd H dx (exd dx [(f, v)])) a (exo a C (some dx)))
/-- the __init__ by name -/
def HasI (g : G) (k : Nat) (x : Str) (ps : List Str) (sp : Sp) : Prop := ∃ (f : Addr) (fd : FuncData), FnOk g.P g.w g.K g.mg g.base CX0 k f fd ps sp ∧ PySem.W.findIn g.K (.ref (He.ga g.K x)) "__init__" = some (some (.ref f)) ∧ PySem.W.typeIn g.K (.ref f) = some (.type "function") ∧ Binds g.K fd ps []
def IDef (g : G) (x qual : Str) (st : Stmt) (ps : List Str) : Prop := ∃ (f : Addr) (fd : FuncData), FunD g.K "__init__" qual (defArgs st) (defBody st) (defScope st) [] [] f fd ∧ PySem.W.findIn g.K (.ref (He.ga g.K x)) "__init__" = some (some (.ref f)) ∧ PySem.W.typeIn g.K (.ref f) = some (.type "function") ∧ Binds g.K fd ps []
section
variable {g : G}
theorem IDef.ok {x qual : Str} {st : Stmt} {N ps : List Str} {k : Nat} {sp : Sp} (F : IDef g x qual st ps) (S : FnScope N ps (defScope st)) (len : ∀ vs H Q E, sp vs H Q E → vs.length = ps.length)
    (hbody : ∀ (f : Addr) (cdv : Value) (A : Around) (outer : List Env) (s : Shared) (H : Hp) (vs : List V) (Q : VK) (E : XK), Room k (A.deeper (envOfC qual (defScope st) s.heap.objs.size f cdv)) → sp vs H Q E →
      ∃ t, PSs (cxOf CX0 g.P g.w g.K g.mg g.base N qual (defScope st) f cdv A outer s H E).nox (defBody st) t ∧ t { nx := fun _ H' => Q .non H', rt := Q } (start N vs) H) : HasI g (k + 1) x ps sp := by
  obtain ⟨f, fd, F, hi, ht, hb⟩ := F
  refine ⟨f, fd, F.ok S len fun cdv A outer s H vs Q E hr h => ?_, hi, ht, hb⟩
  obtain ⟨t, a, q⟩ := hbody f cdv A outer s H vs Q E hr h
  exact ⟨t, a.nox, q⟩
end

/-- X(e): the error is made, its own dict d, new, holds f -/
def tMkI (C : Addr) (f : Str) (ta : TA) : L2.St → Hp → XK → Prop := fun σ H Q => ta σ H fun vs H1 => ∃ v, vs = [v] ∧ ∀ d H', Same H1 H' → H1 d = none → H' d = some (.xd [(f, v)]) → Q (.ref C) (some d) H'
section
variable {X : Cx} {x f : Str} {a : Expr} {ta : TA} {p pos pos2 : Pos} {k j : Nat} {ps : List Str} {W : WX}
theorem pmkN (T : ExI (Cx.g X) x f) (Gi : HasI (Cx.g X) k x ps (spIni X.K (He.ga X.K x) f)) (hr : Room j X.A) (hk : k + 1 ≤ j) (ha : PA X [a] ta) (hg : Gl X x := by rfl)
    (hdb : (x == ("__debug__" : Str)) = false := by decide) (he : starEach (a :: []) X.env = (false, eval a X.env) :: starEach [] X.env := by rfl) (hpl : (backTo pos (starEach [] X.env)).any (·.1) = false := by rfl) :
    L2N.PMk X (.Call (.Name x p) [a] [] pos) (tMkI (He.ga X.K x) f ta) := by
  intro pins s σ H Q I h
  obtain ⟨fI, fd, F1, iC, tI, hb⟩ := Gi
  have O : OexC X.K (He.ga X.K x) := T.oex
  have hr1 : Room (k + 1) X.A := hr.mono hk
  obtain ⟨nm, q, N, bs, bm, sn, sub, ab, col, dd, k0, k1, k2, k3, k5, hC, hbm⟩ := O.cls
  refine wpAny_Call_Name_kw (ld_glob I hg T.gl ?_ hdb)
  refine PySem.W.callWith_K (h₀ := X.base) I.ok.mod.kin T.kC (thn (ha.run pos pins s σ H _ I h) fun us s1 ⟨vs, H1, I1, r1, v, ev, q1⟩ => ⟨I1.kIn, ?_⟩) he hpl
  subst ev
  show wpAny _ _ (call (.ref (He.ga X.K x)) us) _ _ _
  obtain ⟨hp, gs, dr, tk, os⟩ := s1
  have hsz : hp.objs.size ≤ hp.objs.size + 1 := Nat.le_succ _
  have hn : H1 (hp.objs.size + 1) = none := I1.hok.fresh hsz
  generalize hCx : He.ga X.K x = C at *
  -- the __init__'s promise, and what is then known
  have hq : spIni X.K C f [.ref (hp.objs.size + 1), v] (upd H1 (hp.objs.size + 1) (exo (hp.objs.size + 1) C none)) (fun z H2 => z = .non ∧ ∃ (d : Addr) (fs : List (Str × V)), H2 (hp.objs.size + 1) = some (exo (hp.objs.size + 1) C (some d)) ∧ H2 d = some (exd d fs) ∧ H1 d = none ∧
      Q (.ref C) (some d) (upd (del H2 (hp.objs.size + 1)) d (.xd fs))) (fun _ _ _ => False) := by
    refine ⟨_, v, rfl, O, ?_, upd_same, fun dx hdx hne => ⟨rfl, dx, [(f, v)], upd_same, ?_, ?_, ?_⟩⟩
    · have := T.noat
      rw [← hCx]
      exact this
    · rw [upd_ne hne, upd_same]
    · rw [upd_ne hne] at hdx
      exact hdx
    · rw [upd_ne hne] at hdx
      refine q1 dx _ (fun b o e => ?_) hdx upd_same
      have hb1 : b ≠ dx := ne_of_none e hdx
      have hb2 : b ≠ hp.objs.size + 1 := ne_of_none e hn
      rw [upd_ne hb1, del_ne hb2, upd_ne hb2, upd_ne hb1, upd_ne hb2]
      exact e
  have kk : ∀ b o, hp.get? b = some o → ((hp.push (PySem.W.kdv_tup us)).push (PySem.HandSPX.excO C hp.objs.size)).get? b = some o := fun b o e => Heap.get?_push_of_some _ (Heap.get?_push_of_some _ e)
  have hget : ((hp.push (PySem.W.kdv_tup us)).push (PySem.HandSPX.excO C hp.objs.size)).get? (hp.objs.size + 1) = some (PySem.HandSPX.excO C hp.objs.size) := by heap_get
  have I2 : Inv X pins σ (upd H1 (hp.objs.size + 1) (exo (hp.objs.size + 1) C none)) ⟨(hp.push (PySem.W.kdv_tup us)).push (PySem.HandSPX.excO C hp.objs.size), gs, dr, tk, os⟩ :=
    I1.laid (t' := tk) (a := hp.objs.size + 1) (o := exo (hp.objs.size + 1) C none) (h' := (hp.push (PySem.W.kdv_tup us)).push (PySem.HandSPX.excO C hp.objs.size)) kk hsz (exo_ok hget)
  have r2 : Vals [V.ref (hp.objs.size + 1), v] (Value.ref (hp.objs.size + 1) :: us) := .cons rfl r1
  have hl : (Value.ref (hp.objs.size + 1) :: us ++ []).length = ps.length := by
    have e := r2.length
    rw [F1.len _ _ _ _ hq] at e
    rw [List.append_nil]
    exact e.symm
  have hus : us.length ≤ sizeLine := by
    rw [← Paired.length r1, sizeLine_eq]
    show 1 ≤ 16777216
    decide
  have b2 := hb _ (Value.ref (hp.objs.size + 1) :: us) I2.kIn hl
  rw [List.append_nil] at b2
  refine wpAny_call (PySem.HandSPX.call_own F.excBase_ValueError (fun Y => PySem.HandSPX.refsVE_contains Y bm hbm) (I1.kIn _ _ hC) (PySem.W.looks_findIn I1.kIn iC) (fun self => PySem.W.bind_fn I1.kIn self tI) hus
    (codeAny_mono (F1.run _ X.stack _ _ ⟨Value.ref (hp.objs.size + 1) :: us, []⟩ (Value.ref (hp.objs.size + 1) :: us) _ _ (fun _ _ _ => False) (hr1.make C us []) (I2.env0.make C us []) b2 r2 hq) fun r s' hq' => ?_))
  cases r with
  | error er => exact False.elim hq'
  | ok fl =>
    cases fl with
    | ret u =>
      obtain ⟨z, H2, os2, bare2, un2, hok2, rv, ez, d, fs, ea, ed, hd1, q2⟩ := hq'
      subst ez
      obtain ⟨h2, g2, d2, t2, os'⟩ := s'
      obtain ⟨t0, G, J, kG, ge, hoe, na⟩ := mk_end0 (d2 := d2) (t2 := t2) I1 hsz kk un2 hok2 os2 bare2 ea ed hd1
      refine ⟨rv, hp.objs.size + 1, _, _, ⟨G, g2, d2, t2, os'⟩, _, .ref C, some d, rfl, J, kG, ge, hoe, ⟨rfl, rfl, fun vs hv => ?_⟩, rfl, rfl, na, rfl, bare2, raises_own O.exC O.tyC, q2⟩
      cases hv
      rfl
    | next => exact False.elim hq'
    | brk => exact False.elim hq'
    | cont => exact False.elim hq'
end

abbrev s_Ring___init__ : Stmt := inClass (top 5) 0
theorem sc_Ring___init__ : FnScope ["self", "ring"] ["self", "ring"] (defScope s_Ring___init__) := ⟨rfl, rfl, rfl, by decide +kernel, rfl, by decide +kernel, by decide +kernel⟩
abbrev s_Stopped___init__ : Stmt := inClass (top 10) 0
theorem sc_Stopped___init__ : FnScope ["self", "shaft"] ["self", "shaft"] (defScope s_Stopped___init__) := ⟨rfl, rfl, rfl, by decide +kernel, rfl, by decide +kernel, by decide +kernel⟩
section
variable {g : G}
theorem ok_Ring_init (F : IDef g "Ring" "Ring.__init__" s_Ring___init__ ["self", "ring"]) : HasI g 1 "Ring" ["self", "ring"] (spIni g.K (He.ga g.K "Ring") "ring") := by
  refine F.ok sc_Ring___init__ (fun vs H Q E h => ?_) (fun f cdv A outer s H vs Q E hr h => ?_)
  · obtain ⟨a, v, rfl, _⟩ := h
    rfl
  · obtain ⟨a, v, rfl, O, hno, ha, k⟩ := h
    exact ⟨_, pss_one (ps_ost (pv 0) (pv 1)), _, rfl, _, rfl, a, _, rfl, O, hno, .inl ⟨ha, k⟩⟩
theorem ok_Stopped_init (F : IDef g "Stopped" "Stopped.__init__" s_Stopped___init__ ["self", "shaft"]) : HasI g 1 "Stopped" ["self", "shaft"] (spIni g.K (He.ga g.K "Stopped") "shaft") := by
  refine F.ok sc_Stopped___init__ (fun vs H Q E h => ?_) (fun f cdv A outer s H vs Q E hr h => ?_)
  · obtain ⟨a, v, rfl, _⟩ := h
    rfl
  · obtain ⟨a, v, rfl, O, hno, ha, k⟩ := h
    exact ⟨_, pss_one (ps_ost (pv 0) (pv 1)), _, rfl, _, rfl, a, _, rfl, O, hno, .inl ⟨ha, k⟩⟩
end
end K79
end

section
set_option linter.all false
set_option maxRecDepth 100000
set_option maxHeartbeats 4000000
/-! K79M5: a machine looked at. -/
namespace K79
open PySem PySem.Spec PyProof.Rows L2

section
variable {g : G}
/-- what is no machine is refused -/
def spLook (K : PySem.W.Frag) : Sp := fun vs H Q E => ∃ (a : Addr) (rows : List Row), vs = [.ref a] ∧ RwL K H a rows ∧ (∀ r ∈ rows, r.In rows.length) ∧ 1 ≤ rows.length ∧ rows.length ≤ 120 ∧
  (srcs rows ≠ 1 → ∀ H', Same H H' → E (.ref (He.ga K "NoMachine")) none H') ∧
  (srcs rows = 1 → (ord rows).length ≠ rows.length → ∀ d p ys H', Same H H' → H' d = some (.xd [("ring", .ref p)]) → H' p = some (.lst ((ys : List Int).map V.int)) → E (.ref (He.ga K "Ring")) (some d) H') ∧
  (srcs rows = 1 → (ord rows).length = rows.length → ∀ H', Same H H' → Q .non H')
abbrev s_look_machine : Stmt := top 41
theorem sc_look_machine : FnScope ["thing", "ring"] ["thing"] (defScope s_look_machine) := ⟨rfl, rfl, rfl, by decide +kernel, rfl, by decide +kernel, by decide +kernel⟩
theorem ok_look_machine (T : Txt g) (F : Def g "look_machine" s_look_machine ["thing"]) (X_NoMachine : ExN g "NoMachine") (X_Ring : ExI g "Ring" "ring") (I_Ring : HasI g 1 "Ring" ["self", "ring"] (spIni g.K (He.ga g.K "Ring") "ring"))
    (G_are_rows : Has g CX0 4 "are_rows" ["thing"] (spAreRows g.K)) (G_ring_of : Has g CX0 4 "ring_of" ["machine"] (spRing g.K)) : Has g (CXN g) 5 "look_machine" ["thing"] (spLook g.K) := by
  refine F.okX sc_look_machine (fun vs H Q E h => ?_) (fun f cdv A outer s H vs Q E hr h => ?_)
  · obtain ⟨a, rows, rfl, _⟩ := h
    rfl
  · obtain ⟨a, rows, rfl, hrows, hin, h1, h120, k1, k2, k3⟩ := h
    refine ⟨_, (pss_cons (ps_if (pt_not (pt_val (pe_has G_are_rows hr (by decide) pass0 (pa_cons (pv 0) pa_nil)))) (pss_one (L2N.ps_raise rfl (L2N.takes_of rfl rfl rfl rfl) (L2N.pmk_own PySem.F.excBase_ValueError X_NoMachine.q X_NoMachine.gl X_NoMachine.kC (raises_own X_NoMachine.sub X_NoMachine.ty) rfl))) pss_nil)
      (pss_cons (ps_set (i := 1) sc_look_machine.nd rfl (Or.inl rfl) (pe_has G_ring_of hr (by decide) pass0 (pa_cons (pv 0) pa_nil)))
      (pss_one (ps_if (pt_cmpR (op_neK (K := g.K) hr.units) (pv 1) (pe_lst pa_nil) (nomark _)) (pss_one (L2N.ps_raise rfl (L2N.takes_of rfl rfl rfl rfl) (pmkN X_Ring I_Ring hr (by decide) (pa_cons (pv 1) pa_nil)))) pss_nil)))), ?_⟩
    refine ⟨_, rfl, a, rows, rfl, hrows, hin, h1, h120, fun H1 s1 => ⟨_, rfl, ?_⟩⟩
    by_cases hs : srcs rows = 1
    · rw [decide_eq_true hs]
      refine iteF ⟨_, rfl, a, rows, rfl, hrows.same s1, h120, hin, fun p H2 ys s2 hp0 hp hys => ?_⟩
      refine ⟨_, rfl, (by show 0 ≤ sizeLine; decide), fun l hl => ?_⟩
      have s3 := same_new (o := .lst []) hl
      refine ⟨_, _, dp_ints (SqL.of (s3 _ _ hp)), .lst (SqL.of upd_same) .nil, shaped_ints _, rfl, _, rfl, ?_⟩
      rw [eqv_nil]
      by_cases hf : (ord rows).length = rows.length
      · have e := hys.mpr hf
        subst e
        exact iteF (k3 hs hf _ ((s1.trans s2).trans s3))
      · have e : ys ≠ [] := fun z => hf (hys.mp z)
        obtain ⟨y, r, rfl⟩ : ∃ y r, ys = y :: r := by
          cases ys with
          | nil => exact absurd rfl e
          | cons y r => exact ⟨y, r, rfl⟩
        refine iteT ⟨_, rfl, _, rfl, fun d H3 s4 _ hd => ?_⟩
        exact k2 hs hf d p (y :: r) H3 (((s1.trans s2).trans s3).trans s4) hd (s4 _ _ (s3 _ _ hp))
    · rw [decide_eq_false hs]
      exact iteT (k1 hs _ s1)
end
end K79
end

section
set_option linter.all false
set_option maxRecDepth 100000
set_option maxHeartbeats 4000000
/-! K79F: a bench in the heap. -/
namespace K79
open PySem PySem.Spec PyProof.Rows L2

/-- what never changes -/
def Fz (o : HO) : Prop := (∃ ys, o = .tup ys) ∨ ∃ u ys, o = .frz u ys
/-- all stands but what is written at the places F -/
def Fr (F : List Addr) (H H' : Hp) : Prop := ∀ b o, H b = some o → (b ∉ F ∨ Fz o) → H' b = some o
section
variable {F F' : List Addr} {H H' H'' : Hp} {K : PySem.W.Frag}
theorem Fr.refl : Fr F H H := fun _ _ e _ => e
theorem Fr.of (s : Same H H') : Fr F H H' := fun b o e _ => s b o e
theorem Fr.trans (s : Fr F H H') (t : Fr F' H' H'') (h : ∀ x ∈ F', x ∈ F ∨ H x = none) : Fr F H H'' := fun b o e k => t b o (s b o e k) (k.imp (fun n m => (h b m).elim n fun z => by rw [e] at z; cases z) id)
theorem Fr.mono (s : Fr F H H') (h : ∀ x ∈ F, x ∈ F' ∨ H x = none) : Fr F' H H' := (Fr.of (F := F') (Same.refl H)).trans s h
theorem Fr.tup {a : Addr} {xs : List V} (s : Fr F H H') (h : SqT K H a xs) : SqT K H' a xs := sqT_keep (fun b o e k => s b o e (.inr k)) h
theorem Fr.get {a : Addr} {o : HO} (s : Fr F H H') (h : H a = some o) (n : a ∉ F) : H' a = some o := s a o h (.inl n)
theorem Nm.fr {v : V} {q : Rat} (s : Fr F H H') (h : Nm K H v q) : Nm K H' v q := let ⟨a, e, t⟩ := h; ⟨a, e, s.tup t⟩
theorem Rw.fr {v : V} {r : Row} (s : Fr F H H') (h : Rw K H v r) : Rw K H' v r := by
  cases h with
  | src t hx => exact .src (s.tup t) (hx.fr s)
  | gear t hx hy => exact .gear (s.tup t) (hx.fr s) (hy.fr s)
  | adder t hx => exact .adder (s.tup t) (hx.fr s)
  | disc t hx => exact .disc (s.tup t) (hx.fr s)
/-- a list or an instance written anew -/
theorem Fr.wr {p : Addr} {o o' : HO} (h : H p = some o) (n : ¬ Fz o) (m : p ∈ F) : Fr F H (L2.upd H p o') := fun b u e k => by
  have : b ≠ p := fun z => by
    subst z
    rw [h] at e
    cases e
    exact k.elim (fun z => z m) n
  rw [upd_ne this]
  exact e
theorem nz_lst {xs : List V} : ¬ Fz (.lst xs) := fun z => by rcases z with ⟨_, z⟩ | ⟨_, _, z⟩ <;> cases z
theorem nz_ins {C dx : Addr} {fs : List (Str × V)} : ¬ Fz (.ins C dx fs) := fun z => by rcases z with ⟨_, z⟩ | ⟨_, _, z⟩ <;> cases z
/-- an end, or none -/
def On (K : PySem.W.Frag) (H : Hp) (v : V) : Option Rat → Prop
  | none => v = .non
  | some q => Nm K H v q
theorem On.fr {v : V} {q : Option Rat} (s : Fr F H H') (h : On K H v q) : On K H' v q := by
  cases q with
  | none => exact h
  | some q => exact Nm.fr s h
/-- the two ends -/
def Lm (K : PySem.W.Frag) (H : Hp) (v : V) (l : Option Rat × Option Rat) : Prop := ∃ a x y, v = .ref a ∧ SqT K H a [x, y] ∧ On K H x l.1 ∧ On K H y l.2
theorem Lm.fr {v : V} {l : Option Rat × Option Rat} (s : Fr F H H') (h : Lm K H v l) : Lm K H' v l := let ⟨a, x, y, e, t, h1, h2⟩ := h; ⟨a, x, y, e, s.tup t, h1.fr s, h2.fr s⟩
end
/-- where a bench lies -/
structure Ad where
  p : Addr
  dx : Addr
  rl : Addr
  sl : Addr
  ul : Addr
  ol : Addr
  ll : Addr
  pl : Addr
def bfs (a : Ad) : List (Str × V) := [("rows", .ref a.rl), ("stood", .ref a.sl), ("sums", .ref a.ul), ("outs", .ref a.ol), ("limits", .ref a.ll), ("past", .ref a.pl)]
def Ad.fp (a : Ad) : List Addr := [a.p, a.rl, a.sl, a.ul, a.ol, a.ll, a.pl]
structure BenchAt (K : PySem.W.Frag) (H : Hp) (a : Ad) (b : B) : Prop where
  ob : H a.p = some (.ins (He.ga K "Bench") a.dx (bfs a))
  rows : ∃ vs, H a.rl = some (.lst vs) ∧ Paired (Rw K H) vs b.rows
  stood : ∃ vs, H a.sl = some (.lst vs) ∧ Paired (Nm K H) vs b.stood
  sums : ∃ vs, H a.ul = some (.lst vs) ∧ Paired (Nm K H) vs b.sums
  outs : H a.ol = some (.lst (b.outs.map V.bl))
  lims : ∃ vs, H a.ll = some (.lst vs) ∧ Paired (Lm K H) vs b.lims
  past : ∃ vs, H a.pl = some (.lst vs) ∧ vs.length = b.past
  nd : a.fp.Nodup
/-- what a deed leaves -/
structure Moved (K : PySem.W.Frag) (H : Hp) (a : Ad) (H' : Hp) (a' : Ad) (b' : B) : Prop where
  fr : Fr a.fp H H'
  bench : BenchAt K H' a' b'
  p : a'.p = a.p
  fp : ∀ x ∈ a'.fp, x ∈ a.fp ∨ H x = none
def Outcome (K : PySem.W.Frag) (H : Hp) (a : Ad) (r : Res) (Q : VK) (E : XK) : Prop := match r with
  | .ok none b' => ∀ a' H', Moved K H a H' a' b' → Q .non H'
  | .ok (some ms) b' => ∀ a' H' p vs, Moved K H a H' a' b' → H' p = some (.lst vs) → Paired (Nm K H') vs ms → p ∉ a'.fp → H p = none → Q (.ref p) H'
  | .stopped k => ∀ d H', Same H H' → H d = none → H' d = some (.xd [("shaft", .int (k : Int))]) → E (.ref (He.ga K "Stopped")) (some d) H'
  | .ring => ∀ d p ys H', Same H H' → H' d = some (.xd [("ring", .ref p)]) → H' p = some (.lst ((ys : List Int).map V.int)) → E (.ref (He.ga K "Ring")) (some d) H'
  | .no x => ∀ H', Same H H' → E (.ref (He.ga K x)) none H'
section
variable {H H' : Hp} {K : PySem.W.Frag} {a : Ad} {b : B}
theorem BenchAt.fr {F : List Addr} (h : BenchAt K H a b) (s : Fr F H H') (n : ∀ x ∈ a.fp, x ∉ F) : BenchAt K H' a b := by
  have k : ∀ x o, x ∈ a.fp → H x = some o → H' x = some o := fun x o m e => s.get e (n x m)
  obtain ⟨v1, r1, p1⟩ := h.rows
  obtain ⟨v2, r2, p2⟩ := h.stood
  obtain ⟨v3, r3, p3⟩ := h.sums
  obtain ⟨v5, r5, p5⟩ := h.lims
  obtain ⟨v6, r6, p6⟩ := h.past
  exact ⟨k _ _ (by simp [Ad.fp]) h.ob, ⟨v1, k _ _ (by simp [Ad.fp]) r1, p1.mono fun _ _ z => z.fr s⟩, ⟨v2, k _ _ (by simp [Ad.fp]) r2, p2.mono fun _ _ z => z.fr s⟩, ⟨v3, k _ _ (by simp [Ad.fp]) r3, p3.mono fun _ _ z => z.fr s⟩, k _ _ (by simp [Ad.fp]) h.outs,
    ⟨v5, k _ _ (by simp [Ad.fp]) r5, p5.mono fun _ _ z => z.fr s⟩, ⟨v6, k _ _ (by simp [Ad.fp]) r6, p6⟩, h.nd⟩
theorem BenchAt.same (h : BenchAt K H a b) (s : Same H H') : BenchAt K H' a b := h.fr (F := []) (Fr.of s) fun _ _ z => nomatch z
theorem BenchAt.there (h : BenchAt K H a b) : ∀ x ∈ a.fp, H x ≠ none := by
  obtain ⟨v1, r1, _⟩ := h.rows
  obtain ⟨v2, r2, _⟩ := h.stood
  obtain ⟨v3, r3, _⟩ := h.sums
  obtain ⟨v5, r5, _⟩ := h.lims
  obtain ⟨v6, r6, _⟩ := h.past
  intro x hx
  simp only [Ad.fp, List.mem_cons, List.not_mem_nil, or_false] at hx
  rcases hx with rfl | rfl | rfl | rfl | rfl | rfl | rfl
  · rw [h.ob]; simp
  · rw [r1]; simp
  · rw [r2]; simp
  · rw [r3]; simp
  · rw [h.outs]; simp
  · rw [r5]; simp
  · rw [r6]; simp
/-- no part of it is frozen -/
theorem BenchAt.nz (h : BenchAt K H a b) : ∀ x ∈ a.fp, ∀ o, H x = some o → ¬ Fz o := by
  obtain ⟨v1, r1, _⟩ := h.rows
  obtain ⟨v2, r2, _⟩ := h.stood
  obtain ⟨v3, r3, _⟩ := h.sums
  obtain ⟨v5, r5, _⟩ := h.lims
  obtain ⟨v6, r6, _⟩ := h.past
  intro x hx o ho
  simp only [Ad.fp, List.mem_cons, List.not_mem_nil, or_false] at hx
  rcases hx with rfl | rfl | rfl | rfl | rfl | rfl | rfl
  · rw [h.ob] at ho; cases ho; exact nz_ins
  · rw [r1] at ho; cases ho; exact nz_lst
  · rw [r2] at ho; cases ho; exact nz_lst
  · rw [r3] at ho; cases ho; exact nz_lst
  · rw [h.outs] at ho; cases ho; exact nz_lst
  · rw [r5] at ho; cases ho; exact nz_lst
  · rw [r6] at ho; cases ho; exact nz_lst
theorem BenchAt.wr {x : Addr} {o' : HO} (h : BenchAt K H a b) (m : x ∈ a.fp) : Fr a.fp H (L2.upd H x o') := by
  have t := h.there x m
  cases e : H x with
  | none => exact absurd e t
  | some o => exact Fr.wr e (h.nz x m o e) m
/-- the deed done, a longer past -/
theorem BenchAt.keep {l : List V} {x : V} (h : BenchAt K H a b) (e : H a.pl = some (.lst l)) : Moved K H a (L2.upd H a.pl (.lst (l ++ [x]))) a { b with past := b.past + 1 } := by
  have s := h.wr (o' := .lst (l ++ [x])) (x := a.pl) (by simp [Ad.fp])
  obtain ⟨v1, r1, p1⟩ := h.rows
  obtain ⟨v2, r2, p2⟩ := h.stood
  obtain ⟨v3, r3, p3⟩ := h.sums
  obtain ⟨v5, r5, p5⟩ := h.lims
  obtain ⟨v6, r6, p6⟩ := h.past
  rw [r6] at e
  cases e
  have nd := h.nd
  simp only [Ad.fp, List.nodup_cons, List.mem_cons, List.not_mem_nil, or_false, not_or] at nd
  obtain ⟨⟨-, -, -, -, -, n1⟩, ⟨-, -, -, -, n2⟩, ⟨-, -, -, n3⟩, ⟨-, -, n4⟩, ⟨-, n5⟩, n6, -⟩ := nd
  exact ⟨s, ⟨by rw [upd_ne n1]; exact h.ob, ⟨v1, by rw [upd_ne n2]; exact r1, p1.mono fun _ _ z => z.fr s⟩, ⟨v2, by rw [upd_ne n3]; exact r2, p2.mono fun _ _ z => z.fr s⟩, ⟨v3, by rw [upd_ne n4]; exact r3, p3.mono fun _ _ z => z.fr s⟩,
    by rw [upd_ne n5]; exact h.outs, ⟨v5, by rw [upd_ne n6]; exact r5, p5.mono fun _ _ z => z.fr s⟩, ⟨_, upd_same, by rw [List.length_append, p6]; rfl⟩, h.nd⟩, rfl, fun _ m => .inl m⟩
theorem Moved.trans {H1 H2 : Hp} {a1 a2 : Ad} {b1 b2 : B} (m1 : Moved K H a H1 a1 b1) (m2 : Moved K H1 a1 H2 a2 b2) : Moved K H a H2 a2 b2 := by
  refine ⟨m1.fr.trans m2.fr m1.fp, m2.bench, m2.p.trans m1.p, fun x hx => ?_⟩
  rcases m2.fp x hx with h | h
  · exact m1.fp x h
  · by_cases e : x ∈ a.fp
    · exact .inl e
    · refine .inr ?_
      cases z : H x with
      | none => rfl
      | some o =>
        rw [m1.fr.get z e] at h
        cases h
theorem Moved.of (h : BenchAt K H a b) (s : Same H H') : Moved K H a H' a b := ⟨Fr.of s, h.same s, rfl, fun _ m => .inl m⟩
theorem Moved.before {H1 H2 : Hp} {a2 : Ad} {b2 : B} (s : Same H H1) (m : Moved K H1 a H2 a2 b2) (h : BenchAt K H a b) : Moved K H a H2 a2 b2 := (Moved.of h s).trans m
end
end K79
end

section
set_option linter.all false
set_option maxRecDepth 100000
set_option maxHeartbeats 4000000
/-! K79G: a bench's small defs. -/
namespace K79
open PySem PySem.Spec PyProof.Rows L2

/-- what the written part says of the bench's class -/
structure TxB (g : G) : Prop extends Txt g where
  bench : Cls g.K (He.ga g.K "Bench")
  n1 : NoAttr g.K (He.ga g.K "Bench") "rows"
  n2 : NoAttr g.K (He.ga g.K "Bench") "stood"
  n3 : NoAttr g.K (He.ga g.K "Bench") "sums"
  n4 : NoAttr g.K (He.ga g.K "Bench") "outs"
  n5 : NoAttr g.K (He.ga g.K "Bench") "limits"
  n6 : NoAttr g.K (He.ga g.K "Bench") "past"
/-- making an instance, with its promise -/
def HasC (g : G) (CX : CXT) (k : Nat) (x : Str) (ps : List Str) (sp : Sp) : Prop := ∃ (f : Addr) (fd : FuncData), FnOk g.P g.w g.K g.mg g.base CX k f fd ps sp ∧ Mk g.K (He.ga g.K x) f ∧ g.mg x = some (.ref (He.ga g.K x)) ∧ Binds g.K fd ps []
/-- the __init__ of a class -/
def CDef (g : G) (x qual : Str) (st : Stmt) (ps : List Str) : Prop := ∃ (f : Addr) (fd : FuncData), FunD g.K "__init__" qual (defArgs st) (defBody st) (defScope st) [] [] f fd ∧ Mk g.K (He.ga g.K x) f ∧ g.mg x = some (.ref (He.ga g.K x)) ∧ Binds g.K fd ps []
section
variable {X : Cx} {CX : CXT} {j k : Nat} {ps : List Str} {sp : Sp} {E : XK} {x : Str} {p pos : Pos} {e : Expr} {es : List Expr} {t : TA}
theorem pe_hasC (h : HasC (Cx.g X) CX k x ps sp) (hr : Room j X.A) (hk : k + 1 ≤ j) (hx : Passes CX X E) (ha : PA X (e :: es) t) (hg : Gl X x := by rfl) (hdb : (x == ("__debug__" : Str)) = false := by decide)
    (he : starEach (e :: es) X.env = (false, eval e X.env) :: starEach es X.env := by rfl) (hpl : (backTo pos (starEach es X.env)).any (·.1) = false := by rfl) : PE X (.Call (.Name x p) (e :: es) [] pos) (tMake (He.ga X.K x) sp [] E t) := by
  obtain ⟨f, fd, F, M, hm, hb⟩ := h
  exact pe_make M F (hr.mono hk) hg hm hb .nil hx ha hdb he hpl
end
section
variable {g : G}
theorem CDef.ok {x qual : Str} {st : Stmt} {N ps : List Str} {k : Nat} {sp : Sp} (F : CDef g x qual st ps) (S : FnScope N ps (defScope st)) (len : ∀ vs H Q E, sp vs H Q E → vs.length = ps.length)
    (hbody : ∀ (f : Addr) (cdv : Value) (A : Around) (outer : List Env) (s : Shared) (H : Hp) (vs : List V) (Q : VK) (E : XK), Room k (A.deeper (envOfC qual (defScope st) s.heap.objs.size f cdv)) → sp vs H Q E →
      ∃ t, PSs (cxOf CX0 g.P g.w g.K g.mg g.base N qual (defScope st) f cdv A outer s H E).nox (defBody st) t ∧ t { nx := fun _ H' => Q .non H', rt := Q } (start N vs) H) : HasC g CX0 (k + 1) x ps sp := by
  obtain ⟨f, fd, F, hi, hm, hb⟩ := F
  refine ⟨f, fd, F.ok S len fun cdv A outer s H vs Q E hr h => ?_, hi, hm, hb⟩
  obtain ⟨t, a, q⟩ := hbody f cdv A outer s H vs Q E hr h
  exact ⟨t, a.nox, q⟩
end
section
variable {g : G}
theorem getD_at {l : List Rat} {i : Nat} {q : Rat} (h : l[i]? = some q) : l.getD i 0 = q := by
  rw [List.getD_eq_getElem?_getD, h]
  rfl
theorem Row.small_num {n m : Nat} {s r : Rat} {j : Nat} (h : (Row.gear s r j).small n m) : Sz m r := h.2
/-- how far a row's shaft goes -/
def spMoveOf (K : PySem.W.Frag) : Sp := fun vs H Q _ => ∃ (v w : V) (sl ml : Addr) (r : Row) (us ws : List V) (ss ms : List Rat) (q : Rat) (m : Nat), vs = [v, .ref sl, .ref ml, w] ∧ Rw K H v r ∧ SqL K H sl us ∧ Paired (Nm K H) us ss ∧ SqL K H ml ws ∧ Paired (Nm K H) ws ms ∧ Nm K H w q ∧
  r.In ms.length ∧ ss.length = ms.length ∧ r.small 200 4 ∧ (∀ x ∈ ss, Sz 200 x) ∧ (∀ x ∈ ms, Sz m x) ∧ m ≤ 4000 ∧ ∀ u H', Same H H' → Nm K H' u (moveOf ss q r ms) → Q u H'
abbrev s_move_of : Stmt := top 43
theorem sc_move_of : FnScope ["row", "stood", "moves", "number"] ["row", "stood", "moves", "number"] (defScope s_move_of) := ⟨rfl, rfl, rfl, by decide +kernel, rfl, by decide +kernel, by decide +kernel⟩
theorem ok_move_of (T : TxB g) (F : Def g "move_of" s_move_of ["row", "stood", "moves", "number"]) (G_times : Has g CX0 3 "times" ["one", "other"] (spTimes g.K)) (G_plus : Has g CX0 3 "plus" ["one", "other"] (spPlus g.K)) :
    Has g CX0 4 "move_of" ["row", "stood", "moves", "number"] (spMoveOf g.K) := by
  refine F.ok sc_move_of (fun vs H Q E h => ?_) (fun f cdv A outer s H vs Q E hr h => ?_)
  · obtain ⟨v, w, sl, ml, r, us, ws, ss, ms, q, m, rfl, _⟩ := h
    rfl
  · obtain ⟨v, w, sl, ml, r, us, ws, ss, ms, q, m, rfl, hv, hs, ps, hm, pm, hw, hin, hl, hz, zs, zm, m4, k⟩ := h
    refine ⟨_, (pss_cons (ps_if (pt_cmpR op_eq (pe_ix (ix_tupK (K := g.K)) (pv 0) pe_int (fun _ _ => rfl)) pe_str (nomark _)) (pss_one (ps_ret (pv 3))) pss_nil)
      (pss_cons (ps_if (pt_cmpR op_eq (pe_ix (ix_tupK (K := g.K)) (pv 0) pe_int (fun _ _ => rfl)) pe_str (nomark _)) (pss_one (ps_ret (pe_has G_times hr (by decide) pass0 (pa_cons (pe_ix (ix_tupK (K := g.K)) (pv 0) pe_int (fun _ _ => rfl)) (pa_cons (pe_ix (ix_listK (K := g.K)) (pv 2) (pe_ix (ix_tupK (K := g.K)) (pv 0) pe_int (fun _ _ => rfl)) (fun _ _ => rfl)) pa_nil))))) pss_nil)
      (pss_cons (ps_if (pt_cmpR op_eq (pe_ix (ix_tupK (K := g.K)) (pv 0) pe_int (fun _ _ => rfl)) pe_str (nomark _)) (pss_one (ps_ret (pe_has G_plus hr (by decide) pass0 (pa_cons (pe_ix (ix_listK (K := g.K)) (pv 2) (pe_ix (ix_tupK (K := g.K)) (pv 0) pe_int (fun _ _ => rfl)) (fun _ _ => rfl)) (pa_cons (pe_ix (ix_listK (K := g.K)) (pv 2) (pe_ix (ix_tupK (K := g.K)) (pv 0) pe_int (fun _ _ => rfl)) (fun _ _ => rfl)) pa_nil))))) pss_nil)
      (pss_one (ps_ret (pe_has G_times hr (by decide) pass0 (pa_cons (pe_ix (ix_listK (K := g.K)) (pv 1) (pe_ix (ix_tupK (K := g.K)) (pv 0) pe_int (fun _ _ => rfl)) (fun _ _ => rfl)) (pa_cons (pe_ix (ix_listK (K := g.K)) (pv 2) (pe_ix (ix_tupK (K := g.K)) (pv 0) pe_int (fun _ _ => rfl)) (fun _ _ => rfl)) pa_nil)))))))), ?_⟩
    have len : us.length = ms.length := ps.length.trans hl
    cases hv with
    | src t hx =>
      refine ⟨_, rfl, _, _, _, _, rfl, rfl, t, rfl, rfl, _, rfl, iteT ⟨_, rfl, k _ _ (Same.refl _) hw⟩⟩
    | @gear a x y s r j t hx hy =>
      have hj : j < ms.length := hin
      obtain ⟨qj, hqj⟩ := ex_at hj
      obtain ⟨vj, hvj, nj⟩ := Pd.get pm hqj
      refine ⟨_, rfl, _, _, _, _, rfl, rfl, t, rfl, rfl, _, rfl, iteF ?_⟩
      refine ⟨_, rfl, _, _, _, _, rfl, rfl, t, rfl, rfl, _, rfl, iteT ?_⟩
      refine ⟨_, rfl, _, _, _, _, rfl, rfl, t, rfl, _, rfl, _, rfl, _, _, _, _, rfl, rfl, t, rfl, _, _, _, _, rfl, rfl, hm, atI_nat hvj, y, vj, r, qj, rfl, hy, nj, Fit.of hz.2 (zm _ (List.mem_of_getElem? hqj)) (by omega), fun u H' s1 hu => ?_⟩
      refine k u H' s1 ?_
      show Nm g.K H' u (r * ms.getD j 0)
      rw [getD_at hqj]
      exact hu
    | @adder a x s i j t hx =>
      obtain ⟨hi, hj⟩ : i < ms.length ∧ j < ms.length := hin
      obtain ⟨qi, hqi⟩ := ex_at hi
      obtain ⟨vi, hvi, ni⟩ := Pd.get pm hqi
      obtain ⟨qj, hqj⟩ := ex_at hj
      obtain ⟨vj, hvj, nj⟩ := Pd.get pm hqj
      refine ⟨_, rfl, _, _, _, _, rfl, rfl, t, rfl, rfl, _, rfl, iteF ?_⟩
      refine ⟨_, rfl, _, _, _, _, rfl, rfl, t, rfl, rfl, _, rfl, iteF ?_⟩
      refine ⟨_, rfl, _, _, _, _, rfl, rfl, t, rfl, rfl, _, rfl, iteT ?_⟩
      refine ⟨_, rfl, _, rfl, _, _, _, _, rfl, rfl, t, rfl, _, _, _, _, rfl, rfl, hm, atI_nat hvi, _, rfl, _, rfl, _, _, _, _, rfl, rfl, t, rfl, _, _, _, _, rfl, rfl, hm, atI_nat hvj, vi, vj, qi, qj, rfl, ni, nj,
        Fit.of (zm _ (List.mem_of_getElem? hqi)) (zm _ (List.mem_of_getElem? hqj)) (by omega), fun u H' s1 hu => ?_⟩
      refine k u H' s1 ?_
      show Nm g.K H' u (ms.getD i 0 + ms.getD j 0)
      rw [getD_at hqi, getD_at hqj]
      exact hu
    | @disc a x s i j t hx =>
      obtain ⟨hi, hj⟩ : i < ms.length ∧ j < ms.length := hin
      obtain ⟨qi, hqi⟩ := ex_at (xs := ss) (i := i) (by omega)
      obtain ⟨vi, hvi, ni⟩ := Pd.get ps hqi
      obtain ⟨qj, hqj⟩ := ex_at hj
      obtain ⟨vj, hvj, nj⟩ := Pd.get pm hqj
      refine ⟨_, rfl, _, _, _, _, rfl, rfl, t, rfl, rfl, _, rfl, iteF ?_⟩
      refine ⟨_, rfl, _, _, _, _, rfl, rfl, t, rfl, rfl, _, rfl, iteF ?_⟩
      refine ⟨_, rfl, _, _, _, _, rfl, rfl, t, rfl, rfl, _, rfl, iteF ?_⟩
      refine ⟨_, rfl, _, rfl, _, _, _, _, rfl, rfl, t, rfl, _, _, _, _, rfl, rfl, hs, atI_nat hvi, _, rfl, _, rfl, _, _, _, _, rfl, rfl, t, rfl, _, _, _, _, rfl, rfl, hm, atI_nat hvj, vi, vj, qi, qj, rfl, ni, nj,
        Fit.of (zs _ (List.mem_of_getElem? hqi)) (zm _ (List.mem_of_getElem? hqj)) (by omega), fun u H' s1 hu => ?_⟩
      refine k u H' s1 ?_
      show Nm g.K H' u (ss.getD i 0 * ms.getD j 0)
      rw [getD_at hqi, getD_at hqj]
      exact hu
theorem rat_lt (a b : Rat) : decide (a.num * b.den < b.num * a.den) = decide (a < b) := lt_rat a b
/-- beyond an end -/
def below (l : Option Rat) (q : Rat) : Bool := match l with | some x => decide (q < x) | none => false
theorem beyond_none {l1 : Option Rat} {q : Rat} (e : below l1 q = false) : beyond (l1, none) q = false := by
  show (below l1 q || false) = false
  rw [e]
  rfl
theorem beyond_some {l1 : Option Rat} {q z : Rat} (e : below l1 q = false) : beyond (l1, some z) q = decide (z < q) := by
  show (below l1 q || decide (z < q)) = decide (z < q)
  rw [e]
  rfl
theorem beyond_low {l2 : Option Rat} {q z : Rat} (e : q < z) : beyond (some z, l2) q = true := by
  show (decide (q < z) || _) = true
  rw [decide_eq_true e]
  rfl
def spBeyond (K : PySem.W.Frag) : Sp := fun vs H Q _ => ∃ (v w : V) (l : Option Rat × Option Rat) (q : Rat), vs = [v, w] ∧ Lm K H v l ∧ Nm K H w q ∧ (∀ x, (l.1 = some x ∨ l.2 = some x) → Sz 200 x) ∧ Sz 8000 q ∧ Q (.bl (beyond l q)) H
abbrev s_is_beyond : Stmt := top 44
theorem sc_is_beyond : FnScope ["ends", "number", "least", "greatest"] ["ends", "number"] (defScope s_is_beyond) := ⟨rfl, rfl, rfl, by decide +kernel, rfl, by decide +kernel, by decide +kernel⟩
theorem ok_is_beyond (T : TxB g) (F : Def g "is_beyond" s_is_beyond ["ends", "number"]) (G_is_above : Has g CX0 1 "is_above" ["one", "other"] (spAbove g.K)) : Has g CX0 2 "is_beyond" ["ends", "number"] (spBeyond g.K) := by
  refine F.ok sc_is_beyond (fun vs H Q E h => ?_) (fun f cdv A outer s H vs Q E hr h => ?_)
  · obtain ⟨v, w, l, q, rfl, _⟩ := h
    rfl
  · obtain ⟨v, w, l, q, rfl, hl, hw, zl, zq, k⟩ := h
    refine ⟨_, (pss_cons (ps_asg (pv 0) (pg_tup rfl (pgs_cons (pg_name (i := 2) sc_is_beyond.nd rfl (Or.inl rfl)) (pgs_cons (pg_name (i := 3) sc_is_beyond.nd rfl (Or.inl rfl)) pgs_nil))))
      (pss_cons (ps_if (PW.pt (pw_and (pt_cmpR op_notN (pv 2) pe_non (nomark _)) (pw_and1 (pt_val (pe_has G_is_above hr (by decide) pass0 (pa_cons (pv 2) (pa_cons (pv 1) pa_nil))))))) (pss_one (ps_ret pe_bl)) pss_nil)
      (pss_one (ps_ret (pe_and (pe_cmpR op_notN (pv 3) pe_non (nomark _)) (pe_one (pe_has G_is_above hr (by decide) pass0 (pa_cons (pv 1) (pa_cons (pv 3) pa_nil))))))))), ?_⟩
    obtain ⟨a, x, y, rfl, t, hx, hy⟩ := hl
    refine ⟨_, rfl, _, _, rfl, t, rfl, x, _, rfl, y, _, rfl, rfl, ?_⟩
    obtain ⟨l1, l2⟩ := l
    have last : ∀ H', Same H H' → below l1 q = false → H' = H →
        tAndV (tOp (fun x y H Q => y = .non ∧ Q (.bl (!decide (x = .non))) H) (tVar 3) (tC .non)) (tCall (spAbove g.K) [] (fun _ _ _ => False) (tCons (tVar 1) (tCons (tVar 3) tNil))) [some (.ref a), some w, some x, some y] H' fun v H' => Q v H' := by
      rintro H' s1 e rfl
      cases l2 with
      | none =>
        have : y = .non := hy
        subst this
        refine ⟨_, rfl, rfl, false, rfl, ?_⟩
        rw [if_neg Bool.false_ne_true]
        rw [beyond_none e] at k
        exact k
      | some z =>
        obtain ⟨b, rfl, tb⟩ := hy
        refine ⟨_, rfl, rfl, true, rfl, ?_⟩
        rw [if_pos rfl]
        refine ⟨_, rfl, _, rfl, w, .ref b, q, z, rfl, hw, ⟨b, rfl, tb⟩, Fit.of zq (zl z (.inr rfl)) (by decide), ?_⟩
        rw [beyond_some e] at k
        exact k
    cases l1 with
    | none =>
      have : x = .non := hx
      subst this
      refine ⟨_, rfl, rfl, _, rfl, iteF (iteF (last H (Same.refl _) rfl rfl))⟩
    | some z =>
      obtain ⟨b, rfl, tb⟩ := hx
      refine ⟨_, rfl, rfl, _, rfl, iteT ⟨_, rfl, _, rfl, .ref b, w, z, q, rfl, ⟨b, rfl, tb⟩, hw, Fit.of (zl z (.inl rfl)) zq (by decide), ?_⟩⟩
      by_cases hb : q < z
      · rw [decide_eq_true hb]
        rw [beyond_low hb] at k
        exact ⟨_, rfl, iteT k⟩
      · rw [decide_eq_false hb]
        exact ⟨_, rfl, iteF (last H (Same.refl _) (decide_eq_false hb) rfl)⟩
/-- too long -/
def spLong (K : PySem.W.Frag) : Sp := fun vs H Q _ => ∃ (v : V) (q : Rat), vs = [v] ∧ Nm K H v q ∧ Q (.bl (long q)) H
abbrev s_is_long : Stmt := top 45
theorem sc_is_long : FnScope ["number"] ["number"] (defScope s_is_long) := ⟨rfl, rfl, rfl, by decide +kernel, rfl, by decide +kernel, by decide +kernel⟩
theorem ok_is_long (T : TxB g) (F : Def g "is_long" s_is_long ["number"]) : Has g CX0 1 "is_long" ["number"] (spLong g.K) := by
  refine F.ok sc_is_long (fun vs H Q E h => ?_) (fun f cdv A outer s H vs Q E hr h => ?_)
  · obtain ⟨v, q, rfl, _⟩ := h
    rfl
  · obtain ⟨v, q, rfl, hv, k⟩ := h
    refine ⟨_, (pss_one (ps_ret (pe_or (pe_cmpR op_ge (pe_callB call_abs (by rfl) T.abs (by decide +kernel) (pa_cons (pe_ix (ix_tupK (K := g.K)) (pv 0) pe_int (fun _ _ => rfl)) pa_nil)) (pe_op op_pow pe_int pe_int) (nomark _)) (pe_one (pe_cmpR op_ge (pe_ix (ix_tupK (K := g.K)) (pv 0) pe_int (fun _ _ => rfl)) (pe_op op_pow pe_int pe_int) (nomark _)))))), ?_⟩
    obtain ⟨a, rfl, t⟩ := hv
    refine ⟨_, rfl, _, _, _, _, rfl, rfl, t, rfl, _, rfl, _, _, rfl, rfl, ⟨by decide, by decide, by decide⟩, _, _, rfl, rfl, _, rfl, ?_⟩
    rw [abs_eq]
    have e1 : decide ((10 : Int) ^ (60 : Int).toNat ≤ (q.num.natAbs : Int)) = decide (10 ^ 60 ≤ q.num.natAbs) := by
      have : ((10 : Int) ^ (60 : Int).toNat ≤ (q.num.natAbs : Int)) ↔ (10 ^ 60 ≤ q.num.natAbs) := by
        rw [show (10 : Int) ^ (60 : Int).toNat = ((10 ^ 60 : Nat) : Int) from by decide +kernel]
        exact Int.ofNat_le
      exact decide_eq_decide.mpr this
    have e2 : decide ((10 : Int) ^ (60 : Int).toNat ≤ (q.den : Int)) = decide (10 ^ 60 ≤ q.den) := by
      have : ((10 : Int) ^ (60 : Int).toNat ≤ (q.den : Int)) ↔ (10 ^ 60 ≤ q.den) := by
        rw [show (10 : Int) ^ (60 : Int).toNat = ((10 ^ 60 : Nat) : Int) from by decide +kernel]
        exact Int.ofNat_le
      exact decide_eq_decide.mpr this
    rw [e1]
    unfold long at k
    cases hb : decide (10 ^ 60 ≤ q.num.natAbs) with
    | true =>
      rw [hb] at k
      rw [if_pos rfl]
      exact k
    | false =>
      rw [hb] at k
      rw [if_neg Bool.false_ne_true]
      refine ⟨_, rfl, _, _, _, _, rfl, rfl, t, rfl, _, _, rfl, rfl, ⟨by decide, by decide, by decide⟩, _, _, rfl, rfl, ?_⟩
      show Q (.bl (decide ((10 : Int) ^ (60 : Int).toNat ≤ (q.den : Int)))) H
      rw [e2]
      exact k
end
end K79
end

section
set_option linter.all false
set_option maxRecDepth 100000
set_option maxHeartbeats 4000000
/-! K79G2: a bench's defs that read; keep. -/
namespace K79
open PySem PySem.Spec PyProof.Rows L2

section
variable {g : G}
def spStand (K : PySem.W.Frag) : Sp := fun vs H Q _ => ∃ (a : Ad) (b : B) (i : Nat) (q : Rat), vs = [.ref a.p, .int i] ∧ BenchAt K H a b ∧ b.stood[i]? = some q ∧ ∀ v, Nm K H v q → Q v H
abbrev s_Bench_stand : Stmt := inClass (top 46) 1
theorem sc_Bench_stand : FnScope ["self", "shaft"] ["self", "shaft"] (defScope s_Bench_stand) := ⟨rfl, rfl, rfl, by decide +kernel, rfl, by decide +kernel, by decide +kernel⟩
theorem ok_Bench_stand (T : TxB g) (F : MDef g (He.ga g.K "Bench") "stand" "Bench.stand" s_Bench_stand ["self", "shaft"]) : HasM g CX0 1 (He.ga g.K "Bench") "stand" ["self", "shaft"] (spStand g.K) := by
  refine F.ok sc_Bench_stand (fun vs H Q E h => ?_) (fun f cdv A outer s H vs Q E hr h => ?_)
  · obtain ⟨a, b, i, q, rfl, _⟩ := h
    rfl
  · obtain ⟨a, b, i, q, rfl, hb, hq, k⟩ := h
    refine ⟨_, (pss_one (ps_ret (pe_ix (ix_listK (K := g.K)) (pe_fld (pv 0) rfl) (pv 1) (fun _ _ => rfl)))), ?_⟩
    obtain ⟨vs, hs, ps⟩ := hb.stood
    obtain ⟨v, hv, nv⟩ := Pd.get ps hq
    exact ⟨_, rfl, _, _, _, _, _, rfl, hb.ob, T.bench, T.n2, rfl, _, rfl, _, _, _, _, rfl, rfl, SqL.of hs, atI_nat hv, k v nv⟩
def spMoved (K : PySem.W.Frag) : Sp := fun vs H Q _ => ∃ (a : Ad) (b : B) (i : Nat) (q : Rat), vs = [.ref a.p, .int i] ∧ BenchAt K H a b ∧ b.sums[i]? = some q ∧ ∀ v, Nm K H v q → Q v H
abbrev s_Bench_moved : Stmt := inClass (top 46) 4
theorem sc_Bench_moved : FnScope ["self", "shaft"] ["self", "shaft"] (defScope s_Bench_moved) := ⟨rfl, rfl, rfl, by decide +kernel, rfl, by decide +kernel, by decide +kernel⟩
theorem ok_Bench_moved (T : TxB g) (F : MDef g (He.ga g.K "Bench") "moved" "Bench.moved" s_Bench_moved ["self", "shaft"]) : HasM g CX0 1 (He.ga g.K "Bench") "moved" ["self", "shaft"] (spMoved g.K) := by
  refine F.ok sc_Bench_moved (fun vs H Q E h => ?_) (fun f cdv A outer s H vs Q E hr h => ?_)
  · obtain ⟨a, b, i, q, rfl, _⟩ := h
    rfl
  · obtain ⟨a, b, i, q, rfl, hb, hq, k⟩ := h
    refine ⟨_, (pss_one (ps_ret (pe_ix (ix_listK (K := g.K)) (pe_fld (pv 0) rfl) (pv 1) (fun _ _ => rfl)))), ?_⟩
    obtain ⟨vs, hs, ps⟩ := hb.sums
    obtain ⟨v, hv, nv⟩ := Pd.get ps hq
    exact ⟨_, rfl, _, _, _, _, _, rfl, hb.ob, T.bench, T.n3, rfl, _, rfl, _, _, _, _, rfl, rfl, SqL.of hs, atI_nat hv, k v nv⟩
def spStands (K : PySem.W.Frag) : Sp := fun vs H Q _ => ∃ (a : Ad) (b : B), vs = [.ref a.p] ∧ BenchAt K H a b ∧ ∀ p H' us, Same H H' → H p = none → H' p = some (.lst us) → Paired (Nm K H') us b.stood → Q (.ref p) H'
abbrev s_Bench_stands : Stmt := inClass (top 46) 2
theorem sc_Bench_stands : FnScope ["self"] ["self"] (defScope s_Bench_stands) := ⟨rfl, rfl, rfl, by decide +kernel, rfl, by decide +kernel, by decide +kernel⟩
theorem ok_Bench_stands (T : TxB g) (F : MDef g (He.ga g.K "Bench") "stands" "Bench.stands" s_Bench_stands ["self"]) : HasM g CX0 1 (He.ga g.K "Bench") "stands" ["self"] (spStands g.K) := by
  refine F.ok sc_Bench_stands (fun vs H Q E h => ?_) (fun f cdv A outer s H vs Q E hr h => ?_)
  · obtain ⟨a, b, rfl, _⟩ := h
    rfl
  · obtain ⟨a, b, rfl, hb, k⟩ := h
    refine ⟨_, (pss_one (ps_ret (pe_callTy (call_listK (K := g.K)) (by rfl) T.list (by decide +kernel) (pa_cons (pe_fld (pv 0) rfl) pa_nil)))), ?_⟩
    obtain ⟨vs, hs, ps⟩ := hb.stood
    exact ⟨_, rfl, _, _, _, _, _, rfl, hb.ob, T.bench, T.n2, rfl, _, _, rfl, .inl (SqL.of hs), fun p hp => k p _ vs (same_new hp) hp upd_same (ps.mono fun _ _ r => r.same (same_new hp))⟩
def spDeeds (K : PySem.W.Frag) : Sp := fun vs H Q _ => ∃ (a : Ad) (b : B), vs = [.ref a.p] ∧ BenchAt K H a b ∧ Q (.int b.past) H
abbrev s_Bench_deeds : Stmt := inClass (top 46) 16
theorem sc_Bench_deeds : FnScope ["self"] ["self"] (defScope s_Bench_deeds) := ⟨rfl, rfl, rfl, by decide +kernel, rfl, by decide +kernel, by decide +kernel⟩
theorem ok_Bench_deeds (T : TxB g) (F : MDef g (He.ga g.K "Bench") "deeds" "Bench.deeds" s_Bench_deeds ["self"]) : HasM g CX0 1 (He.ga g.K "Bench") "deeds" ["self"] (spDeeds g.K) := by
  refine F.ok sc_Bench_deeds (fun vs H Q E h => ?_) (fun f cdv A outer s H vs Q E hr h => ?_)
  · obtain ⟨a, b, rfl, _⟩ := h
    rfl
  · obtain ⟨a, b, rfl, hb, k⟩ := h
    refine ⟨_, (pss_one (ps_ret (pe_callB (call_lenK (K := g.K)) (by rfl) T.len PySem.boot_len (pa_cons (pe_fld (pv 0) rfl) pa_nil)))), ?_⟩
    obtain ⟨vs, hs, ps⟩ := hb.past
    rw [← ps] at k
    exact ⟨_, rfl, _, _, _, _, _, rfl, hb.ob, T.bench, T.n6, rfl, _, _, rfl, .inl (SqL.of hs), k⟩
def spKeep (K : PySem.W.Frag) : Sp := fun vs H Q _ => ∃ (a : Ad) (b : B), vs = [.ref a.p] ∧ BenchAt K H a b ∧ b.past ≤ 1000 ∧ ∀ H', Moved K H a H' a { b with past := b.past + 1 } → Q .non H'
abbrev s_Bench_keep : Stmt := inClass (top 46) 5
theorem sc_Bench_keep : FnScope ["self"] ["self"] (defScope s_Bench_keep) := ⟨rfl, rfl, rfl, by decide +kernel, rfl, by decide +kernel, by decide +kernel⟩
theorem ok_Bench_keep (T : TxB g) (F : MDef g (He.ga g.K "Bench") "keep" "Bench.keep" s_Bench_keep ["self"]) : HasM g CX0 1 (He.ga g.K "Bench") "keep" ["self"] (spKeep g.K) := by
  refine F.ok sc_Bench_keep (fun vs H Q E h => ?_) (fun f cdv A outer s H vs Q E hr h => ?_)
  · obtain ⟨a, b, rfl, _⟩ := h
    rfl
  · obtain ⟨a, b, rfl, hb, h1000, k⟩ := h
    refine ⟨_, (pss_one (ps_expr (pe_bm PySem.F.plainAttrs_list PySem.F.slot_list_append PySem.F.type_list_append mt_append (pe_fld (pv 0) rfl) (pa_cons (pe_tup (pa_cons (pe_callTy (call_listK (K := g.K)) (by rfl) T.list (by decide +kernel) (pa_cons (pe_fld (pv 0) rfl) pa_nil)) (pa_cons (pe_callTy (call_listK (K := g.K)) (by rfl) T.list (by decide +kernel) (pa_cons (pe_fld (pv 0) rfl) pa_nil)) (pa_cons (pe_callTy (call_listK (K := g.K)) (by rfl) T.list (by decide +kernel) (pa_cons (pe_fld (pv 0) rfl) pa_nil)) (pa_cons (pe_callTy (call_listK (K := g.K)) (by rfl) T.list (by decide +kernel) (pa_cons (pe_fld (pv 0) rfl) pa_nil)) (pa_cons (pe_callTy (call_listK (K := g.K)) (by rfl) T.list (by decide +kernel) (pa_cons (pe_fld (pv 0) rfl) pa_nil)) pa_nil)))))) pa_nil)))), ?_⟩
    obtain ⟨v1, r1, _⟩ := hb.rows
    obtain ⟨v2, r2, _⟩ := hb.stood
    obtain ⟨v3, r3, _⟩ := hb.sums
    obtain ⟨v5, r5, _⟩ := hb.lims
    obtain ⟨v6, r6, e6⟩ := hb.past
    refine ⟨_, rfl, _, _, _, _, _, rfl, hb.ob, T.bench, T.n6, rfl, ?_⟩
    refine ⟨.inl ⟨rfl, _, .inl (.inl r6)⟩, ?_⟩
    refine ⟨_, rfl, _, _, _, _, _, rfl, hb.ob, T.bench, T.n1, rfl, _, _, rfl, .inl (SqL.of r1), fun p1 hp1 => ?_⟩
    have s1 := same_new (o := .lst v1) hp1
    refine ⟨_, rfl, _, _, _, _, _, rfl, s1 _ _ hb.ob, T.bench, T.n2, rfl, _, _, rfl, .inl (SqL.of (s1 _ _ r2)), fun p2 hp2 => ?_⟩
    have s2 := s1.trans (same_new (o := .lst v2) hp2)
    refine ⟨_, rfl, _, _, _, _, _, rfl, s2 _ _ hb.ob, T.bench, T.n3, rfl, _, _, rfl, .inl (SqL.of (s2 _ _ r3)), fun p3 hp3 => ?_⟩
    have s3 := s2.trans (same_new (o := .lst v3) hp3)
    refine ⟨_, rfl, _, _, _, _, _, rfl, s3 _ _ hb.ob, T.bench, T.n4, rfl, _, _, rfl, .inl (SqL.of (s3 _ _ hb.outs)), fun p4 hp4 => ?_⟩
    have s4 := s3.trans (same_new (o := .lst (b.outs.map V.bl)) hp4)
    refine ⟨_, rfl, _, _, _, _, _, rfl, s4 _ _ hb.ob, T.bench, T.n5, rfl, _, _, rfl, .inl (SqL.of (s4 _ _ r5)), fun p5 hp5 => ?_⟩
    have s5 := s4.trans (same_new (o := .lst v5) hp5)
    refine ⟨(by show 5 ≤ sizeLine; decide), fun p6 hp6 => ?_⟩
    have s6 := s5.trans (same_new (o := .tup [.ref p1, .ref p2, .ref p3, .ref p4, .ref p5]) hp6)
    refine ⟨_, _, _, rfl, rfl, s6 _ _ r6, by rw [e6]; exact small1000 (by omega), ?_⟩
    exact k _ (Moved.before s6 ((hb.same s6).keep (s6 _ _ r6)) hb)
end
end K79
end

section
set_option linter.all false
set_option maxRecDepth 100000
set_option maxHeartbeats 4000000
/-! K79G3: the machine told; the moves. -/
namespace K79
open PySem PySem.Spec PyProof.Rows L2

theorem pd_of {α : Type} {R : V → α → Prop} : ∀ {ys : List V} {xs : List α}, ys.length = xs.length → (∀ (i : Nat) (y : V), ys[i]? = some y → ∃ x, xs[i]? = some x ∧ R y x) → Paired R ys xs
  | [], [], _, _ => .nil
  | [], _ :: _, h, _ => by simp at h
  | _ :: _, [], h, _ => by simp at h
  | y :: ys, x :: xs, h, k => by
    obtain ⟨z, e, r⟩ := k 0 y rfl
    cases (show x = z by simpa using e)
    exact .cons r (pd_of (by simpa using h) fun i w hw => k (i + 1) w hw)
theorem cut2 (x y : V) (r : List V) : cutV (x :: y :: r) (some 2) none = r := by
  unfold cutV
  rw [show (2 : Int) = ((2 : Nat) : Int) from rfl, HT.sIx_nat, HT.sIx_none, Nat.min_eq_left (by simp), List.drop_succ_cons, List.drop_succ_cons, List.drop_zero, List.take_of_length_le (by simp)]
theorem cut2_in (x y : V) (r : List V) : ¬ (HT.sIx (x :: y :: r).length 0 (some 2) = 0 ∧ HT.sIx (x :: y :: r).length (x :: y :: r).length none = (x :: y :: r).length) := by
  rw [show (2 : Int) = ((2 : Nat) : Int) from rfl, HT.sIx_nat, Nat.min_eq_left (by simp)]
  intro z
  exact absurd z.1 (by decide)
/-- xs + r[2:], a new tuple of two and what stands behind the second -/
theorem cat_two {K : PySem.W.Frag} {H : Hp} {p a : Addr} {u w x y : V} {r : List V} {Q : VK} (hp : SqT K H p [u, w]) (ha : SqT K H a (x :: y :: r)) (hr : r.length ≤ 2) (k : ∀ q H', Same H H' → SqT K H' q (u :: w :: r) → Q (.ref q) H') :
    rSlA K (.ref a) (some 2) none H fun v H1 => rCatA K (.ref p) v H1 Q := by
  refine ⟨a, _, rfl, ha, fun z => absurd z (cut2_in x y r), fun _ q hq => ?_⟩
  rw [cut2]
  have s1 := same_new (o := .tup r) hq
  refine ⟨p, q, _, r, rfl, rfl, Same.tup s1 hp, .inl (.inl upd_same), (by rw [sizeLine_eq]; show 2 + r.length ≤ 16777216; omega), (fun z => nomatch z), fun _ z => ?_, fun _ _ p2 hp2 => ?_⟩
  · subst z
    exact k p _ s1 (Same.tup s1 hp)
  · exact k p2 _ (s1.trans (same_new hp2)) (.inl (.inl upd_same))
section
variable {g : G}
def spMachine (K : PySem.W.Frag) : Sp := fun vs H Q _ => ∃ (a : Ad) (b : B), vs = [.ref a.p] ∧ BenchAt K H a b ∧ WF b ∧ ∀ p H' us, Same H H' → H p = none → H' p = some (.lst us) → Paired (Rw K H') us b.told → Q (.ref p) H'
theorem Rw.cut {K : PySem.W.Frag} {H : Hp} {v : V} {r : Row} (h : Rw K H v r) : ∃ a z x l, v = .ref a ∧ SqT K H a (.str z :: x :: l) ∧ l.length ≤ 2 ∧ ∀ q H' w s, Same H H' → SqT K H' q (.str z :: w :: l) → Nm K H' w s → Rw K H' (.ref q) (r.at_ s) := by
  cases h with
  | src t hx => exact ⟨_, _, _, _, rfl, t, by simp, fun q H' w s s1 t' hw => .src t' hw⟩
  | gear t hx hy => exact ⟨_, _, _, _, rfl, t, by simp, fun q H' w s s1 t' hw => .gear t' hw (hy.same s1)⟩
  | adder t hx => exact ⟨_, _, _, _, rfl, t, by simp, fun q H' w s s1 t' hw => .adder t' hw⟩
  | disc t hx => exact ⟨_, _, _, _, rfl, t, by simp, fun q H' w s s1 t' hw => .disc t' hw⟩
abbrev s_Bench_machine : Stmt := inClass (top 46) 3
theorem sc_Bench_machine : FnScope ["self", "row", "here"] ["self"] (defScope s_Bench_machine) := ⟨rfl, rfl, rfl, by decide +kernel, rfl, by decide +kernel, by decide +kernel⟩
theorem ok_Bench_machine (T : TxB g) (F : MDef g (He.ga g.K "Bench") "machine" "Bench.machine" s_Bench_machine ["self"]) : HasM g CX0 1 (He.ga g.K "Bench") "machine" ["self"] (spMachine g.K) := by
  refine F.ok sc_Bench_machine (fun vs H Q E h => ?_) (fun f cdv A outer s H vs Q E hr h => ?_)
  · obtain ⟨a, b, rfl, _⟩ := h
    rfl
  · obtain ⟨a, b, rfl, hb, wf, k⟩ := h
    refine ⟨_, (pss_one (ps_ret (pe_lc (own := [("row", 1), ("here", 2)]) (g := gTup g.K 2 (gCons (gName 1) (gCons (gName 2) gNil))) (tt := tYes) rfl sc_Bench_machine.nd (pi_zip (by rfl) T.zip (pa_cons (pe_fld (pv 0) rfl) (pa_cons (pe_fld (pv 0) rfl) pa_nil))) (blkOk_by (own := [("row", 1), ("here", 2)]) (N := ["self", "row", "here"]) (sc := defScope s_Bench_machine) (by decide +kernel)) (fun _ _ _ _ _ => (pg_tup rfl (pgs_cons (pg_name (i := 1) sc_Bench_machine.nd rfl (Or.inl rfl)) (pgs_cons (pg_name (i := 2) sc_Bench_machine.nd rfl (Or.inl rfl)) pgs_nil)))) (fun _ _ _ _ _ => pts_nil) (fun _ _ _ _ _ => (pe_op (op_catK (K := g.K)) (pe_tup (pa_cons (pe_ix (ix_tupK (K := g.K)) (pv 1) pe_int (fun _ _ => rfl)) (pa_cons (pv 2) pa_nil))) (pe_slice (sl_tupK (K := g.K)) (pv 1) (po_some pe_int) po_none)))))), ?_⟩
    obtain ⟨v1, r1, p1⟩ := hb.rows
    obtain ⟨v2, r2, p2⟩ := hb.stood
    have l1 := p1.length
    have l2 := p2.length
    have ll := wf.ls
    have n5 := wf.n5
    refine ⟨_, rfl, _, _, _, _, _, rfl, hb.ob, T.bench, T.n1, rfl, _, rfl, _, _, _, _, _, rfl, hb.ob, T.bench, T.n2, rfl, _, _, _, _, rfl, SqL.of r1, SqL.of r2, lc_map (walk_zip (n := b.rows.length) (K := g.K) (a := a.rl) (b := a.sl) (xs := v1) (ys := v2) (by omega))
      (fun D H y i => ∃ r q, b.rows[i]? = some r ∧ b.stood[i]? = some q ∧ Rw g.K H y (r.at_ q)) (by omega) (fun D l Ha Hb y i hD hk ⟨r, q, h1, h2, h3⟩ => ⟨r, q, h1, h2, h3.but hD hk⟩) (fun H' s => ⟨SqL.of (s _ _ r1), SqL.of (s _ _ r2)⟩) ?_ ?_⟩
    · rintro D i x H2 H3 Nx hi hD s2 hl ⟨t, x1, x2, rfl, ht, rfl, hx1, hx2⟩ kk
      obtain ⟨r, hr2, rw2⟩ := Pd.getV p1 hx1
      obtain ⟨q, hq2, nm2⟩ := Pd.getV p2 hx2
      have s3 := same_new (o := .tup [x1, x2]) ht
      obtain ⟨ar, z, x0, l, rfl, tr, l4, mk⟩ := (rw2.same (s2.trans s3)).cut
      refine ⟨t, _, rfl, .inl (.inl upd_same), rfl, _, _, rfl, _, _, rfl, rfl, rfl, ?_⟩
      refine ⟨_, rfl, _, _, _, _, rfl, rfl, tr, atI_nat (j := 0) rfl, _, rfl, (by show 2 ≤ sizeLine; decide), fun p3 hp3 => ?_⟩
      have s4 := same_new (o := .tup [.str z, x2]) hp3
      refine ⟨_, rfl, _, rfl, cat_two (.inl (.inl upd_same)) (Same.tup s4 tr) l4 fun q3 H5 s5 t5 => ?_⟩
      exact kk _ _ (s3.trans (s4.trans s5)) ⟨r, q, hr2, hq2, mk q3 H5 x2 q (s4.trans s5) t5 (nm2.same (s2.trans (s3.trans (s4.trans s5))))⟩
    · intro D ys H2 hD s2 hys hyl hy
      refine k D H2 ys s2 hD hys (pd_of (hyl.trans wf.toldLen.symm) fun i y hi => ?_)
      obtain ⟨r, q, e1, e2, rw⟩ := hy i y hi
      exact ⟨_, told_at e1 e2, rw⟩
def spMovesBy (K : PySem.W.Frag) : Sp := fun vs H Q _ => ∃ (a : Ad) (b : B) (w : V) (q : Rat), vs = [.ref a.p, w] ∧ BenchAt K H a b ∧ WF b ∧ Nm K H w q ∧ Sz 20 q ∧ ∀ p H' us, Same H H' → H p = none → H' p = some (.lst us) → Paired (Nm K H') us (b.moves q) → Q (.ref p) H'
theorem zeros {K : PySem.W.Frag} {H : Hp} {ys : List V} {n : Nat} (hl : ys.length = n) (h : ∀ (i : Nat) (y : V), ys[i]? = some y → Nm K H y 0) : Paired (Nm K H) ys (List.replicate n (0 : Rat)) := by
  refine pd_of (by rw [hl, List.length_replicate]) fun i y hi => ⟨0, ?_, h i y hi⟩
  rw [List.getElem?_replicate, if_pos]
  rw [← hl]
  exact (List.getElem?_eq_some_iff.mp hi).1
theorem nought_nm (T : Txt g) {H : Hp} : Nm g.K H (.ref (He.ga g.K "NOUGHT")) 0 := ⟨_, rfl, T.noughtT H⟩
theorem nV_get {l : List Nat} {i : Nat} {x : V} (h : (nV l)[i]? = some x) : ∃ j : Nat, l[i]? = some j ∧ x = .int (j : Int) := by
  unfold nV at h
  rw [List.getElem?_map] at h
  cases e : l[i]? with
  | none => rw [e] at h; cases h
  | some j =>
    rw [e] at h
    cases h
    exact ⟨j, rfl, rfl⟩
theorem ixN_k {n j : Nat} (hj : j < n) : ixN n (j : Int) = some j := by
  unfold ixN
  rw [if_pos (by omega), if_pos (by omega), Int.toNat_natCast]
theorem pre_take {rows : List Row} {st : List Nat} (p : Pre rows st) {n : Nat} : Pre rows (st.take n) := by
  refine ⟨p.nd.sublist (List.take_sublist _ _), fun k hk => p.lt k (List.mem_of_mem_take hk), fun i k hk r hr j hj => ?_⟩
  rw [List.getElem?_take] at hk
  split at hk
  · rename_i hi
    have := p.dr i k hk r hr j hj
    rw [List.take_take, Nat.min_eq_left (Nat.le_of_lt hi)]
    exact this
  · cases hk
abbrev s_Bench_moves_by : Stmt := inClass (top 46) 6
theorem sc_Bench_moves_by : FnScope ["self", "number", "moves", "shaft", "row"] ["self", "number"] (defScope s_Bench_moves_by) := ⟨rfl, rfl, rfl, by decide +kernel, rfl, by decide +kernel, by decide +kernel⟩
theorem ok_Bench_moves_by (T : TxB g) (F : MDef g (He.ga g.K "Bench") "moves_by" "Bench.moves_by" s_Bench_moves_by ["self", "number"]) (G_order_of : Has g CX0 3 "order_of" ["machine"] (spOrder g.K)) (G_move_of : Has g CX0 4 "move_of" ["row", "stood", "moves", "number"] (spMoveOf g.K)) :
    HasM g CX0 5 (He.ga g.K "Bench") "moves_by" ["self", "number"] (spMovesBy g.K) := by
  refine F.ok sc_Bench_moves_by (fun vs H Q E h => ?_) (fun f cdv A outer s H vs Q E hr h => ?_)
  · obtain ⟨a, b, w, q, rfl, _⟩ := h
    rfl
  · obtain ⟨a, b, w, q, rfl, hb, wf, hw, zq, k⟩ := h
    refine ⟨_, (pss_cons (ps_setLc (i := 2) (own := [("row", 4)]) (g := gName 4) (tt := tYes) rfl sc_Bench_moves_by.nd rfl rfl (sw_true rfl rfl rfl (by decide +kernel)) (pi_list (pe_fld (pv 0) rfl)) (blkOk_by (own := [("row", 4)]) (N := ["self", "number", "moves", "shaft", "row"]) (sc := defScope s_Bench_moves_by) (by decide +kernel)) (fun _ _ _ _ _ => (pg_name (i := 4) sc_Bench_moves_by.nd rfl (Or.inl rfl))) (fun _ _ _ _ _ => pts_nil) (fun _ _ _ _ _ => (pe_glob rfl T.nought (v := .ref (He.ga g.K "NOUGHT")) rfl)))
      (pss_cons (ps_for PassesOwn.never rfl (pi_list (pe_has G_order_of hr (by decide) pass0 (pa_cons (pe_fld (pv 0) rfl) pa_nil))) (pg_name (i := 3) sc_Bench_moves_by.nd rfl (Or.inl rfl))
      (pss_one (ps_if (pt_not (pt_val (pe_ix (ix_listK (K := g.K)) (pe_fld (pv 0) rfl) (pv 3) (fun _ _ => rfl)))) (pss_one (ps_asg (pe_has G_move_of hr (by decide) pass0 (pa_cons (pe_ix (ix_listK (K := g.K)) (pe_fld (pv 0) rfl) (pv 3) (fun _ _ => rfl)) (pa_cons (pe_fld (pv 0) rfl) (pa_cons (pv 2) (pa_cons (pv 1) pa_nil))))) (pg_sub (pv 2) (pv 3) set_list))) pss_nil)))
      (pss_one (ps_ret (pv 2))))), ?_⟩
    obtain ⟨v1, r1, p1⟩ := hb.rows
    obtain ⟨v2, r2, p2⟩ := hb.stood
    have l1 := p1.length
    have l2 := p2.length
    have n5 := wf.n5
    have hord := ord_pre b.rows
    refine ⟨_, rfl, _, _, _, _, _, rfl, hb.ob, T.bench, T.n1, rfl, _, rfl, ⟨_, SqL.of r1⟩, lc_map (walk_list (K := g.K) (a := a.rl) (xs := v1)) (fun D H y i => Nm g.K H y 0) (by omega) (fun D l Ha Hb y i hD hk h => h.but hD hk) (fun H' s => SqL.of (s _ _ r1)) ?_ ?_⟩
    · rintro D i x H2 H3 Nx hi hD s2 hl ⟨rfl, hx⟩ kk
      exact ⟨rfl, kk _ _ (Same.refl _) (nought_nm T.toTxt)⟩
    · intro D ys H1 hD s1 hys hyl hy
      have z0 := zeros hyl hy
      refine ⟨_, rfl, _, _, _, _, _, rfl, s1 _ _ hb.ob, T.bench, T.n1, rfl, a.rl, b.rows, rfl, ⟨v1, s1 _ _ r1, p1.mono fun _ _ z => z.same s1⟩, by omega, fun p H2 s2 hp0 hp => ?_⟩
      have s02 := s1.trans s2
      refine ⟨_, rfl, ⟨_, SqL.of hp⟩, for_it (walk_list (K := g.K) (a := p) (xs := nV (ord b.rows)))
        (fun i σ H' => ∃ sh ws, σ = [some (.ref a.p), some w, some (.ref D), sh, none] ∧ Same H H' ∧ H' p = some (.lst (nV (ord b.rows))) ∧ H' D = some (.lst ws) ∧ Paired (Nm g.K H') ws (solveS b.rows (fun k r ms => if b.outs.getD k false = true then 0 else moveOf b.stood q r ms) ((ord b.rows).take i)))
        ⟨none, ys, rfl, s02, hp, s2 _ _ hys, ?_⟩ (fun i σ H' _ ⟨sh, ws, _, _, h3, _⟩ => SqL.of h3) ?_ ?_⟩
      · rw [List.take_zero, show solveS b.rows _ [] = List.replicate b.rows.length (0 : Rat) from rfl, ← l1]
        exact z0.mono fun _ _ z => z.same s2
      · rintro i x σ H3 H4 hi ⟨sh, ws, rfl, s3, h3, h4, h5⟩ ⟨rfl, hx⟩
        obtain ⟨j, hj, rfl⟩ := nV_get hx
        have hjl : j < b.rows.length := hord.lt j (List.mem_of_getElem? hj)
        obtain ⟨r, hr1⟩ := ex_at hjl
        obtain ⟨vr, hvr, rwr⟩ := Pd.get p1 hr1
        obtain ⟨o, ho⟩ := ex_at (xs := b.outs) (i := j) (by rw [wf.lo]; exact hjl)
        have hov : (b.outs.map V.bl)[j]? = some (.bl o) := by rw [List.getElem?_map, ho]; rfl
        have hod : b.outs.getD j false = o := by rw [List.getD_eq_getElem?_getD, ho]; rfl
        have pre : Pre b.rows ((ord b.rows).take i ++ [j]) := by
          rw [← take_snoc hj]
          exact pre_take hord
        have iv := solveS_snoc (f := fun k r ms => if b.outs.getD k false = true then 0 else moveOf b.stood q r ms) (st := (ord b.rows).take i) hr1
        refine ⟨_, rfl, _, _, _, _, _, rfl, s3 _ _ hb.ob, T.bench, T.n4, rfl, _, rfl, _, _, _, _, rfl, rfl, SqL.of (s3 _ _ hb.outs), atI_nat hov, _, rfl, ?_⟩
        cases o with
        | true =>
          refine iteF ⟨_, _, rfl, s3, h3, h4, ?_⟩
          rw [take_snoc hj, outs_step pre hod]
          exact h5
        | false =>
          refine iteT ?_
          have hil : i < b.rows.length := by
            have h1 := (List.getElem?_eq_some_iff.mp hj).1
            have h2 := hord.len
            omega
          have szm := moves_sz (b := 20) (outs := b.outs) (by decide) wf.zr wf.zs zq ((ord b.rows).take i)
          have sz2 : ∀ x ∈ solveS b.rows (fun k r ms => if b.outs.getD k false = true then 0 else moveOf b.stood q r ms) ((ord b.rows).take i), Sz 3320 x := fun x hx => (szm x hx).mono (by
            have key : ∀ n, n ≤ 4 → bnd 20 n ≤ 3320 := by decide
            refine key _ ?_
            rw [List.length_take]
            omega)
          have lw := h5.length
          rw [solveS_len] at lw
          refine ⟨_, rfl, _, _, _, _, _, rfl, s3 _ _ hb.ob, T.bench, T.n1, rfl, _, rfl, _, _, _, _, rfl, rfl, SqL.of (s3 _ _ r1), atI_nat hvr, _, rfl, _, _, _, _, _, rfl, s3 _ _ hb.ob, T.bench, T.n2, rfl, _, rfl, _, rfl,
            vr, w, a.sl, D, r, v2, ws, b.stood, _, q, 3320, rfl, rwr.same s3, SqL.of (s3 _ _ r2), p2.mono (fun _ _ z => z.same s3), SqL.of h4, h5, hw.same s3, ?_, ?_, wf.zr r (List.mem_of_getElem? hr1), wf.zs, sz2, by omega, fun u H5 s5 hu => ?_⟩
          · rw [solveS_len]
            exact wf.m.inn j r hr1
          · rw [solveS_len]
            exact wf.ls
          · have nD : ∀ b' o', H b' = some o' → b' ≠ D := fun b' o' e z => by
              rw [z, hD] at e
              cases e
            have npD : p ≠ D := fun z => by
              have e1 := s1.trans s2
              rw [z] at hp0
              rw [hp0] at hys
              cases hys
            refine ⟨_, rfl, _, rfl, _, _, _, _, rfl, rfl, s5 _ _ h4, ixN_k (by rw [lw]; exact hjl), _, _, rfl, fun b' o' e => ?_, ?_, upd_same, ?_⟩
            · rw [upd_ne (nD _ _ e)]
              exact s5 _ _ (s3 _ _ e)
            · rw [upd_ne npD]
              exact s5 _ _ h3
            · rw [take_snoc hj, iv, hod, if_neg Bool.false_ne_true]
              have fr : Fr [D] H5 (upd H5 D (.lst (ws.set j u))) := Fr.wr (s5 _ _ h4) nz_lst (by simp)
              exact Pd.set (h5.mono fun _ _ z => (z.same s5).fr fr) (hu.fr fr) j
      · rintro σ H3 ⟨sh, ws, rfl, s3, h3, h4, h5⟩
        refine ⟨_, rfl, k D H3 ws s3 hD h4 ?_⟩
        rw [nV_len, List.take_length] at h5
        exact h5
end
end K79
end

section
set_option linter.all false
set_option maxRecDepth 100000
set_option maxHeartbeats 4000000
/-! K79G4: a bench's stores. -/
namespace K79
open PySem PySem.Spec PyProof.Rows L2

section
variable {K : PySem.W.Frag} {H H0 : Hp} {a a0 : Ad} {b : B}
theorem Lm.but {D : Addr} {l : List V} {Ha Hb : Hp} {v : V} {q : Option Rat × Option Rat} (hD : Ha D = some (.lst l)) (k : ∀ b o, Ha b = some o → b ≠ D → Hb b = some o) (h : Lm K Ha v q) : Lm K Hb v q := by
  obtain ⟨a, x, y, e, t, h1, h2⟩ := h
  refine ⟨a, x, y, e, but_tup hD k t, ?_, ?_⟩
  · cases hq : q.1 with
    | none => rw [hq] at h1; exact h1
    | some z => rw [hq] at h1; exact Nm.but hD k h1
  · cases hq : q.2 with
    | none => rw [hq] at h2; exact h2
    | some z => rw [hq] at h2; exact Nm.but hD k h2
theorem BenchAt.wOuts (h : BenchAt K H a b) (os : List Bool) : Moved K H a (upd H a.ol (.lst (os.map V.bl))) a { b with outs := os } := by
  have s := h.wr (o' := .lst (os.map V.bl)) (x := a.ol) (by simp [Ad.fp])
  obtain ⟨v1, r1, p1⟩ := h.rows
  obtain ⟨v2, r2, p2⟩ := h.stood
  obtain ⟨v3, r3, p3⟩ := h.sums
  obtain ⟨v5, r5, p5⟩ := h.lims
  obtain ⟨v6, r6, p6⟩ := h.past
  have nd := h.nd
  simp only [Ad.fp, List.nodup_cons, List.mem_cons, List.not_mem_nil, or_false, not_or] at nd
  obtain ⟨⟨-, -, -, n1, -, -⟩, ⟨-, -, n2, -, -⟩, ⟨-, n3, -, -⟩, ⟨n4, -, -⟩, ⟨n5, n6⟩, -, -⟩ := nd
  exact ⟨s, ⟨by rw [upd_ne n1]; exact h.ob, ⟨v1, by rw [upd_ne n2]; exact r1, p1.mono fun _ _ z => z.fr s⟩, ⟨v2, by rw [upd_ne n3]; exact r2, p2.mono fun _ _ z => z.fr s⟩, ⟨v3, by rw [upd_ne n4]; exact r3, p3.mono fun _ _ z => z.fr s⟩,
    upd_same, ⟨v5, by rw [upd_ne (Ne.symm n5)]; exact r5, p5.mono fun _ _ z => z.fr s⟩, ⟨v6, by rw [upd_ne (Ne.symm n6)]; exact r6, p6⟩, h.nd⟩, rfl, fun _ m => .inl m⟩
theorem BenchAt.wRows {vs : List V} {rs : List Row} (h : BenchAt K H a b) (p : Paired (Rw K H) vs rs) : Moved K H a (upd H a.rl (.lst vs)) a { b with rows := rs } := by
  have s := h.wr (o' := .lst vs) (x := a.rl) (by simp [Ad.fp])
  obtain ⟨v2, r2, p2⟩ := h.stood
  obtain ⟨v3, r3, p3⟩ := h.sums
  obtain ⟨v5, r5, p5⟩ := h.lims
  obtain ⟨v6, r6, p6⟩ := h.past
  have nd := h.nd
  simp only [Ad.fp, List.nodup_cons, List.mem_cons, List.not_mem_nil, or_false, not_or] at nd
  obtain ⟨⟨n1, -, -, -, -, -⟩, ⟨n2, n3, n4, n5, n6⟩, -⟩ := nd
  exact ⟨s, ⟨by rw [upd_ne n1]; exact h.ob, ⟨vs, upd_same, p.mono fun _ _ z => z.fr s⟩, ⟨v2, by rw [upd_ne (Ne.symm n2)]; exact r2, p2.mono fun _ _ z => z.fr s⟩, ⟨v3, by rw [upd_ne (Ne.symm n3)]; exact r3, p3.mono fun _ _ z => z.fr s⟩,
    by rw [upd_ne (Ne.symm n4)]; exact h.outs, ⟨v5, by rw [upd_ne (Ne.symm n5)]; exact r5, p5.mono fun _ _ z => z.fr s⟩, ⟨v6, by rw [upd_ne (Ne.symm n6)]; exact r6, p6⟩, h.nd⟩, rfl, fun _ m => .inl m⟩
theorem BenchAt.wStood {vs : List V} {ss : List Rat} (h : BenchAt K H a b) (p : Paired (Nm K H) vs ss) : Moved K H a (upd H a.sl (.lst vs)) a { b with stood := ss } := by
  have s := h.wr (o' := .lst vs) (x := a.sl) (by simp [Ad.fp])
  obtain ⟨v1, r1, p1⟩ := h.rows
  obtain ⟨v3, r3, p3⟩ := h.sums
  obtain ⟨v5, r5, p5⟩ := h.lims
  obtain ⟨v6, r6, p6⟩ := h.past
  have nd := h.nd
  simp only [Ad.fp, List.nodup_cons, List.mem_cons, List.not_mem_nil, or_false, not_or] at nd
  obtain ⟨⟨-, n1, -, -, -, -⟩, ⟨n2, -, -, -, -⟩, ⟨n3, n4, n5, n6⟩, -⟩ := nd
  exact ⟨s, ⟨by rw [upd_ne n1]; exact h.ob, ⟨v1, by rw [upd_ne n2]; exact r1, p1.mono fun _ _ z => z.fr s⟩, ⟨vs, upd_same, p.mono fun _ _ z => z.fr s⟩, ⟨v3, by rw [upd_ne (Ne.symm n3)]; exact r3, p3.mono fun _ _ z => z.fr s⟩,
    by rw [upd_ne (Ne.symm n4)]; exact h.outs, ⟨v5, by rw [upd_ne (Ne.symm n5)]; exact r5, p5.mono fun _ _ z => z.fr s⟩, ⟨v6, by rw [upd_ne (Ne.symm n6)]; exact r6, p6⟩, h.nd⟩, rfl, fun _ m => .inl m⟩
theorem BenchAt.wLims {vs : List V} {ls : List (Option Rat × Option Rat)} (h : BenchAt K H a b) (p : Paired (Lm K H) vs ls) : Moved K H a (upd H a.ll (.lst vs)) a { b with lims := ls } := by
  have s := h.wr (o' := .lst vs) (x := a.ll) (by simp [Ad.fp])
  obtain ⟨v1, r1, p1⟩ := h.rows
  obtain ⟨v2, r2, p2⟩ := h.stood
  obtain ⟨v3, r3, p3⟩ := h.sums
  obtain ⟨v6, r6, p6⟩ := h.past
  have nd := h.nd
  simp only [Ad.fp, List.nodup_cons, List.mem_cons, List.not_mem_nil, or_false, not_or] at nd
  obtain ⟨⟨-, -, -, -, n1, -⟩, ⟨-, -, -, n2, -⟩, ⟨-, -, n3, -⟩, ⟨-, n4, -⟩, ⟨n5, -⟩, n6, -⟩ := nd
  exact ⟨s, ⟨by rw [upd_ne n1]; exact h.ob, ⟨v1, by rw [upd_ne n2]; exact r1, p1.mono fun _ _ z => z.fr s⟩, ⟨v2, by rw [upd_ne n3]; exact r2, p2.mono fun _ _ z => z.fr s⟩, ⟨v3, by rw [upd_ne n4]; exact r3, p3.mono fun _ _ z => z.fr s⟩,
    by rw [upd_ne n5]; exact h.outs, ⟨vs, upd_same, p.mono fun _ _ z => z.fr s⟩, ⟨v6, by rw [upd_ne (Ne.symm n6)]; exact r6, p6⟩, h.nd⟩, rfl, fun _ m => .inl m⟩
/-- a list in another's place -/
theorem Moved.nRows {q : Addr} {vs : List V} {rs : List Row} (m : Moved K H0 a0 H a b) (hq : H q = some (.lst vs)) (hn : H0 q = none) (hne : q ∉ a.fp) (p : Paired (Rw K H) vs rs) :
    Moved K H0 a0 (upd H a.p (.ins (He.ga K "Bench") a.dx (bfs { a with rl := q }))) { a with rl := q } { b with rows := rs } := by
  have h := m.bench
  have s := h.wr (o' := .ins (He.ga K "Bench") a.dx (bfs { a with rl := q })) (x := a.p) (by simp [Ad.fp])
  obtain ⟨v2, r2, p2⟩ := h.stood
  obtain ⟨v3, r3, p3⟩ := h.sums
  obtain ⟨v5, r5, p5⟩ := h.lims
  obtain ⟨v6, r6, p6⟩ := h.past
  have nd := h.nd
  simp only [Ad.fp, List.nodup_cons, List.mem_cons, List.not_mem_nil, or_false, not_or] at nd hne
  obtain ⟨⟨-, n2, n3, n4, n5, n6⟩, ⟨-, -, -, -, -⟩, h2⟩ := nd
  have fp : ∀ x ∈ ({ a with rl := q } : Ad).fp, x ∈ a.fp ∨ x = q := fun x hx => by
    simp only [Ad.fp, List.mem_cons, List.not_mem_nil, or_false] at hx ⊢
    rcases hx with h | h | h | h | h | h | h <;> simp [h]
  refine ⟨m.fr.trans s m.fp, ⟨upd_same, ⟨vs, by show upd H a.p _ q = _; rw [upd_ne hne.1]; exact hq, p.mono fun _ _ z => z.fr s⟩, ⟨v2, by rw [upd_ne (Ne.symm n2)]; exact r2, p2.mono fun _ _ z => z.fr s⟩, ⟨v3, by rw [upd_ne (Ne.symm n3)]; exact r3, p3.mono fun _ _ z => z.fr s⟩,
    by rw [upd_ne (Ne.symm n4)]; exact h.outs, ⟨v5, by rw [upd_ne (Ne.symm n5)]; exact r5, p5.mono fun _ _ z => z.fr s⟩, ⟨v6, by rw [upd_ne (Ne.symm n6)]; exact r6, p6⟩, ?_⟩, m.p, fun x hx => ?_⟩
  · simp only [Ad.fp, List.nodup_cons, List.mem_cons, List.not_mem_nil, or_false, not_or]
    exact ⟨⟨Ne.symm hne.1, n2, n3, n4, n5, n6⟩, hne.2.2, h2⟩
  · rcases fp x hx with z | z
    · exact m.fp x z
    · exact .inr (by rw [z]; exact hn)
theorem Moved.nStood {q : Addr} {vs : List V} {ss : List Rat} (m : Moved K H0 a0 H a b) (hq : H q = some (.lst vs)) (hn : H0 q = none) (hne : q ∉ a.fp) (p : Paired (Nm K H) vs ss) :
    Moved K H0 a0 (upd H a.p (.ins (He.ga K "Bench") a.dx (bfs { a with sl := q }))) { a with sl := q } { b with stood := ss } := by
  have h := m.bench
  have s := h.wr (o' := .ins (He.ga K "Bench") a.dx (bfs { a with sl := q })) (x := a.p) (by simp [Ad.fp])
  obtain ⟨v1, r1, p1⟩ := h.rows
  obtain ⟨v3, r3, p3⟩ := h.sums
  obtain ⟨v5, r5, p5⟩ := h.lims
  obtain ⟨v6, r6, p6⟩ := h.past
  have nd := h.nd
  simp only [Ad.fp, List.nodup_cons, List.mem_cons, List.not_mem_nil, or_false, not_or] at nd hne
  obtain ⟨⟨n1, n2, n3, n4, n5, n6⟩, ⟨m1, m2, m3, m4, m5⟩, ⟨k1, k2, k3, k4⟩, h2⟩ := nd
  have fp : ∀ x ∈ ({ a with sl := q } : Ad).fp, x ∈ a.fp ∨ x = q := fun x hx => by
    simp only [Ad.fp, List.mem_cons, List.not_mem_nil, or_false] at hx ⊢
    rcases hx with h | h | h | h | h | h | h <;> simp [h]
  refine ⟨m.fr.trans s m.fp, ⟨upd_same, ⟨v1, by rw [upd_ne (Ne.symm n1)]; exact r1, p1.mono fun _ _ z => z.fr s⟩, ⟨vs, by show upd H a.p _ q = _; rw [upd_ne hne.1]; exact hq, p.mono fun _ _ z => z.fr s⟩, ⟨v3, by rw [upd_ne (Ne.symm n3)]; exact r3, p3.mono fun _ _ z => z.fr s⟩,
    by rw [upd_ne (Ne.symm n4)]; exact h.outs, ⟨v5, by rw [upd_ne (Ne.symm n5)]; exact r5, p5.mono fun _ _ z => z.fr s⟩, ⟨v6, by rw [upd_ne (Ne.symm n6)]; exact r6, p6⟩, ?_⟩, m.p, fun x hx => ?_⟩
  · simp only [Ad.fp, List.nodup_cons, List.mem_cons, List.not_mem_nil, or_false, not_or]
    exact ⟨⟨n1, Ne.symm hne.1, n3, n4, n5, n6⟩, ⟨Ne.symm hne.2.1, m2, m3, m4, m5⟩, hne.2.2.2, h2⟩
  · rcases fp x hx with z | z
    · exact m.fp x z
    · exact .inr (by rw [z]; exact hn)
theorem Moved.nSums {q : Addr} {vs : List V} {ss : List Rat} (m : Moved K H0 a0 H a b) (hq : H q = some (.lst vs)) (hn : H0 q = none) (hne : q ∉ a.fp) (p : Paired (Nm K H) vs ss) :
    Moved K H0 a0 (upd H a.p (.ins (He.ga K "Bench") a.dx (bfs { a with ul := q }))) { a with ul := q } { b with sums := ss } := by
  have h := m.bench
  have s := h.wr (o' := .ins (He.ga K "Bench") a.dx (bfs { a with ul := q })) (x := a.p) (by simp [Ad.fp])
  obtain ⟨v1, r1, p1⟩ := h.rows
  obtain ⟨v2, r2, p2⟩ := h.stood
  obtain ⟨v5, r5, p5⟩ := h.lims
  obtain ⟨v6, r6, p6⟩ := h.past
  have nd := h.nd
  simp only [Ad.fp, List.nodup_cons, List.mem_cons, List.not_mem_nil, or_false, not_or] at nd hne
  obtain ⟨⟨n1, n2, n3, n4, n5, n6⟩, ⟨m1, m2, m3, m4, m5⟩, ⟨k1, k2, k3, k4⟩, ⟨j1, j2, j3⟩, h2⟩ := nd
  have fp : ∀ x ∈ ({ a with ul := q } : Ad).fp, x ∈ a.fp ∨ x = q := fun x hx => by
    simp only [Ad.fp, List.mem_cons, List.not_mem_nil, or_false] at hx ⊢
    rcases hx with h | h | h | h | h | h | h <;> simp [h]
  refine ⟨m.fr.trans s m.fp, ⟨upd_same, ⟨v1, by rw [upd_ne (Ne.symm n1)]; exact r1, p1.mono fun _ _ z => z.fr s⟩, ⟨v2, by rw [upd_ne (Ne.symm n2)]; exact r2, p2.mono fun _ _ z => z.fr s⟩, ⟨vs, by show upd H a.p _ q = _; rw [upd_ne hne.1]; exact hq, p.mono fun _ _ z => z.fr s⟩,
    by rw [upd_ne (Ne.symm n4)]; exact h.outs, ⟨v5, by rw [upd_ne (Ne.symm n5)]; exact r5, p5.mono fun _ _ z => z.fr s⟩, ⟨v6, by rw [upd_ne (Ne.symm n6)]; exact r6, p6⟩, ?_⟩, m.p, fun x hx => ?_⟩
  · simp only [Ad.fp, List.nodup_cons, List.mem_cons, List.not_mem_nil, or_false, not_or]
    exact ⟨⟨n1, n2, Ne.symm hne.1, n4, n5, n6⟩, ⟨m1, Ne.symm hne.2.1, m3, m4, m5⟩, ⟨Ne.symm hne.2.2.1, k2, k3, k4⟩, hne.2.2.2.2, h2⟩
  · rcases fp x hx with z | z
    · exact m.fp x z
    · exact .inr (by rw [z]; exact hn)
/-- an instance in the making: its lists so far -/
structure Bld (C dx x : Addr) (H Hk : Hp) (fs : List (Str × V)) (ps : List Addr) : Prop where
  fr : Fr [x] H Hk
  ob : Hk x = some (.ins C dx fs)
  nw : ∀ q ∈ ps, Hk q ≠ none ∧ H q = none
  nd : ps.Nodup
  nx : x ∉ ps
theorem Bld.step {C dx x p : Addr} {H Hk Hk' : Hp} {fs fs' : List (Str × V)} {ps : List Addr} (h : Bld C dx x H Hk fs ps) (s : Same Hk Hk') (hp : Hk p = none) (hp' : Hk' p ≠ none) :
    Bld C dx x H (upd Hk' x (.ins C dx fs')) fs' (p :: ps) ∧ Fr [x] Hk (upd Hk' x (.ins C dx fs')) ∧ ∀ o, Hk' p = some o → upd Hk' x (.ins C dx fs') p = some o := by
  have s2 : Fr [x] Hk' (upd Hk' x (.ins C dx fs')) := Fr.wr (s _ _ h.ob) nz_ins (by simp)
  have s1 : Fr [x] Hk (upd Hk' x (.ins C dx fs')) := (Fr.of s).trans s2 fun _ m => .inl m
  have hx : p ≠ x := fun z => by
    rw [z, h.ob] at hp
    cases hp
  refine ⟨⟨h.fr.trans s1 fun _ m => .inl m, upd_same, fun q hq => ?_, ?_, ?_⟩, s1, fun o ho => by rw [upd_ne hx]; exact ho⟩
  · rcases List.mem_cons.mp hq with rfl | hq
    · refine ⟨by rw [upd_ne hx]; exact hp', ?_⟩
      cases e : H q with
      | none => rfl
      | some o =>
        have := h.fr.get e (by simpa using hx)
        rw [hp] at this
        cases this
    · obtain ⟨z1, z2⟩ := h.nw q hq
      have hqx : q ≠ x := fun z => h.nx (z ▸ hq)
      refine ⟨?_, z2⟩
      rw [upd_ne hqx]
      cases e : Hk q with
      | none => exact absurd e z1
      | some o => rw [s _ _ e]; simp
  · refine List.nodup_cons.mpr ⟨fun hq => (h.nw p hq).1 hp, h.nd⟩
  · intro z
    rcases List.mem_cons.mp z with z | z
    · exact hx z.symm
    · exact h.nx z
end
end K79
end

section
set_option linter.all false
set_option maxRecDepth 100000
set_option maxHeartbeats 4000000
/-! K79G5: a new bench; deeds. -/
namespace K79
open PySem PySem.Spec PyProof.Rows L2

section
variable {g : G}
def spInit (K : PySem.W.Frag) : Sp := fun vs H Q _ => ∃ (x dx m : Addr) (us : List V) (rows : List Row), vs = [.ref x, .ref m] ∧ H x = some (.ins (He.ga K "Bench") dx []) ∧ H m = some (.lst us) ∧ Paired (Rw K H) us rows ∧ rows.length ≤ 120 ∧
  ∀ a H', a.p = x → a.dx = dx → Fr [x] H H' → BenchAt K H' a (fresh rows) → (∀ y ∈ a.fp, y = x ∨ H y = none) → Q .non H'
abbrev s_Bench___init__ : Stmt := inClass (top 46) 0
theorem sc_Bench___init__ : FnScope ["self", "machine", "row"] ["self", "machine"] (defScope s_Bench___init__) := ⟨rfl, rfl, rfl, by decide +kernel, rfl, by decide +kernel, by decide +kernel⟩
theorem Rw.start1 {K : PySem.W.Frag} {H : Hp} {v : V} {r : Row} (h : Rw K H v r) : ∃ a z x l, v = .ref a ∧ SqT K H a (z :: x :: l) ∧ Nm K H x r.start := by
  cases h with
  | src t hx => exact ⟨_, _, _, _, rfl, t, hx⟩
  | gear t hx hy => exact ⟨_, _, _, _, rfl, t, hx⟩
  | adder t hx => exact ⟨_, _, _, _, rfl, t, hx⟩
  | disc t hx => exact ⟨_, _, _, _, rfl, t, hx⟩
theorem pd_map {α β : Type} {R : V → β → Prop} {f : α → β} {ys : List V} {xs : List α} (hl : ys.length = xs.length) (h : ∀ (i : Nat) (y : V), ys[i]? = some y → ∃ x, xs[i]? = some x ∧ R y (f x)) : Paired R ys (xs.map f) := by
  refine pd_of (by rw [hl, List.length_map]) fun i y hi => ?_
  obtain ⟨x, e, r⟩ := h i y hi
  exact ⟨f x, by rw [List.getElem?_map, e]; rfl, r⟩
theorem ok_Bench_init (T : TxB g) (F : CDef g "Bench" "Bench.__init__" s_Bench___init__ ["self", "machine"]) : HasC g CX0 1 "Bench" ["self", "machine"] (spInit g.K) := by
  refine F.ok sc_Bench___init__ (fun vs H Q E h => ?_) (fun f cdv A outer s H vs Q E hr h => ?_)
  · obtain ⟨x, dx, m, us, rows, rfl, _⟩ := h
    rfl
  · obtain ⟨x, dx, m, us, rows, rfl, hx, hm, pm, h120, k⟩ := h
    refine ⟨_, (pss_cons (ps_fld (pv 0) (pe_callTy (call_listK (K := g.K)) (by rfl) T.list (by decide +kernel) (pa_cons (pv 1) pa_nil)) rfl)
      (pss_cons (ps_fld (pv 0) (pe_lc (own := [("row", 2)]) (g := gName 2) (tt := tYes) rfl sc_Bench___init__.nd (pi_list (pv 1)) (blkOk_by (own := [("row", 2)]) (N := ["self", "machine", "row"]) (sc := defScope s_Bench___init__) (by decide +kernel)) (fun _ _ _ _ _ => (pg_name (i := 2) sc_Bench___init__.nd rfl (Or.inl rfl))) (fun _ _ _ _ _ => pts_nil) (fun _ _ _ _ _ => (pe_ix (ix_tupK (K := g.K)) (pv 2) pe_int (fun _ _ => rfl)))) rfl)
      (pss_cons (ps_fld (pv 0) (pe_lc (own := [("row", 2)]) (g := gName 2) (tt := tYes) rfl sc_Bench___init__.nd (pi_list (pv 1)) (blkOk_by (own := [("row", 2)]) (N := ["self", "machine", "row"]) (sc := defScope s_Bench___init__) (by decide +kernel)) (fun _ _ _ _ _ => (pg_name (i := 2) sc_Bench___init__.nd rfl (Or.inl rfl))) (fun _ _ _ _ _ => pts_nil) (fun _ _ _ _ _ => (pe_glob rfl T.nought (v := .ref (He.ga g.K "NOUGHT")) rfl))) rfl)
      (pss_cons (ps_fld (pv 0) (pe_lc (own := [("row", 2)]) (g := gName 2) (tt := tYes) rfl sc_Bench___init__.nd (pi_list (pv 1)) (blkOk_by (own := [("row", 2)]) (N := ["self", "machine", "row"]) (sc := defScope s_Bench___init__) (by decide +kernel)) (fun _ _ _ _ _ => (pg_name (i := 2) sc_Bench___init__.nd rfl (Or.inl rfl))) (fun _ _ _ _ _ => pts_nil) (fun _ _ _ _ _ => pe_bl)) rfl)
      (pss_cons (ps_fld (pv 0) (pe_lc (own := [("row", 2)]) (g := gName 2) (tt := tYes) rfl sc_Bench___init__.nd (pi_list (pv 1)) (blkOk_by (own := [("row", 2)]) (N := ["self", "machine", "row"]) (sc := defScope s_Bench___init__) (by decide +kernel)) (fun _ _ _ _ _ => (pg_name (i := 2) sc_Bench___init__.nd rfl (Or.inl rfl))) (fun _ _ _ _ _ => pts_nil) (fun _ _ _ _ _ => (pe_tup (pa_cons pe_non (pa_cons pe_non pa_nil))))) rfl)
      (pss_one (ps_fld (pv 0) (pe_lst pa_nil) rfl))))))), ?_⟩
    have lm := pm.length
    have mx : m ∉ [x] := fun z => by
      rw [List.mem_singleton.mp z, hx] at hm
      cases hm
    have b0 : Bld (He.ga g.K "Bench") dx x H H [] [] := ⟨Fr.refl, hx, (fun _ z => nomatch z), List.nodup_nil, (fun z => nomatch z)⟩
    -- rows
    refine ⟨_, rfl, _, _, rfl, .inl (SqL.of hm), fun p1 hp1 => ?_⟩
    have s1 := same_new (o := .lst us) hp1
    obtain ⟨b1, f1, e1⟩ := b0.step (fs' := putF "rows" (.ref p1) []) s1 hp1 (by rw [upd_same]; simp)
    refine ⟨_, rfl, _, _, _, _, rfl, s1 _ _ hx, T.bench, T.n1, (by show 0 < 1000; decide), ?_⟩
    have g1 := e1 _ upd_same
    clear e1
    generalize upd (upd H p1 (.lst us)) x (.ins (He.ga g.K "Bench") dx (putF "rows" (.ref p1) [])) = H1 at b1 f1 g1 ⊢
    replace b1 : Bld (He.ga g.K "Bench") dx x H H1 [("rows", .ref p1)] [p1] := b1
    have pm1 := pm.mono fun _ _ z => Rw.fr f1 z
    have hm1 := f1.get hm mx
    -- stood
    refine ⟨_, rfl, _, rfl, ⟨_, SqL.of hm1⟩, lc_map (walk_list (K := g.K) (a := m) (xs := us)) (fun D H y i => ∃ r, rows[i]? = some r ∧ Nm g.K H y r.start) (by omega) (fun D l Ha Hb y i hD hk ⟨r, e, h⟩ => ⟨r, e, h.but hD hk⟩) (fun H' s => SqL.of (s _ _ hm1)) ?_ ?_⟩
    · rintro D i w H2 H3 Nx hi hD s2 hl ⟨rfl, hw⟩ kk
      obtain ⟨r, hr2, rw2⟩ := Pd.getV pm1 hw
      obtain ⟨ar, z, x0, l, rfl, tr, nm⟩ := rw2.start1
      exact ⟨rfl, _, rfl, _, _, _, _, rfl, rfl, Same.tup s2 tr, atI_nat (j := 1) rfl, kk _ _ (Same.refl _) ⟨r, hr2, nm.same s2⟩⟩
    intro p2 y2 H' hp2 s2 q2 l2 v2
    obtain ⟨b2, f2, e2⟩ := b1.step (fs' := putF "stood" (.ref p2) [("rows", .ref p1)]) s2 hp2 (by rw [q2]; simp)
    refine ⟨_, rfl, _, _, _, _, rfl, s2 _ _ b1.ob, T.bench, T.n2, (by show 1 < 1000; decide), ?_⟩
    have g2 := e2 _ q2
    have F2 : Fr [x] H' (upd H' x (.ins (He.ga g.K "Bench") dx (putF "stood" (.ref p2) [("rows", .ref p1)]))) := Fr.wr (s2 _ _ b1.ob) nz_ins (by simp)
    clear e2
    generalize upd H' x (.ins (He.ga g.K "Bench") dx (putF "stood" (.ref p2) [("rows", .ref p1)])) = H2 at b2 f2 g2 F2 ⊢
    replace b2 : Bld (He.ga g.K "Bench") dx x H H2 [("rows", .ref p1), ("stood", .ref p2)] [p2, p1] := b2
    have pm2 := pm1.mono fun _ _ z => Rw.fr f2 z
    have hm2 := f2.get hm1 mx
    replace g1 := f2.get g1 (fun z => b1.nx (by rw [← List.mem_singleton.mp z]; simp))
    have P2 : Paired (Nm g.K H2) y2 (rows.map Row.start) := pd_map (l2.trans lm) fun i y hi => let ⟨r, e, h⟩ := v2 i y hi; ⟨r, e, h.fr F2⟩
    -- sums
    refine ⟨_, rfl, _, rfl, ⟨_, SqL.of hm2⟩, lc_map (walk_list (K := g.K) (a := m) (xs := us)) (fun D H y i => Nm g.K H y 0) (by omega) (fun D l Ha Hb y i hD hk h => h.but hD hk) (fun H' s => SqL.of (s _ _ hm2)) ?_ ?_⟩
    · rintro D i w H2 H3 Nx hi hD s2 hl ⟨rfl, hw⟩ kk
      exact ⟨rfl, kk _ _ (Same.refl _) (nought_nm T.toTxt)⟩
    intro p3 y3 H' hp3 s3 q3 l3 v3
    obtain ⟨b3, f3, e3⟩ := b2.step (fs' := putF "sums" (.ref p3) [("rows", .ref p1), ("stood", .ref p2)]) s3 hp3 (by rw [q3]; simp)
    refine ⟨_, rfl, _, _, _, _, rfl, s3 _ _ b2.ob, T.bench, T.n3, (by show 2 < 1000; decide), ?_⟩
    have g3 := e3 _ q3
    have F3 : Fr [x] H' (upd H' x (.ins (He.ga g.K "Bench") dx (putF "sums" (.ref p3) [("rows", .ref p1), ("stood", .ref p2)]))) := Fr.wr (s3 _ _ b2.ob) nz_ins (by simp)
    clear e3
    generalize upd H' x (.ins (He.ga g.K "Bench") dx (putF "sums" (.ref p3) [("rows", .ref p1), ("stood", .ref p2)])) = H3 at b3 f3 g3 F3 ⊢
    replace b3 : Bld (He.ga g.K "Bench") dx x H H3 [("rows", .ref p1), ("stood", .ref p2), ("sums", .ref p3)] [p3, p2, p1] := b3
    have pm3 := pm2.mono fun _ _ z => Rw.fr f3 z
    have hm3 := f3.get hm2 mx
    replace g1 := f3.get g1 (fun z => b2.nx (by rw [← List.mem_singleton.mp z]; simp))
    replace g2 := f3.get g2 (fun z => b2.nx (by rw [← List.mem_singleton.mp z]; simp))
    replace P2 := P2.mono fun _ _ z => Nm.fr f3 z
    have P3 : Paired (Nm g.K H3) y3 (rows.map fun _ => (0 : Rat)) := pd_map (l3.trans lm) fun i y hi => by
      obtain ⟨r, e⟩ := ex_at (xs := rows) (i := i) (by have := (List.getElem?_eq_some_iff.mp hi).1; omega)
      exact ⟨r, e, (v3 i y hi).fr F3⟩
    -- outs
    refine ⟨_, rfl, _, rfl, ⟨_, SqL.of hm3⟩, lc_map (walk_list (K := g.K) (a := m) (xs := us)) (fun D H y i => y = .bl false) (by omega) (fun D l Ha Hb y i hD hk h => h) (fun H' s => SqL.of (s _ _ hm3)) ?_ ?_⟩
    · rintro D i w H2 H3 Nx hi hD s2 hl ⟨rfl, hw⟩ kk
      exact ⟨rfl, kk _ _ (Same.refl _) rfl⟩
    intro p4 y4 H' hp4 s4 q4 l4 v4
    obtain ⟨b4, f4, e4⟩ := b3.step (fs' := putF "outs" (.ref p4) [("rows", .ref p1), ("stood", .ref p2), ("sums", .ref p3)]) s4 hp4 (by rw [q4]; simp)
    refine ⟨_, rfl, _, _, _, _, rfl, s4 _ _ b3.ob, T.bench, T.n4, (by show 3 < 1000; decide), ?_⟩
    have g4 := e4 _ q4
    have F4 : Fr [x] H' (upd H' x (.ins (He.ga g.K "Bench") dx (putF "outs" (.ref p4) [("rows", .ref p1), ("stood", .ref p2), ("sums", .ref p3)]))) := Fr.wr (s4 _ _ b3.ob) nz_ins (by simp)
    clear e4
    generalize upd H' x (.ins (He.ga g.K "Bench") dx (putF "outs" (.ref p4) [("rows", .ref p1), ("stood", .ref p2), ("sums", .ref p3)])) = H4 at b4 f4 g4 F4 ⊢
    replace b4 : Bld (He.ga g.K "Bench") dx x H H4 [("rows", .ref p1), ("stood", .ref p2), ("sums", .ref p3), ("outs", .ref p4)] [p4, p3, p2, p1] := b4
    have pm4 := pm3.mono fun _ _ z => Rw.fr f4 z
    have hm4 := f4.get hm3 mx
    replace g1 := f4.get g1 (fun z => b3.nx (by rw [← List.mem_singleton.mp z]; simp))
    replace g2 := f4.get g2 (fun z => b3.nx (by rw [← List.mem_singleton.mp z]; simp))
    replace g3 := f4.get g3 (fun z => b3.nx (by rw [← List.mem_singleton.mp z]; simp))
    replace P2 := P2.mono fun _ _ z => Nm.fr f4 z
    replace P3 := P3.mono fun _ _ z => Nm.fr f4 z
    have P4 : y4 = (rows.map fun _ => false).map V.bl := by
      refine List.ext_getElem? fun i => ?_
      rw [List.map_map, List.getElem?_map]
      by_cases hi : i < y4.length
      · obtain ⟨y, hy⟩ := ex_at hi
        obtain ⟨r, e⟩ := ex_at (xs := rows) (i := i) (by omega)
        rw [hy, e, v4 i y hy]
        rfl
      · rw [List.getElem?_eq_none (by omega), List.getElem?_eq_none (by omega)]
        rfl
    subst P4
    -- limits
    refine ⟨_, rfl, _, rfl, ⟨_, SqL.of hm4⟩, lc_map (walk_list (K := g.K) (a := m) (xs := us)) (fun D H y i => Lm g.K H y (none, none)) (by omega) (fun D l Ha Hb y i hD hk h => h.but hD hk) (fun H' s => SqL.of (s _ _ hm4)) ?_ ?_⟩
    · rintro D i w H2 H3 Nx hi hD s2 hl ⟨rfl, hw⟩ kk
      exact ⟨rfl, (by show 2 ≤ sizeLine; decide), fun t ht => kk _ _ (same_new ht) ⟨t, _, _, rfl, .inl (.inl upd_same), rfl, rfl⟩⟩
    intro p5 y5 H' hp5 s5 q5 l5 v5
    obtain ⟨b5, f5, e5⟩ := b4.step (fs' := putF "limits" (.ref p5) [("rows", .ref p1), ("stood", .ref p2), ("sums", .ref p3), ("outs", .ref p4)]) s5 hp5 (by rw [q5]; simp)
    refine ⟨_, rfl, _, _, _, _, rfl, s5 _ _ b4.ob, T.bench, T.n5, (by show 4 < 1000; decide), ?_⟩
    have g5 := e5 _ q5
    have F5 : Fr [x] H' (upd H' x (.ins (He.ga g.K "Bench") dx (putF "limits" (.ref p5) [("rows", .ref p1), ("stood", .ref p2), ("sums", .ref p3), ("outs", .ref p4)]))) := Fr.wr (s5 _ _ b4.ob) nz_ins (by simp)
    clear e5
    generalize upd H' x (.ins (He.ga g.K "Bench") dx (putF "limits" (.ref p5) [("rows", .ref p1), ("stood", .ref p2), ("sums", .ref p3), ("outs", .ref p4)])) = H5 at b5 f5 g5 F5 ⊢
    replace b5 : Bld (He.ga g.K "Bench") dx x H H5 [("rows", .ref p1), ("stood", .ref p2), ("sums", .ref p3), ("outs", .ref p4), ("limits", .ref p5)] [p5, p4, p3, p2, p1] := b5
    have pm5 := pm4.mono fun _ _ z => Rw.fr f5 z
    have hm5 := f5.get hm4 mx
    replace g1 := f5.get g1 (fun z => b4.nx (by rw [← List.mem_singleton.mp z]; simp))
    replace g2 := f5.get g2 (fun z => b4.nx (by rw [← List.mem_singleton.mp z]; simp))
    replace g3 := f5.get g3 (fun z => b4.nx (by rw [← List.mem_singleton.mp z]; simp))
    replace g4 := f5.get g4 (fun z => b4.nx (by rw [← List.mem_singleton.mp z]; simp))
    replace P2 := P2.mono fun _ _ z => Nm.fr f5 z
    replace P3 := P3.mono fun _ _ z => Nm.fr f5 z
    have P5 : Paired (Lm g.K H5) y5 (rows.map fun _ => ((none, none) : Option Rat × Option Rat)) := pd_map (l5.trans lm) fun i y hi => by
      obtain ⟨r, e⟩ := ex_at (xs := rows) (i := i) (by have := (List.getElem?_eq_some_iff.mp hi).1; omega)
      exact ⟨r, e, (v5 i y hi).fr F5⟩
    -- past
    refine ⟨(by show 0 ≤ sizeLine; decide), fun p6 hp6 => ?_⟩
    have s6 := same_new (o := .lst []) hp6
    obtain ⟨b6, f6, e6⟩ := b5.step (fs' := putF "past" (.ref p6) [("rows", .ref p1), ("stood", .ref p2), ("sums", .ref p3), ("outs", .ref p4), ("limits", .ref p5)]) s6 hp6 (by rw [upd_same]; simp)
    refine ⟨_, rfl, _, _, _, _, rfl, s6 _ _ b5.ob, T.bench, T.n6, (by show 5 < 1000; decide), ?_⟩
    have g6 := e6 _ upd_same
    clear e6
    generalize upd (upd H5 p6 (.lst [])) x (.ins (He.ga g.K "Bench") dx (putF "past" (.ref p6) [("rows", .ref p1), ("stood", .ref p2), ("sums", .ref p3), ("outs", .ref p4), ("limits", .ref p5)])) = H6 at b6 f6 g6 ⊢
    replace b6 : Bld (He.ga g.K "Bench") dx x H H6 [("rows", .ref p1), ("stood", .ref p2), ("sums", .ref p3), ("outs", .ref p4), ("limits", .ref p5), ("past", .ref p6)] [p6, p5, p4, p3, p2, p1] := b6
    replace P2 := P2.mono fun _ _ z => Nm.fr f6 z
    replace P3 := P3.mono fun _ _ z => Nm.fr f6 z
    replace P5 := P5.mono fun _ _ z => Lm.fr f6 z
    have pm6 := pm5.mono fun _ _ z => Rw.fr f6 z
    replace g1 := f6.get g1 (fun z => b5.nx (by rw [← List.mem_singleton.mp z]; simp))
    replace g2 := f6.get g2 (fun z => b5.nx (by rw [← List.mem_singleton.mp z]; simp))
    replace g3 := f6.get g3 (fun z => b5.nx (by rw [← List.mem_singleton.mp z]; simp))
    replace g4 := f6.get g4 (fun z => b5.nx (by rw [← List.mem_singleton.mp z]; simp))
    replace g5 := f6.get g5 (fun z => b5.nx (by rw [← List.mem_singleton.mp z]; simp))
    refine k ⟨x, dx, p1, p2, p3, p4, p5, p6⟩ H6 rfl rfl b6.fr ⟨b6.ob, ⟨_, g1, pm6⟩, ⟨_, g2, P2⟩, ⟨_, g3, P3⟩, g4, ⟨_, g5, P5⟩, ⟨_, g6, rfl⟩, ?_⟩ fun y hy => ?_
    · have nd := List.nodup_cons.mpr ⟨b6.nx, b6.nd⟩
      have e : (⟨x, dx, p1, p2, p3, p4, p5, p6⟩ : Ad).fp.Perm (x :: [p6, p5, p4, p3, p2, p1]) := List.Perm.cons x (List.reverse_perm [p6, p5, p4, p3, p2, p1])
      exact e.nodup_iff.mpr nd
    · rcases List.mem_cons.mp hy with z | z
      · exact .inl z
      · refine .inr (b6.nw y ?_).2
        have e : y ∈ [p1, p2, p3, p4, p5, p6] := z
        rw [← List.mem_reverse] at e
        exact e
end
end K79
end

section
set_option linter.all false
set_option maxRecDepth 100000
set_option maxHeartbeats 4000000
/-! K79G6: deeds but the click. -/
namespace K79
open PySem PySem.Spec PyProof.Rows L2

section
variable {g : G}
abbrev BC (g : G) : Addr := He.ga g.K "Bench"
/-- the own errors that a bench raises -/
structure TxE (g : G) : Prop where
  held : ExN g "Held"
  noMachine : ExN g "NoMachine"
  tooFar : ExN g "TooFar"
  noGear : ExN g "NoGear"
  noDeed : ExN g "NoDeed"
  ring : ExI g "Ring" "ring"
  stopped : ExI g "Stopped" "shaft"
def spWant (K : PySem.W.Frag) : Sp := fun vs H Q E => ∃ (a : Ad) (b : B) (i : Nat) (o : Bool), vs = [.ref a.p, .int i, .bl o] ∧ BenchAt K H a b ∧ i < b.outs.length ∧ (b.outs.getD i false = o → Q .non H) ∧ (b.outs.getD i false ≠ o → ∀ H', Same H H' → E (.ref (He.ga K "Held")) none H')
abbrev s_Bench_want_out : Stmt := inClass (top 46) 8
theorem sc_Bench_want_out : FnScope ["self", "shaft", "is_out"] ["self", "shaft", "is_out"] (defScope s_Bench_want_out) := ⟨rfl, rfl, rfl, by decide +kernel, rfl, by decide +kernel, by decide +kernel⟩
theorem outs_at {b : B} {i : Nat} (h : i < b.outs.length) : (b.outs.map V.bl)[i]? = some (.bl (b.outs.getD i false)) := by
  obtain ⟨o, ho⟩ := ex_at h
  rw [List.getElem?_map, ho, List.getD_eq_getElem?_getD, ho]
  rfl
theorem ok_Bench_want_out (T : TxB g) (F : MDef g (BC g) "want_out" "Bench.want_out" s_Bench_want_out ["self", "shaft", "is_out"]) (X_Held : ExN g "Held") : HasM g (CXN g) 1 (BC g) "want_out" ["self", "shaft", "is_out"] (spWant g.K) := by
  refine F.okX sc_Bench_want_out (fun vs H Q E h => ?_) (fun f cdv A outer s H vs Q E hr h => ?_)
  · obtain ⟨a, b, i, o, rfl, _⟩ := h
    rfl
  · obtain ⟨a, b, i, o, rfl, hb, hi, k1, k2⟩ := h
    refine ⟨_, (pss_one (ps_if (pt_cmpR op_ne (pe_ix (ix_listK (K := g.K)) (pe_fld (pv 0) rfl) (pv 1) (fun _ _ => rfl)) (pv 2) (nomark _)) (pss_one (L2N.ps_raise rfl (L2N.takes_of rfl rfl rfl rfl) (L2N.pmk_own PySem.F.excBase_ValueError X_Held.q X_Held.gl X_Held.kC (raises_own X_Held.sub X_Held.ty) rfl))) pss_nil)), ?_⟩
    refine ⟨_, rfl, _, _, _, _, _, rfl, hb.ob, T.bench, T.n4, rfl, _, rfl, _, _, _, _, rfl, rfl, SqL.of hb.outs, atI_nat (outs_at hi), _, rfl, rfl, _, rfl, ?_⟩
    by_cases e : b.outs.getD i false = o
    · rw [decide_eq_true (by rw [e] : V.bl (b.outs.getD i false) = .bl o)]
      exact iteF (k1 e)
    · rw [decide_eq_false (fun z => e (by cases z; rfl) : ¬ V.bl (b.outs.getD i false) = .bl o)]
      exact iteT (k2 e H (Same.refl _))
def spOut (K : PySem.W.Frag) (f : B → Nat → Res) : Sp := fun vs H Q E => ∃ (a : Ad) (b : B) (i : Nat), vs = [.ref a.p, .int i] ∧ BenchAt K H a b ∧ i < b.outs.length ∧ b.past ≤ 1000 ∧ Outcome K H a (f b i) Q E
abbrev s_Bench_out : Stmt := inClass (top 46) 9
theorem sc_Bench_out : FnScope ["self", "shaft"] ["self", "shaft"] (defScope s_Bench_out) := ⟨rfl, rfl, rfl, by decide +kernel, rfl, by decide +kernel, by decide +kernel⟩
theorem ok_Bench_out (T : TxB g) (F : MDef g (BC g) "out" "Bench.out" s_Bench_out ["self", "shaft"]) (G_Bench_want_out : HasM g (CXN g) 1 (BC g) "want_out" ["self", "shaft", "is_out"] (spWant g.K)) (G_Bench_keep : HasM g CX0 1 (BC g) "keep" ["self"] (spKeep g.K)) :
    HasM g (CXN g) 2 (BC g) "out" ["self", "shaft"] (spOut g.K B.out) := by
  refine F.okX sc_Bench_out (fun vs H Q E h => ?_) (fun f cdv A outer s H vs Q E hr h => ?_)
  · obtain ⟨a, b, i, rfl, _⟩ := h
    rfl
  · obtain ⟨a, b, i, rfl, hb, hi, hp, k⟩ := h
    refine ⟨_, (pss_cons (ps_expr (pe_hasM G_Bench_want_out (pv 0) T.bench hr (by decide) (L2N.passes_call (E := E) (L2N.takes_of rfl rfl rfl rfl) (fun _ _ _ _ h => h)) (pa_cons (pv 1) (pa_cons pe_bl pa_nil))))
      (pss_cons (ps_expr (pe_hasM0 G_Bench_keep (pv 0) T.bench hr (by decide) pass0))
      (pss_one (ps_asg pe_bl (pg_sub (pe_fld (pv 0) rfl) (pv 1) set_list))))), ?_⟩
    unfold B.out at k
    refine ⟨_, rfl, _, _, _, rfl, hb.ob, rfl, _, rfl, a, b, i, false, rfl, hb, hi, fun e => ?_, fun e H1 s1 => ?_⟩
    · rw [if_pos e] at k
      refine ⟨_, rfl, _, _, _, rfl, hb.ob, rfl, a, b, rfl, hb, hp, fun H1 m1 => ?_⟩
      have h1 := m1.bench
      refine ⟨_, rfl, _, _, _, _, _, rfl, h1.ob, T.bench, T.n4, rfl, _, rfl, _, _, _, _, rfl, rfl, h1.outs, ixN_k (by rw [List.length_map]; exact hi), ?_⟩
      have m2 := m1.trans (h1.wOuts (b.outs.set i true))
      rw [List.map_set] at m2
      exact k a _ m2
    · rw [if_neg e] at k
      exact k _ s1
abbrev s_Bench_into : Stmt := inClass (top 46) 10
theorem sc_Bench_into : FnScope ["self", "shaft"] ["self", "shaft"] (defScope s_Bench_into) := ⟨rfl, rfl, rfl, by decide +kernel, rfl, by decide +kernel, by decide +kernel⟩
theorem ok_Bench_into (T : TxB g) (F : MDef g (BC g) "into" "Bench.into" s_Bench_into ["self", "shaft"]) (G_Bench_want_out : HasM g (CXN g) 1 (BC g) "want_out" ["self", "shaft", "is_out"] (spWant g.K)) (G_Bench_keep : HasM g CX0 1 (BC g) "keep" ["self"] (spKeep g.K)) :
    HasM g (CXN g) 2 (BC g) "into" ["self", "shaft"] (spOut g.K B.into) := by
  refine F.okX sc_Bench_into (fun vs H Q E h => ?_) (fun f cdv A outer s H vs Q E hr h => ?_)
  · obtain ⟨a, b, i, rfl, _⟩ := h
    rfl
  · obtain ⟨a, b, i, rfl, hb, hi, hp, k⟩ := h
    refine ⟨_, (pss_cons (ps_expr (pe_hasM G_Bench_want_out (pv 0) T.bench hr (by decide) (L2N.passes_call (E := E) (L2N.takes_of rfl rfl rfl rfl) (fun _ _ _ _ h => h)) (pa_cons (pv 1) (pa_cons pe_bl pa_nil))))
      (pss_cons (ps_expr (pe_hasM0 G_Bench_keep (pv 0) T.bench hr (by decide) pass0))
      (pss_one (ps_asg pe_bl (pg_sub (pe_fld (pv 0) rfl) (pv 1) set_list))))), ?_⟩
    unfold B.into at k
    refine ⟨_, rfl, _, _, _, rfl, hb.ob, rfl, _, rfl, a, b, i, true, rfl, hb, hi, fun e => ?_, fun e H1 s1 => ?_⟩
    · rw [if_pos e] at k
      refine ⟨_, rfl, _, _, _, rfl, hb.ob, rfl, a, b, rfl, hb, hp, fun H1 m1 => ?_⟩
      have h1 := m1.bench
      refine ⟨_, rfl, _, _, _, _, _, rfl, h1.ob, T.bench, T.n4, rfl, _, rfl, _, _, _, _, rfl, rfl, h1.outs, ixN_k (by rw [List.length_map]; exact hi), ?_⟩
      have m2 := m1.trans (h1.wOuts (b.outs.set i false))
      rw [List.map_set] at m2
      exact k a _ m2
    · rw [if_neg e] at k
      exact k _ s1
def spPut (K : PySem.W.Frag) : Sp := fun vs H Q E => ∃ (a : Ad) (b : B) (i : Nat) (w : V) (q : Rat), vs = [.ref a.p, .int i, w] ∧ BenchAt K H a b ∧ WF b ∧ i < b.rows.length ∧ b.past ≤ 1000 ∧ Nm K H w q ∧ Sz 200 q ∧ Outcome K H a (b.put i q) Q E
theorem lims_at {b : B} {i : Nat} (h : i < b.lims.length) : b.lims[i]? = some (b.lims.getD i (none, none)) := by
  obtain ⟨o, ho⟩ := ex_at h
  rw [ho, List.getD_eq_getElem?_getD, ho]
  rfl
abbrev s_Bench_put : Stmt := inClass (top 46) 11
theorem sc_Bench_put : FnScope ["self", "shaft", "number"] ["self", "shaft", "number"] (defScope s_Bench_put) := ⟨rfl, rfl, rfl, by decide +kernel, rfl, by decide +kernel, by decide +kernel⟩
theorem ok_Bench_put (T : TxB g) (F : MDef g (BC g) "put" "Bench.put" s_Bench_put ["self", "shaft", "number"]) (X_Stopped : ExI g "Stopped" "shaft") (I_Stopped : HasI g 1 "Stopped" ["self", "shaft"] (spIni g.K (He.ga g.K "Stopped") "shaft")) (G_is_beyond : Has g CX0 2 "is_beyond" ["ends", "number"] (spBeyond g.K))
    (G_Bench_want_out : HasM g (CXN g) 1 (BC g) "want_out" ["self", "shaft", "is_out"] (spWant g.K)) (G_Bench_keep : HasM g CX0 1 (BC g) "keep" ["self"] (spKeep g.K)) : HasM g (CXN g) 3 (BC g) "put" ["self", "shaft", "number"] (spPut g.K) := by
  refine F.okX sc_Bench_put (fun vs H Q E h => ?_) (fun f cdv A outer s H vs Q E hr h => ?_)
  · obtain ⟨a, b, i, w, q, rfl, _⟩ := h
    rfl
  · obtain ⟨a, b, i, w, q, rfl, hb, wf, hi, hp, hw, zq, k⟩ := h
    refine ⟨_, (pss_cons (ps_expr (pe_hasM G_Bench_want_out (pv 0) T.bench hr (by decide) (L2N.passes_call (E := E) (L2N.takes_of rfl rfl rfl rfl) (fun _ _ _ _ h => h)) (pa_cons (pv 1) (pa_cons pe_bl pa_nil))))
      (pss_cons (ps_if (pt_val (pe_has G_is_beyond hr (by decide) pass0 (pa_cons (pe_ix (ix_listK (K := g.K)) (pe_fld (pv 0) rfl) (pv 1) (fun _ _ => rfl)) (pa_cons (pv 2) pa_nil)))) (pss_one (L2N.ps_raise rfl (L2N.takes_of rfl rfl rfl rfl) (pmkN X_Stopped I_Stopped hr (by decide) (pa_cons (pv 1) pa_nil)))) pss_nil)
      (pss_cons (ps_expr (pe_hasM0 G_Bench_keep (pv 0) T.bench hr (by decide) pass0))
      (pss_one (ps_asg (pv 2) (pg_sub (pe_fld (pv 0) rfl) (pv 1) set_list)))))), ?_⟩
    unfold B.put at k
    have hio : i < b.outs.length := by rw [wf.lo]; exact hi
    refine ⟨_, rfl, _, _, _, rfl, hb.ob, rfl, _, rfl, a, b, i, true, rfl, hb, hio, fun e => ?_, fun e H1 s1 => ?_⟩
    · rw [if_pos e] at k
      obtain ⟨v5, r5, p5⟩ := hb.lims
      have hil : i < b.lims.length := by rw [wf.ll]; exact hi
      obtain ⟨vl, hvl, lm⟩ := Pd.get p5 (lims_at hil)
      refine ⟨_, rfl, _, _, _, _, _, rfl, hb.ob, T.bench, T.n5, rfl, _, rfl, _, _, _, _, rfl, rfl, SqL.of r5, atI_nat hvl, _, rfl, vl, w, _, q, rfl, lm, hw, fun x hx => wf.zl _ (List.mem_of_getElem? (lims_at hil)) x hx, zq.mono (by decide), ?_⟩
      refine ⟨_, rfl, ?_⟩
      by_cases hbe : beyond (b.lims.getD i (none, none)) q = true
      · rw [if_pos hbe] at k
        rw [hbe]
        exact iteT ⟨_, rfl, _, rfl, fun d H3 s4 hd0 hd => k d H3 s4 hd0 hd⟩
      · rw [if_neg hbe] at k
        rw [Bool.eq_false_iff.mpr hbe]
        refine iteF ⟨_, rfl, _, _, _, rfl, hb.ob, rfl, a, b, rfl, hb, hp, fun H1 m1 => ?_⟩
        have h1 := m1.bench
        obtain ⟨v2, r2, p2⟩ := h1.stood
        refine ⟨_, rfl, _, rfl, _, _, _, _, _, rfl, h1.ob, T.bench, T.n2, rfl, _, rfl, _, _, _, _, rfl, rfl, r2, ixN_k (by rw [p2.length, wf.ls]; exact hi), ?_⟩
        exact k a _ (m1.trans (h1.wStood (Pd.set p2 (hw.fr m1.fr) i)))
    · rw [if_neg e] at k
      exact k _ s1
def spEnds (K : PySem.W.Frag) : Sp := fun vs H Q E => ∃ (a : Ad) (b : B) (i : Nat) (x y : V) (l : Option Rat × Option Rat), vs = [.ref a.p, .int i, x, y] ∧ BenchAt K H a b ∧ WF b ∧ i < b.rows.length ∧ b.past ≤ 1000 ∧ On K H x l.1 ∧ On K H y l.2 ∧ (∀ z, (l.1 = some z ∨ l.2 = some z) → Sz 200 z) ∧ Outcome K H a (b.ends i l) Q E
abbrev s_Bench_ends : Stmt := inClass (top 46) 14
theorem sc_Bench_ends : FnScope ["self", "shaft", "least", "greatest"] ["self", "shaft", "least", "greatest"] (defScope s_Bench_ends) := ⟨rfl, rfl, rfl, by decide +kernel, rfl, by decide +kernel, by decide +kernel⟩
theorem Outcome.before {K : PySem.W.Frag} {H H1 : Hp} {a : Ad} {b : B} {r : Res} {Q : VK} {E : XK} (h : BenchAt K H a b) (s : Same H H1) (k : Outcome K H a r Q E) : Outcome K H1 a r Q E := by
  unfold Outcome at k ⊢
  have bk : ∀ d, H1 d = none → H d = none := fun d hd => by
    cases e : H d with
    | none => rfl
    | some o => rw [s _ _ e] at hd; cases hd
  cases r with
  | ok ms b' =>
    cases ms with
    | none => exact fun a' H' m => k a' H' (m.before s h)
    | some ms => exact fun a' H' p vs m h1 h2 h3 h4 => k a' H' p vs (m.before s h) h1 h2 h3 (bk p h4)
  | stopped j => exact fun d H' s1 hd => k d H' (s.trans s1) (bk d hd)
  | ring => exact fun d p ys H' s1 => k d p ys H' (s.trans s1)
  | no x => exact fun H' s1 => k H' (s.trans s1)
theorem ok_Bench_ends (T : TxB g) (F : MDef g (BC g) "ends" "Bench.ends" s_Bench_ends ["self", "shaft", "least", "greatest"]) (X_Stopped : ExI g "Stopped" "shaft") (I_Stopped : HasI g 1 "Stopped" ["self", "shaft"] (spIni g.K (He.ga g.K "Stopped") "shaft")) (G_is_beyond : Has g CX0 2 "is_beyond" ["ends", "number"] (spBeyond g.K))
    (G_Bench_keep : HasM g CX0 1 (BC g) "keep" ["self"] (spKeep g.K)) : HasM g (CXN g) 3 (BC g) "ends" ["self", "shaft", "least", "greatest"] (spEnds g.K) := by
  refine F.okX sc_Bench_ends (fun vs H Q E h => ?_) (fun f cdv A outer s H vs Q E hr h => ?_)
  · obtain ⟨a, b, i, x, y, l, rfl, _⟩ := h
    rfl
  · obtain ⟨a, b, i, x, y, l, rfl, hb, wf, hi, hp, hx, hy, zl, k⟩ := h
    refine ⟨_, (pss_cons (ps_if (pt_val (pe_has G_is_beyond hr (by decide) pass0 (pa_cons (pe_tup (pa_cons (pv 2) (pa_cons (pv 3) pa_nil))) (pa_cons (pe_ix (ix_listK (K := g.K)) (pe_fld (pv 0) rfl) (pv 1) (fun _ _ => rfl)) pa_nil)))) (pss_one (L2N.ps_raise rfl (L2N.takes_of rfl rfl rfl rfl) (pmkN X_Stopped I_Stopped hr (by decide) (pa_cons (pv 1) pa_nil)))) pss_nil)
      (pss_cons (ps_expr (pe_hasM0 G_Bench_keep (pv 0) T.bench hr (by decide) pass0))
      (pss_one (ps_asg (pe_tup (pa_cons (pv 2) (pa_cons (pv 3) pa_nil))) (pg_sub (pe_fld (pv 0) rfl) (pv 1) set_list))))), ?_⟩
    refine ⟨_, rfl, _, rfl, (by show 2 ≤ sizeLine; decide), fun t ht => ?_⟩
    have s1 := same_new (o := .tup [x, y]) ht
    have hb1 := hb.same s1
    replace k := k.before hb s1
    unfold B.ends at k
    obtain ⟨v2, r2, p2⟩ := hb1.stood
    obtain ⟨q, hq⟩ := ex_at (xs := b.stood) (i := i) (by rw [wf.ls]; exact hi)
    obtain ⟨vq, hvq, nq⟩ := Pd.get p2 hq
    rw [getD_at hq] at k
    have on1 : ∀ {v : V} {z : Option Rat}, On g.K H v z → On g.K (upd H t (.tup [x, y])) v z := fun h => On.fr (F := []) (Fr.of s1) h
    refine ⟨_, rfl, _, _, _, _, _, rfl, hb1.ob, T.bench, T.n2, rfl, _, rfl, _, _, _, _, rfl, rfl, SqL.of r2, atI_nat hvq, .ref t, vq, l, q, rfl, ⟨t, x, y, rfl, .inl (.inl upd_same), on1 hx, on1 hy⟩, nq, zl, (wf.zs q (List.mem_of_getElem? hq)).mono (by decide), ?_⟩
    refine ⟨_, rfl, ?_⟩
    by_cases hbe : beyond l q = true
    · rw [if_pos hbe] at k
      rw [hbe]
      exact iteT ⟨_, rfl, _, rfl, fun d H3 s4 hd0 hd => k d H3 s4 hd0 hd⟩
    · rw [if_neg hbe] at k
      rw [Bool.eq_false_iff.mpr hbe]
      refine iteF ⟨_, rfl, _, _, _, rfl, hb1.ob, rfl, a, b, rfl, hb1, hp, fun H2 m2 => ?_⟩
      refine ⟨_, rfl, _, rfl, (by show 2 ≤ sizeLine; decide), fun t2 ht2 => ?_⟩
      have s3 := same_new (o := .tup [x, y]) ht2
      have h2 := m2.bench.same s3
      obtain ⟨v5, r5, p5⟩ := h2.lims
      have fr3 := m2.fr.trans (Fr.of (F := []) s3) fun _ z => nomatch z
      refine ⟨_, rfl, _, _, _, _, _, rfl, h2.ob, T.bench, T.n5, rfl, _, rfl, _, _, _, _, rfl, rfl, r5, ixN_k (by rw [p5.length, wf.ll]; exact hi), ?_⟩
      exact k a _ ((m2.trans (Moved.of m2.bench s3)).trans (h2.wLims (Pd.set p5 ⟨t2, x, y, rfl, .inl (.inl upd_same), (on1 hx).fr fr3, (on1 hy).fr fr3⟩ i)))
def spGear (K : PySem.W.Frag) : Sp := fun vs H Q E => ∃ (a : Ad) (b : B) (i : Nat) (w : V) (q : Rat), vs = [.ref a.p, .int i, w] ∧ BenchAt K H a b ∧ i < b.rows.length ∧ b.past ≤ 1000 ∧ Nm K H w q ∧ Outcome K H a (b.gear i q) Q E
abbrev s_Bench_gear : Stmt := inClass (top 46) 13
theorem sc_Bench_gear : FnScope ["self", "shaft", "ratio", "row"] ["self", "shaft", "ratio"] (defScope s_Bench_gear) := ⟨rfl, rfl, rfl, by decide +kernel, rfl, by decide +kernel, by decide +kernel⟩
theorem cut02 (x y u v : V) : cutV [x, y, u, v] none (some 2) = [x, y] := rfl
theorem ok_Bench_gear (T : TxB g) (F : MDef g (BC g) "gear" "Bench.gear" s_Bench_gear ["self", "shaft", "ratio"]) (X_NoGear : ExN g "NoGear")
    (G_Bench_keep : HasM g CX0 1 (BC g) "keep" ["self"] (spKeep g.K)) : HasM g (CXN g) 2 (BC g) "gear" ["self", "shaft", "ratio"] (spGear g.K) := by
  refine F.okX sc_Bench_gear (fun vs H Q E h => ?_) (fun f cdv A outer s H vs Q E hr h => ?_)
  · obtain ⟨a, b, i, w, q, rfl, _⟩ := h
    rfl
  · obtain ⟨a, b, i, w, q, rfl, hb, hi, hp, hw, k⟩ := h
    refine ⟨_, (pss_cons (ps_set (i := 3) sc_Bench_gear.nd rfl (Or.inl rfl) (pe_ix (ix_listK (K := g.K)) (pe_fld (pv 0) rfl) (pv 1) (fun _ _ => rfl)))
      (pss_cons (ps_if (pt_cmpR op_ne (pe_ix (ix_tupK (K := g.K)) (pv 3) pe_int (fun _ _ => rfl)) pe_str (nomark _)) (pss_one (L2N.ps_raise rfl (L2N.takes_of rfl rfl rfl rfl) (L2N.pmk_own PySem.F.excBase_ValueError X_NoGear.q X_NoGear.gl X_NoGear.kC (raises_own X_NoGear.sub X_NoGear.ty) rfl))) pss_nil)
      (pss_cons (ps_expr (pe_hasM0 G_Bench_keep (pv 0) T.bench hr (by decide) pass0))
      (pss_one (ps_asg (pe_op (op_catK (K := g.K)) (pe_slice (sl_tupK (K := g.K)) (pv 3) po_none (po_some pe_int)) (pe_tup (pa_cons (pv 2) (pa_cons (pe_ix (ix_tupK (K := g.K)) (pv 3) pe_int (fun _ _ => rfl)) pa_nil)))) (pg_sub (pe_fld (pv 0) rfl) (pv 1) set_list)))))), ?_⟩
    unfold B.gear at k
    obtain ⟨v1, r1, p1⟩ := hb.rows
    obtain ⟨r, hr1⟩ := ex_at hi
    obtain ⟨vr, hvr, rw1⟩ := Pd.get p1 hr1
    rw [hr1] at k
    refine ⟨_, rfl, _, _, _, _, _, rfl, hb.ob, T.bench, T.n1, rfl, _, rfl, _, _, _, _, rfl, rfl, SqL.of r1, atI_nat hvr, ?_⟩
    cases rw1 with
    | src t hx => exact ⟨_, rfl, _, _, _, _, rfl, rfl, t, rfl, rfl, _, rfl, iteT (k H (Same.refl _))⟩
    | adder t hx => exact ⟨_, rfl, _, _, _, _, rfl, rfl, t, rfl, rfl, _, rfl, iteT (k H (Same.refl _))⟩
    | disc t hx => exact ⟨_, rfl, _, _, _, _, rfl, rfl, t, rfl, rfl, _, rfl, iteT (k H (Same.refl _))⟩
    | @gear ar x y s0 r0 j t hx hy =>
      refine ⟨_, rfl, _, _, _, _, rfl, rfl, t, rfl, rfl, _, rfl, iteF ⟨_, rfl, _, _, _, rfl, hb.ob, rfl, a, b, rfl, hb, hp, fun H1 m1 => ?_⟩⟩
      have t1 := m1.fr.tup t
      refine ⟨_, rfl, _, rfl, _, _, rfl, t1, (fun z => absurd z.2 (by show ¬ ((2 : Nat) = 4); decide)), fun _ c hc => ?_⟩
      have s2 := same_new (o := .tup (cutV [.str "gear", x, y, .int j] none (some 2))) hc
      refine ⟨_, rfl, _, rfl, _, _, _, _, rfl, rfl, Same.tup s2 t1, rfl, (by show 2 ≤ sizeLine; decide), fun c2 hc2 => ?_⟩
      have s3 := s2.trans (same_new (o := .tup [w, .int j]) hc2)
      refine ⟨c, c2, [.str "gear", x], [w, .int j], rfl, rfl, .inl (.inl (same_new hc2 _ _ upd_same)), .inl (.inl upd_same), (by show 4 ≤ sizeLine; decide), (fun z => nomatch z), (fun _ z => nomatch z), fun _ _ c3 hc3 => ?_⟩
      have s4 := s3.trans (same_new (o := .tup ([.str "gear", x] ++ [w, .int j])) hc3)
      have h4 := m1.bench.same s4
      obtain ⟨v4, r4, p4⟩ := h4.rows
      have fr4 := m1.fr.trans (Fr.of (F := []) s4) fun _ z => nomatch z
      refine ⟨_, rfl, _, _, _, _, _, rfl, h4.ob, T.bench, T.n1, rfl, _, rfl, _, _, _, _, rfl, rfl, r4, ixN_k (by rw [p4.length]; exact hi), ?_⟩
      exact k a _ ((m1.trans (Moved.of m1.bench s4)).trans (h4.wRows (Pd.set p4 (.gear (.inl (.inl upd_same)) (hx.fr fr4) (hw.fr fr4)) i)))
def spUndo (K : PySem.W.Frag) : Sp := fun vs H Q E => ∃ (a : Ad) (b : B), vs = [.ref a.p] ∧ BenchAt K H a b ∧ b.past = 0 ∧ Outcome K H a (.no "NoDeed") Q E
abbrev s_Bench_undo : Stmt := inClass (top 46) 15
theorem sc_Bench_undo : FnScope ["self"] ["self"] (defScope s_Bench_undo) := ⟨rfl, rfl, rfl, by decide +kernel, rfl, by decide +kernel, by decide +kernel⟩
theorem ok_Bench_undo (T : TxB g) (F : MDef g (BC g) "undo" "Bench.undo" s_Bench_undo ["self"]) (X_NoDeed : ExN g "NoDeed") : HasM g (CXN g) 1 (BC g) "undo" ["self"] (spUndo g.K) := by
  refine F.okX sc_Bench_undo (fun vs H Q E h => ?_) (fun f cdv A outer s H vs Q E hr h => ?_)
  · obtain ⟨a, b, rfl, _⟩ := h
    rfl
  · obtain ⟨a, b, rfl, hb, hp, k⟩ := h
    refine ⟨_, (pss_cons (ps_if (pt_cmpR (op_eqK (K := g.K) hr.units) (pe_fld (pv 0) rfl) (pe_lst pa_nil) (nomark _)) (pss_one (L2N.ps_raise rfl (L2N.takes_of rfl rfl rfl rfl) (L2N.pmk_own PySem.F.excBase_ValueError X_NoDeed.q X_NoDeed.gl X_NoDeed.kC (raises_own X_NoDeed.sub X_NoDeed.ty) rfl))) pss_nil)
      (pss_one ps_never)), ?_⟩
    obtain ⟨v6, r6, p6⟩ := hb.past
    have e : v6 = [] := List.eq_nil_of_length_eq_zero (p6.trans hp)
    subst e
    refine ⟨_, rfl, _, _, _, _, _, rfl, hb.ob, T.bench, T.n6, rfl, (by show 0 ≤ sizeLine; decide), fun l hl => ?_⟩
    have s1 := same_new (o := .lst []) hl
    refine ⟨_, _, dp_ints (l := []) (SqL.of (s1 _ _ r6)), .lst (SqL.of upd_same) .nil, shaped_ints [], rfl, _, rfl, ?_⟩
    exact iteT (k _ s1)
def spWire (K : PySem.W.Frag) : Sp := fun vs H Q E => ∃ (a : Ad) (b : B) (i : Nat) (w : V) (r : Row), vs = [.ref a.p, .int i, w] ∧ BenchAt K H a b ∧ WF b ∧ i < b.rows.length ∧ b.past ≤ 1000 ∧ Rw K H w r ∧ r.In b.rows.length ∧ Outcome K H a (b.wire i r) Q E
abbrev s_Bench_wire : Stmt := inClass (top 46) 12
theorem sc_Bench_wire : FnScope ["self", "shaft", "thing", "rows"] ["self", "shaft", "thing"] (defScope s_Bench_wire) := ⟨rfl, rfl, rfl, by decide +kernel, rfl, by decide +kernel, by decide +kernel⟩
theorem ok_Bench_wire (T : TxB g) (F : MDef g (BC g) "wire" "Bench.wire" s_Bench_wire ["self", "shaft", "thing"]) (G_look_machine : Has g (CXN g) 5 "look_machine" ["thing"] (spLook g.K))
    (G_Bench_want_out : HasM g (CXN g) 1 (BC g) "want_out" ["self", "shaft", "is_out"] (spWant g.K)) (G_Bench_keep : HasM g CX0 1 (BC g) "keep" ["self"] (spKeep g.K)) : HasM g (CXN g) 6 (BC g) "wire" ["self", "shaft", "thing"] (spWire g.K) := by
  refine F.okX sc_Bench_wire (fun vs H Q E h => ?_) (fun f cdv A outer s H vs Q E hr h => ?_)
  · obtain ⟨a, b, i, w, r, rfl, _⟩ := h
    rfl
  · obtain ⟨a, b, i, w, r, rfl, hb, wf, hi, hp, hw, hin, k⟩ := h
    refine ⟨_, (pss_cons (ps_expr (pe_hasM G_Bench_want_out (pv 0) T.bench hr (by decide) (L2N.passes_call (E := E) (L2N.takes_of rfl rfl rfl rfl) (fun _ _ _ _ h => h)) (pa_cons (pv 1) (pa_cons pe_bl pa_nil))))
      (pss_cons (ps_set (i := 3) sc_Bench_wire.nd rfl (Or.inl rfl) (pe_callTy (call_listK (K := g.K)) (by rfl) T.list (by decide +kernel) (pa_cons (pe_fld (pv 0) rfl) pa_nil)))
      (pss_cons (ps_asg (pv 2) (pg_sub (pv 3) (pv 1) set_list))
      (pss_cons (ps_expr (pe_has G_look_machine hr (by decide) (L2N.passes_call (E := E) (L2N.takes_of rfl rfl rfl rfl) (fun _ _ _ _ h => h)) (pa_cons (pv 3) pa_nil)))
      (pss_cons (ps_expr (pe_hasM0 G_Bench_keep (pv 0) T.bench hr (by decide) pass0))
      (pss_one (ps_fld (pv 0) (pv 3) rfl))))))), ?_⟩
    unfold B.wire at k
    have hio : i < b.outs.length := by rw [wf.lo]; exact hi
    refine ⟨_, rfl, _, _, _, rfl, hb.ob, rfl, _, rfl, a, b, i, true, rfl, hb, hio, fun e => ?_, fun e H1 s1 => ?_⟩
    · rw [if_pos e] at k
      obtain ⟨v1, r1, p1⟩ := hb.rows
      refine ⟨_, rfl, _, _, _, _, _, rfl, hb.ob, T.bench, T.n1, rfl, _, _, rfl, .inl (SqL.of r1), fun l hl => ?_⟩
      have s1 := same_new (o := .lst v1) hl
      refine ⟨_, rfl, _, rfl, _, rfl, _, _, _, _, rfl, rfl, upd_same, ixN_k (by rw [p1.length]; exact hi), ?_⟩
      have e2 : upd (upd H l (.lst v1)) l (.lst (v1.set i w)) = upd H l (.lst (v1.set i w)) := by
        funext y
        by_cases z : y = l
        · rw [z, upd_same, upd_same]
        · rw [upd_ne z, upd_ne z, upd_ne z]
      rw [e2]
      have s2 := same_new (o := .lst (v1.set i w)) hl
      have hrows : Paired (Rw g.K (upd H l (.lst (v1.set i w)))) (v1.set i w) (b.rows.set i r) := Pd.set (p1.mono fun _ _ z => z.same s2) (hw.same s2) i
      have hl2 : (b.rows.set i r).length = b.rows.length := List.length_set
      refine ⟨_, rfl, l, b.rows.set i r, rfl, ⟨_, upd_same, hrows⟩, ?_, by rw [hl2]; exact wf.n1, by rw [hl2]; have := wf.n5; omega, fun hs H3 s3 => ?_, fun hs hf d p ys H3 s3 hd hy => ?_, fun hs hf H3 s3 => ?_⟩
      · intro x hx
        rw [hl2]
        rcases List.mem_or_eq_of_mem_set hx with hx | rfl
        · obtain ⟨j, hj⟩ := List.mem_iff_getElem?.mp hx
          exact wf.m.inn j x hj
        · exact hin
      · rw [if_neg hs] at k
        exact k H3 (s2.trans s3)
      · rw [if_pos hs, if_neg hf] at k
        exact k d p ys H3 (s2.trans s3) hd hy
      · rw [if_pos hs, if_pos hf] at k
        have s23 := s2.trans s3
        have hb3 := hb.same s23
        refine ⟨_, rfl, _, _, _, rfl, hb3.ob, rfl, a, b, rfl, hb3, hp, fun H4 m4 => ?_⟩
        have m4' := m4.before s23 hb
        have lna : l ∉ a.fp := fun z => hb.there l z hl
        refine ⟨_, rfl, _, rfl, _, _, _, _, rfl, m4.bench.ob, T.bench, T.n1, (by show 6 < 1000; decide), ?_⟩
        have hl4 : H4 l = some (.lst (v1.set i w)) := m4.fr.get (s3 _ _ upd_same) lna
        exact k _ _ (m4'.nRows hl4 hl lna (hrows.mono fun _ _ z => (z.same s3).fr m4.fr))
    · rw [if_neg e] at k
      exact k _ s1
end
end K79
end

section
set_option linter.all false
set_option maxRecDepth 100000
set_option maxHeartbeats 4000000
/-! K79G7: the click. -/
namespace K79
open PySem PySem.Spec PyProof.Rows L2

section
variable {g : G}
/-- two lists of numbers added, place by place: zip's comprehension -/
theorem adds_pd {K : PySem.W.Frag} {H : Hp} {ys : List V} {xs ms : List Rat} (hl : ys.length = xs.length) (hm : xs.length = ms.length) (h : ∀ (i : Nat) (y : V), ys[i]? = some y → ∃ x m, xs[i]? = some x ∧ ms[i]? = some m ∧ Nm K H y (x + m)) : Paired (Nm K H) ys (adds xs ms) :=
  pd_of (by rw [adds_len hm]; exact hl) fun i y hi => let ⟨x, m, e1, e2, n⟩ := h i y hi; ⟨x + m, adds_at e1 e2, n⟩
def spClick (K : PySem.W.Frag) : Sp := fun vs H Q E => ∃ (a : Ad) (b : B) (w : V) (q : Rat), vs = [.ref a.p, w] ∧ BenchAt K H a b ∧ WF b ∧ b.past ≤ 20 ∧ Nm K H w q ∧ Sz 20 q ∧ Outcome K H a (b.click q) Q E
theorem stops_some {b : B} {q : Rat} {i : Nat} (hi : i < (b.ahead q).length) (h : beyond (b.lims.getD i (none, none)) ((b.ahead q).getD i 0) = true) (hn : ∀ j, j < i → beyond (b.lims.getD j (none, none)) ((b.ahead q).getD j 0) = false) : b.stops q = some i := by
  unfold B.stops
  rw [List.find?_range_eq_some]
  exact ⟨h, List.mem_range.mpr hi, fun j hj => by rw [hn j hj]; rfl⟩
theorem stops_none {b : B} {q : Rat} (hn : ∀ j, j < (b.ahead q).length → beyond (b.lims.getD j (none, none)) ((b.ahead q).getD j 0) = false) : b.stops q = none := by
  unfold B.stops
  rw [List.find?_eq_none]
  intro j hj
  rw [hn j (List.mem_range.mp hj)]
  simp
abbrev s_Bench_click : Stmt := inClass (top 46) 7
theorem sc_Bench_click : FnScope ["self", "number", "moves", "ahead", "shaft", "here", "move", "whole"] ["self", "number"] (defScope s_Bench_click) := ⟨rfl, rfl, rfl, by decide +kernel, rfl, by decide +kernel, by decide +kernel⟩
theorem ok_Bench_click (T : TxB g) (F : MDef g (BC g) "click" "Bench.click" s_Bench_click ["self", "number"]) (X_Stopped : ExI g "Stopped" "shaft") (I_Stopped : HasI g 1 "Stopped" ["self", "shaft"] (spIni g.K (He.ga g.K "Stopped") "shaft")) (X_TooFar : ExN g "TooFar")
    (G_is_beyond : Has g CX0 2 "is_beyond" ["ends", "number"] (spBeyond g.K)) (G_is_long : Has g CX0 1 "is_long" ["number"] (spLong g.K)) (G_plus : Has g CX0 3 "plus" ["one", "other"] (spPlus g.K))
    (G_Bench_moves_by : HasM g CX0 5 (BC g) "moves_by" ["self", "number"] (spMovesBy g.K)) (G_Bench_keep : HasM g CX0 1 (BC g) "keep" ["self"] (spKeep g.K)) : HasM g (CXN g) 6 (BC g) "click" ["self", "number"] (spClick g.K) := by
  refine F.okX sc_Bench_click (fun vs H Q E h => ?_) (fun f cdv A outer s H vs Q E hr h => ?_)
  · obtain ⟨a, b, w, q, rfl, _⟩ := h
    rfl
  · obtain ⟨a, b, w, q, rfl, hb, wf, hp, hw, zq, k⟩ := h
    refine ⟨_, (pss_cons (ps_set (i := 2) sc_Bench_click.nd rfl (Or.inl rfl) (pe_hasM G_Bench_moves_by (pv 0) T.bench hr (by decide) pass0 (pa_cons (pv 1) pa_nil)))
      (pss_cons (ps_setLc (i := 3) (own := [("here", 5), ("move", 6)]) (g := gTup g.K 2 (gCons (gName 5) (gCons (gName 6) gNil))) (tt := tYes) rfl sc_Bench_click.nd rfl rfl (sw_true rfl rfl rfl (by decide +kernel)) (pi_zip (by rfl) T.zip (pa_cons (pe_fld (pv 0) rfl) (pa_cons (pv 2) pa_nil))) (blkOk_by (own := [("here", 5), ("move", 6)]) (N := ["self", "number", "moves", "ahead", "shaft", "here", "move", "whole"]) (sc := defScope s_Bench_click) (by decide +kernel)) (fun _ _ _ _ _ => (pg_tup rfl (pgs_cons (pg_name (i := 5) sc_Bench_click.nd rfl (Or.inl rfl)) (pgs_cons (pg_name (i := 6) sc_Bench_click.nd rfl (Or.inl rfl)) pgs_nil)))) (fun _ _ _ _ _ => pts_nil) (fun _ _ _ _ _ => (pe_has G_plus hr (by decide) pass0 (pa_cons (pv 5) (pa_cons (pv 6) pa_nil)))))
      (pss_cons (ps_for (passes_of rfl) rfl (pi_range1 (by rfl) T.range (pa_cons (pe_callB (call_lenK (K := g.K)) (by rfl) T.len PySem.boot_len (pa_cons (pv 3) pa_nil)) pa_nil)) (pg_name (i := 4) sc_Bench_click.nd rfl (Or.inl rfl))
      (pss_one (ps_if (pt_val (pe_has G_is_beyond hr (by decide) pass0 (pa_cons (pe_ix (ix_listK (K := g.K)) (pe_fld (pv 0) rfl) (pv 4) (fun _ _ => rfl)) (pa_cons (pe_ix (ix_listK (K := g.K)) (pv 3) (pv 4) (fun _ _ => rfl)) pa_nil)))) (pss_one (L2N.ps_raise rfl (L2N.takes_of rfl rfl rfl rfl) (pmkN X_Stopped I_Stopped hr (by decide) (pa_cons (pv 4) pa_nil)))) pss_nil)))
      (pss_cons (ps_if (pt_val (pe_callB (call_anyK (K := g.K) rfl) (by rfl) T.any (by decide +kernel) (pa_cons (pe_lc (own := [("here", 5)]) (g := gName 5) (tt := tYes) rfl sc_Bench_click.nd (pi_list (pv 3)) (blkOk_by (own := [("here", 5)]) (N := ["self", "number", "moves", "ahead", "shaft", "here", "move", "whole"]) (sc := defScope s_Bench_click) (by decide +kernel)) (fun _ _ _ _ _ => (pg_name (i := 5) sc_Bench_click.nd rfl (Or.inl rfl))) (fun _ _ _ _ _ => pts_nil) (fun _ _ _ _ _ => (pe_has G_is_long hr (by decide) pass0 (pa_cons (pv 5) pa_nil)))) pa_nil))) (pss_one (L2N.ps_raise rfl (L2N.takes_of rfl rfl rfl rfl) (L2N.pmk_own PySem.F.excBase_ValueError X_TooFar.q X_TooFar.gl X_TooFar.kC (raises_own X_TooFar.sub X_TooFar.ty) rfl))) pss_nil)
      (pss_cons (ps_expr (pe_hasM0 G_Bench_keep (pv 0) T.bench hr (by decide) pass0))
      (pss_cons (ps_fld (pv 0) (pv 3) rfl)
      (pss_cons (ps_fld (pv 0) (pe_lc (own := [("whole", 7), ("move", 6)]) (g := gTup g.K 2 (gCons (gName 7) (gCons (gName 6) gNil))) (tt := tYes) rfl sc_Bench_click.nd (pi_zip (by rfl) T.zip (pa_cons (pe_fld (pv 0) rfl) (pa_cons (pv 2) pa_nil))) (blkOk_by (own := [("whole", 7), ("move", 6)]) (N := ["self", "number", "moves", "ahead", "shaft", "here", "move", "whole"]) (sc := defScope s_Bench_click) (by decide +kernel)) (fun _ _ _ _ _ => (pg_tup rfl (pgs_cons (pg_name (i := 7) sc_Bench_click.nd rfl (Or.inl rfl)) (pgs_cons (pg_name (i := 6) sc_Bench_click.nd rfl (Or.inl rfl)) pgs_nil)))) (fun _ _ _ _ _ => pts_nil) (fun _ _ _ _ _ => (pe_has G_plus hr (by decide) pass0 (pa_cons (pv 7) (pa_cons (pv 6) pa_nil))))) rfl)
      (pss_one (ps_ret (pv 2)))))))))), ?_⟩
    refine ⟨_, rfl, _, _, _, rfl, hb.ob, rfl, _, rfl, a, b, w, q, rfl, hb, wf, hw, zq, fun pm H1 ms s1 hpm hms pms => ?_⟩
    have hb1 := hb.same s1
    obtain ⟨v2, r2, p2⟩ := hb1.stood
    have l2 := p2.length
    have lm := pms.length
    rw [moves_len] at lm
    have ls := wf.ls
    have n5 := wf.n5
    have zm := moves_small wf zq
    have lsm : b.stood.length = (b.moves q).length := by rw [moves_len]; exact ls
    -- ahead
    refine ⟨_, rfl, _, _, _, _, _, rfl, hb1.ob, T.bench, T.n2, rfl, _, rfl, _, _, _, _, rfl, SqL.of r2, SqL.of hms, lc_map (walk_zip (n := b.rows.length) (K := g.K) (a := a.sl) (b := pm) (xs := v2) (ys := ms) (by omega))
      (fun D H y i => ∃ x m, b.stood[i]? = some x ∧ (b.moves q)[i]? = some m ∧ Nm g.K H y (x + m)) (by omega) (fun D l Ha Hb y i hD hk ⟨x, m, h1, h2, h3⟩ => ⟨x, m, h1, h2, h3.but hD hk⟩) (fun H' s => ⟨SqL.of (s _ _ r2), SqL.of (s _ _ hms)⟩) ?_ ?_⟩
    · rintro D i x H2 H3 Nx hi hD s2 hl ⟨t, x1, x2, rfl, ht, rfl, hx1, hx2⟩ kk
      obtain ⟨x, hx, nx⟩ := Pd.getV p2 hx1
      obtain ⟨m, hm, nm⟩ := Pd.getV pms hx2
      have s3 := same_new (o := .tup [x1, x2]) ht
      refine ⟨t, _, rfl, .inl (.inl upd_same), rfl, _, _, rfl, _, _, rfl, rfl, rfl, ?_⟩
      refine ⟨_, rfl, _, rfl, x1, x2, x, m, rfl, nx.same (s2.trans s3), nm.same (s2.trans s3), Fit.of (wf.zs x (List.mem_of_getElem? hx)) (zm m (List.mem_of_getElem? hm)) (by decide), fun u H5 s5 hu => ?_⟩
      exact kk _ _ (s3.trans s5) ⟨x, m, hx, hm, hu⟩
    intro pa ya H2 hpa s2 hya lya hy
    have pya : Paired (Nm g.K H2) ya (b.ahead q) := adds_pd (lya.trans ls.symm) lsm hy
    have la : (b.ahead q).length = b.rows.length := (adds_len lsm).trans ls
    have s12 := s1.trans s2
    have hb2 := hb.same s12
    obtain ⟨v5, r5, p5⟩ := hb2.lims
    have za : ∀ x ∈ b.ahead q, Sz 7050 x := fun x hx => by
      obtain ⟨x1, h1, x2, h2, rfl⟩ := mem_zipW hx
      exact ((wf.zs x1 h1).add (zm x2 h2)).mono (by decide)
    -- ends
    refine ⟨_, rfl, _, _, rfl, .inl (SqL.of hya), _, rfl, by rw [lya]; omega, by omega, for_it (walk_range (lo := 0) (n := _))
      (fun i σ H' => ∃ sh, σ = [some (.ref a.p), some w, some (.ref pm), some (.ref pa), sh, none, none, none] ∧ H' = H2 ∧ ∀ j, j < i → beyond (b.lims.getD j (none, none)) ((b.ahead q).getD j 0) = false) ⟨none, rfl, rfl, fun j hj => absurd hj (Nat.not_lt_zero j)⟩ (fun _ _ _ _ _ => True.intro) ?_ ?_⟩
    · rintro i x σ H3 H4 hi ⟨sh, rfl, rfl, hn⟩ ⟨rfl, hx⟩
      obtain rfl := range_at hx
      have hil : i < b.rows.length := by
        rw [lya] at hi
        omega
      obtain ⟨x, hx⟩ := ex_at (xs := b.ahead q) (i := i) (by rw [la]; exact hil)
      obtain ⟨vx, hvx, nx⟩ := Pd.get pya hx
      have hll : i < b.lims.length := by rw [wf.ll]; exact hil
      obtain ⟨vl, hvl, lml⟩ := Pd.get p5 (lims_at hll)
      refine ⟨_, rfl, _, _, _, _, _, rfl, hb2.ob, T.bench, T.n5, rfl, _, rfl, _, _, _, _, rfl, rfl, SqL.of r5, atI_nat hvl, _, rfl, _, rfl, _, _, _, _, rfl, rfl, SqL.of hya, atI_nat hvx, vl, vx, _, x, rfl, lml, nx,
        fun z hz => wf.zl _ (List.mem_of_getElem? (lims_at hll)) z hz, (za x (List.mem_of_getElem? hx)).mono (by decide), _, rfl, ?_⟩
      have hxd := getD_at hx
      by_cases hbe : beyond (b.lims.getD i (none, none)) x = true
      · rw [hbe]
        have st := stops_some (b := b) (q := q) (i := i) (by rw [la]; exact hil) (by rw [hxd]; exact hbe) hn
        unfold B.click at k
        rw [st] at k
        exact iteT ⟨_, rfl, _, rfl, fun d H5 s5 hd0 hd => k d H5 (s12.trans s5) (by
          cases e : H d with
          | none => rfl
          | some o => rw [s12 _ _ e] at hd0; cases hd0) hd⟩
      · rw [Bool.eq_false_iff.mpr hbe]
        refine iteF ⟨_, rfl, rfl, fun j hj => ?_⟩
        by_cases e : j = i
        · subst e
          rw [hxd]
          exact Bool.eq_false_iff.mpr hbe
        · exact hn j (by omega)
    rintro σ H3 ⟨sh, rfl, rfl, hn⟩
    have st := stops_none (b := b) (q := q) fun j hj => hn j (by rw [la] at hj; rw [Int.toNat_natCast, lya]; exact hj)
    unfold B.click at k
    rw [st] at k
    -- too far
    refine ⟨_, rfl, _, rfl, ⟨_, SqL.of hya⟩, lc_map (walk_list (K := g.K) (a := pa) (xs := ya)) (fun D H y i => ∃ x, (b.ahead q)[i]? = some x ∧ y = .bl (long x)) (by omega) (fun _ _ _ _ _ _ _ _ h => h) (fun H' s => SqL.of (s _ _ hya)) ?_ ?_⟩
    · rintro D i x H4 H5 Nx hi hD s4 hl ⟨rfl, hx⟩ kk
      obtain ⟨r, hr2, nr⟩ := Pd.getV pya hx
      exact ⟨rfl, _, rfl, x, r, rfl, nr.same s4, kk _ _ (Same.refl _) ⟨r, hr2, rfl⟩⟩
    intro pb yb H4 hpb s4 hyb lyb hy4
    have eb : yb = ((b.ahead q).map long).map V.bl := by
      refine List.ext_getElem? fun i => ?_
      rw [List.map_map, List.getElem?_map]
      by_cases hi : i < yb.length
      · obtain ⟨y, hyi⟩ := ex_at hi
        obtain ⟨x, e1, e2⟩ := hy4 i y hyi
        rw [hyi, e1, e2]
        rfl
      · rw [List.getElem?_eq_none (by omega), List.getElem?_eq_none (by omega)]
        rfl
    subst eb
    refine ⟨pb, _, rfl, SqL.of hyb, _, rfl, ?_⟩
    have s124 := s12.trans s4
    rw [show ((b.ahead q).map long).any id = (b.ahead q).any long from by rw [List.any_map]; rfl]
    by_cases hlong : (b.ahead q).any long = true
    · rw [if_pos hlong] at k
      rw [hlong]
      exact iteT (k H4 s124)
    · rw [if_neg hlong] at k
      rw [Bool.eq_false_iff.mpr hlong]
      -- done
      have hb4 := hb.same s124
      refine iteF ⟨_, rfl, _, _, _, rfl, hb4.ob, rfl, a, b, rfl, hb4, by omega, fun H5 m5 => ?_⟩
      have m5' := m5.before s124 hb
      have lna : pa ∉ a.fp := fun z => hb1.there pa z hpa
      have hpa0 : H pa = none := by
        cases e : H pa with
        | none => rfl
        | some o => rw [s1 _ _ e] at hpa; cases hpa
      have pmna : pm ∉ a.fp := fun z => hb.there pm z hpm
      have hya5 := m5.fr.get (s4 _ _ hya) lna
      refine ⟨_, rfl, _, rfl, _, _, _, _, rfl, m5.bench.ob, T.bench, T.n2, (by show 6 < 1000; decide), ?_⟩
      have m6 := m5'.nStood hya5 hpa0 lna (pya.mono fun _ _ z => (z.same s4).fr m5.fr)
      have hms5 := m5.fr.get (s4 _ _ (s2 _ _ hms)) pmna
      have nap : pm ≠ a.p := fun z => pmna (by rw [z]; simp [Ad.fp])
      have hms6 : upd H5 a.p (.ins (BC g) a.dx (bfs { a with sl := pa })) pm = some (.lst ms) := by rw [upd_ne nap]; exact hms5
      have f6 : Fr a.fp H5 (upd H5 a.p (.ins (BC g) a.dx (bfs { a with sl := pa }))) := m5.bench.wr (by simp [Ad.fp])
      have pms6 := pms.mono fun _ _ z => (((z.same s2).same s4).fr m5.fr).fr f6
      have hold : upd H5 a.p (.ins (BC g) a.dx (bfs { a with sl := pa })) a.sl ≠ none := by
        obtain ⟨w2, q2, _⟩ := m5.bench.stood
        have nd := m5.bench.nd
        simp only [Ad.fp, List.nodup_cons, List.mem_cons, List.not_mem_nil, or_false, not_or] at nd
        rw [upd_ne (Ne.symm nd.1.2.1), q2]
        simp
      have ep : putF "stood" (.ref pa) (bfs a) = bfs { a with sl := pa } := rfl
      rw [ep]
      generalize upd H5 a.p (.ins (BC g) a.dx (bfs { a with sl := pa })) = H6 at m6 hms6 pms6 hold ⊢
      clear f6
      have h6 := m6.bench
      obtain ⟨v3, r3, p3⟩ := h6.sums
      have l3 := p3.length
      have lu := wf.lu
      have l3' : v3.length = b.rows.length := l3.trans lu
      refine ⟨_, rfl, _, _, _, _, _, rfl, h6.ob, T.bench, T.n3, rfl, _, rfl, _, _, _, _, rfl, SqL.of r3, SqL.of hms6, lc_map (walk_zip (n := b.rows.length) (K := g.K) (a := a.ul) (b := pm) (xs := v3) (ys := ms) (by omega))
        (fun D H y i => ∃ x m, b.sums[i]? = some x ∧ (b.moves q)[i]? = some m ∧ Nm g.K H y (x + m)) (by omega) (fun D l Ha Hb y i hD hk ⟨x, m, h1, h2, h3⟩ => ⟨x, m, h1, h2, h3.but hD hk⟩) (fun H' s => ⟨SqL.of (s _ _ r3), SqL.of (s _ _ hms6)⟩) ?_ ?_⟩
      · rintro D i x H7 H8 Nx hi hD s7 hl ⟨t, x1, x2, rfl, ht, rfl, hx1, hx2⟩ kk
        obtain ⟨x, hx, nx⟩ := Pd.getV p3 hx1
        obtain ⟨m, hm, nm⟩ := Pd.getV pms6 hx2
        have s8 := same_new (o := .tup [x1, x2]) ht
        obtain ⟨s0, hs0⟩ := ex_at (xs := b.stood) (i := i) (by rw [ls]; exact hi)
        have hsm : (b.ahead q)[i]? = some (s0 + m) := adds_at hs0 hm
        have zz : Sz 401 m := by
          refine move_small (wf.zs _ (List.mem_of_getElem? hs0)) (sz_of_not_long ?_)
          cases z : long (s0 + m) with
          | false => rfl
          | true => exact absurd (List.any_eq_true.mpr ⟨_, List.mem_of_getElem? hsm, z⟩) hlong
        refine ⟨t, _, rfl, .inl (.inl upd_same), rfl, _, _, rfl, _, _, rfl, rfl, rfl, ?_⟩
        refine ⟨_, rfl, _, rfl, x1, x2, x, m, rfl, nx.same (s7.trans s8), nm.same (s7.trans s8), Fit.of (wf.zu x (List.mem_of_getElem? hx)) zz (by omega), fun u H9 s9 hu => ?_⟩
        exact kk _ _ (s8.trans s9) ⟨x, m, hx, hm, hu⟩
      intro pu yu H7 hpu s7 hyu lyu hy7
      have pyu : Paired (Nm g.K H7) yu (adds b.sums (b.moves q)) := adds_pd (lyu.trans lu.symm) (by rw [moves_len]; exact lu) hy7
      have m7 := m6.trans (Moved.of h6 s7)
      refine ⟨_, rfl, _, _, _, _, rfl, m7.bench.ob, T.bench, T.n3, (by show 6 < 1000; decide), ?_⟩
      have hpu0 : H pu = none := by
        cases e : H pu with
        | none => rfl
        | some o =>
          by_cases z : pu ∈ a.fp
          · rcases m6.bench.there pu with t
            have : pu ∈ ({ a with sl := pa } : Ad).fp ∨ pu = a.sl := by
              simp only [Ad.fp, List.mem_cons, List.not_mem_nil, or_false] at z ⊢
              rcases z with h | h | h | h | h | h | h <;> simp [h]
            rcases this with h | h
            · exact absurd hpu (t h)
            · rw [h] at hpu
              exact absurd hpu hold
          · rw [m6.fr.get e z] at hpu
            cases hpu
      have una : pu ∉ ({ a with sl := pa } : Ad).fp := fun z => h6.there pu z hpu
      have m8 := m7.nSums hyu hpu0 una pyu
      refine ⟨_, rfl, k _ _ pm ms m8 ?_ ?_ ?_ hpm⟩
      · show upd H7 a.p _ pm = _
        rw [upd_ne nap]
        exact s7 _ _ hms6
      · have f8 : Fr ({ a with sl := pa } : Ad).fp H7 (upd H7 a.p (.ins (BC g) a.dx (bfs { a with sl := pa, ul := pu }))) := m7.bench.wr (x := a.p) (by simp [Ad.fp])
        exact pms6.mono fun _ _ z => (z.same s7).fr f8
      · intro z
        have : pm ∈ a.fp ∨ pm = pa ∨ pm = pu := by
          simp only [Ad.fp, List.mem_cons, List.not_mem_nil, or_false] at z ⊢
          rcases z with h | h | h | h | h | h | h <;> simp [h]
        rcases this with h | h | h
        · exact pmna h
        · rw [h] at hms
          rw [hms] at hpa
          cases hpa
        · rw [h, hpu] at hms6
          cases hms6
end
end K79
end

section
/-! K79P: the series' first terms, in plain Lean. -/
namespace K79

def starts (rows : List Row) : List Rat := rows.map Row.start
/-- the second terms -/
def t1 (rows : List Row) : List Rat := solve rows fun _ r ms => moveOf (starts rows) 1 r ms
def f2 (ss ts : List Rat) (r : Row) (ms : List Rat) : Rat := match r with
  | .src _ => 0
  | .gear _ x j => x * ms.getD j 0
  | .adder _ i j => ms.getD i 0 + ms.getD j 0
  | .disc _ c t => (2 * (ss.getD c 0 * ms.getD t 0) + ts.getD c 0 * ts.getD t 0) / ((2 : Nat) : Rat)
theorem f2_leans (ss ts : List Rat) : Leans (fun _ r ms => f2 ss ts r ms) := by
  intro k r ms ms' h
  cases r with
  | src s => rfl
  | gear s x j => show x * _ = x * _; rw [getD_eq (h j (by simp [Row.drives]))]
  | adder s i j => show _ + _ = _ + _; rw [getD_eq (h i (by simp [Row.drives])), getD_eq (h j (by simp [Row.drives]))]
  | disc s c t => show (2 * (_ * _) + _) / _ = (2 * (_ * _) + _) / _; rw [getD_eq (h t (by simp [Row.drives]))]
def t2 (rows : List Row) : List Rat := solve rows fun _ r ms => f2 (starts rows) (t1 rows) r ms

/-! ### denominators -/
theorem solve_den {rows : List Row} {f : Nat → Row → List Rat → Rat} {M0 : Nat} (h0 : M0 ≠ 0)
    (hs : ∀ k r ms M, M0 ∣ M → M ≠ 0 → rows[k]? = some r → (∀ q ∈ ms, q.den ∣ M) → ∃ D, D ≠ 0 ∧ D ≤ 2 ^ 200 ∧ (f k r ms).den ∣ M * D) :
    ∀ (n : Nat) (st : List Nat), st.length = n → ∃ M, M0 ∣ M ∧ M ≠ 0 ∧ M ≤ M0 * 2 ^ (200 * n) ∧ ∀ q ∈ solveS rows f st, q.den ∣ M := by
  intro n
  induction n with
  | zero =>
    intro st hl
    have : st = [] := List.eq_nil_of_length_eq_zero hl
    subst this
    refine ⟨M0, Nat.dvd_refl _, h0, by simp, fun q hq => ?_⟩
    have hq' : q ∈ List.replicate rows.length (0 : Rat) := hq
    rw [List.eq_of_mem_replicate hq']
    exact ⟨M0, by rw [show (0 : Rat).den = 1 from rfl, Nat.one_mul]⟩
  | succ n ih =>
    intro st hl
    have hne : st ≠ [] := fun e => by rw [e] at hl; cases hl
    have hd := List.dropLast_concat_getLast hne
    generalize st.dropLast = st0 at hd
    generalize st.getLast hne = x at hd
    subst hd
    rw [List.length_append, List.length_singleton] at hl
    obtain ⟨M, d, hM, hle, hq⟩ := ih st0 (by omega)
    have e2 : 2 ^ (200 * (n + 1)) = 2 ^ (200 * n) * 2 ^ 200 := by rw [Nat.mul_add, Nat.pow_add]
    cases hr : rows[x]? with
    | none =>
      have e : solveS rows f (st0 ++ [x]) = solveS rows f st0 := by
        unfold solveS
        rw [List.foldl_append, List.foldl_cons, List.foldl_nil, hr]
      rw [e]
      refine ⟨M, d, hM, Nat.le_trans hle (Nat.mul_le_mul_left _ (Nat.pow_le_pow_right (by decide) (by omega))), hq⟩
    | some r =>
      obtain ⟨D, hD, hD2, hdv⟩ := hs x r _ M d hM hr hq
      refine ⟨M * D, Nat.dvd_trans d (Nat.dvd_mul_right _ _), Nat.mul_ne_zero hM hD, ?_, fun q hq' => ?_⟩
      · rw [e2, ← Nat.mul_assoc]
        exact Nat.mul_le_mul hle hD2
      · rw [solveS_snoc hr] at hq'
        rcases List.mem_or_eq_of_mem_set hq' with h | h
        · exact Nat.dvd_trans (hq q h) (Nat.dvd_mul_right _ _)
        · rw [h]
          exact hdv
theorem den_getD {M : Nat} {l : List Rat} (h : ∀ q ∈ l, q.den ∣ M) (i : Nat) : (l.getD i 0).den ∣ M := by
  refine mem_getD (P := fun q => q.den ∣ M) h ?_
  exact ⟨M, by rw [show (0 : Rat).den = 1 from rfl, Nat.one_mul]⟩
theorem one_den {M : Nat} : (1 : Rat).den ∣ M := ⟨M, by rw [show (1 : Rat).den = 1 from rfl, Nat.one_mul]⟩
theorem two_den {M : Nat} : (2 : Rat).den ∣ M := ⟨M, by rw [show (2 : Rat).den = 1 from rfl, Nat.one_mul]⟩
theorem zero_den {M : Nat} : (0 : Rat).den ∣ M := ⟨M, by rw [show (0 : Rat).den = 1 from rfl, Nat.one_mul]⟩
theorem starts_sz {rows : List Row} (h : ∀ r ∈ rows, r.small 200 4) : ∀ q ∈ starts rows, Sz 200 q := fun q hq => by
  obtain ⟨r, hr, rfl⟩ := List.mem_map.mp hq
  have z := h r hr
  cases r with
  | src s => exact z
  | gear s y j => exact z.1
  | adder s i j => exact z
  | disc s c t => exact z
/-- a common multiple of the second terms' denominators, at each step -/
theorem t1_den {rows : List Row} (h : ∀ r ∈ rows, r.small 200 4) (st : List Nat) : ∃ M, M ≠ 0 ∧ M ≤ 2 ^ (200 * st.length) ∧ ∀ q ∈ solveS rows (fun _ r ms => moveOf (starts rows) 1 r ms) st, q.den ∣ M := by
  refine (fun hs => ?_ : (∀ (k : Nat) (r : Row) (ms : List Rat) (M : Nat), 1 ∣ M → M ≠ 0 → rows[k]? = some r → (∀ q ∈ ms, q.den ∣ M) → ∃ D, D ≠ 0 ∧ D ≤ 2 ^ 200 ∧ (moveOf (starts rows) 1 r ms).den ∣ M * D) → _) ?_
  · obtain ⟨M, _, h1, h2, h3⟩ := solve_den (rows := rows) (f := fun _ r ms => moveOf (starts rows) 1 r ms) (M0 := 1) (by decide) hs st.length st rfl
    exact ⟨M, h1, by rw [Nat.one_mul] at h2; exact h2, h3⟩
  · intro k r ms M _ hM hr hq
    have z := h r (List.mem_of_getElem? hr)
    cases r with
    | src s => exact ⟨1, by decide, by decide, one_den⟩
    | gear s x j => exact ⟨x.den, x.den_nz, Nat.le_of_lt (z.2.mono (by decide : 4 ≤ 200)).2, by rw [Nat.mul_comm]; exact dvd_mul x.den_nz hM (Nat.dvd_refl _) (den_getD hq j)⟩
    | adder s i j => exact ⟨1, by decide, by decide, by rw [Nat.mul_one]; exact dvd_add hM (den_getD hq i) (den_getD hq j)⟩
    | disc s c t =>
      have zc : Sz 200 ((starts rows).getD c 0) := mem_getD (starts_sz h) (sz_zero.mono (by decide))
      exact ⟨((starts rows).getD c 0).den, Rat.den_nz _, Nat.le_of_lt zc.2, by rw [Nat.mul_comm]; exact dvd_mul (Rat.den_nz _) hM (Nat.dvd_refl _) (den_getD hq t)⟩
theorem half_den {a : Rat} {M : Nat} (hM : M ≠ 0) (h : a.den ∣ M) : (a / ((2 : Nat) : Rat)).den ∣ 2 * M := by
  obtain ⟨z, hz⟩ := (den_dvd hM).mp h
  have h2 : 2 * M ≠ 0 := Nat.mul_ne_zero (by decide) hM
  refine (den_dvd h2).mpr ⟨z, ?_⟩
  rw [hz, Rat.div_def, Rat.inv_def, Rat.den_natCast, Rat.num_natCast, Rat.divInt_ofNat]
  rw [Rat.mkRat_mul_mkRat, Nat.mul_comm]
  congr 1
  exact Int.mul_one z
theorem t2_den {rows : List Row} (h : ∀ r ∈ rows, r.small 200 4) {M1 : Nat} (h1 : M1 ≠ 0) (hM1 : ∀ q ∈ t1 rows, q.den ∣ M1) (st : List Nat) :
    ∃ M, M ≠ 0 ∧ M ≤ (2 * (M1 * M1)) * 2 ^ (200 * st.length) ∧ ∀ q ∈ solveS rows (fun _ r ms => f2 (starts rows) (t1 rows) r ms) st, q.den ∣ M := by
  have h11 : M1 * M1 ≠ 0 := Nat.mul_ne_zero h1 h1
  refine (fun hs => ?_ : (∀ (k : Nat) (r : Row) (ms : List Rat) (M : Nat), 2 * (M1 * M1) ∣ M → M ≠ 0 → rows[k]? = some r → (∀ q ∈ ms, q.den ∣ M) → ∃ D, D ≠ 0 ∧ D ≤ 2 ^ 200 ∧ (f2 (starts rows) (t1 rows) r ms).den ∣ M * D) → _) ?_
  · obtain ⟨M, _, g1, g2, g3⟩ := solve_den (rows := rows) (f := fun _ r ms => f2 (starts rows) (t1 rows) r ms) (M0 := 2 * (M1 * M1)) (Nat.mul_ne_zero (by decide) h11) hs st.length st rfl
    exact ⟨M, g1, g2, g3⟩
  · intro k r ms M d hM hr hq
    have z := h r (List.mem_of_getElem? hr)
    cases r with
    | src s => exact ⟨1, by decide, by decide, zero_den⟩
    | gear s x j => exact ⟨x.den, x.den_nz, Nat.le_of_lt (z.2.mono (by decide : 4 ≤ 200)).2, by rw [Nat.mul_comm]; exact dvd_mul x.den_nz hM (Nat.dvd_refl _) (den_getD hq j)⟩
    | adder s i j => exact ⟨1, by decide, by decide, by rw [Nat.mul_one]; exact dvd_add hM (den_getD hq i) (den_getD hq j)⟩
    | disc s c t =>
      have zc : Sz 200 ((starts rows).getD c 0) := mem_getD (starts_sz h) (sz_zero.mono (by decide))
      have e : f2 (starts rows) (t1 rows) (.disc s c t) ms = (starts rows).getD c 0 * ms.getD t 0 + (t1 rows).getD c 0 * (t1 rows).getD t 0 / ((2 : Nat) : Rat) := by
        show (2 * ((starts rows).getD c 0 * ms.getD t 0) + (t1 rows).getD c 0 * (t1 rows).getD t 0) / ((2 : Nat) : Rat) = _
        grind
      refine ⟨((starts rows).getD c 0).den, Rat.den_nz _, Nat.le_of_lt zc.2, ?_⟩
      show (f2 (starts rows) (t1 rows) (.disc s c t) ms).den ∣ _
      rw [e]
      have hMD : M * ((starts rows).getD c 0).den ≠ 0 := Nat.mul_ne_zero hM (Rat.den_nz _)
      refine dvd_add hMD ?_ ?_
      · rw [Nat.mul_comm]
        exact dvd_mul (Rat.den_nz _) hM (Nat.dvd_refl _) (den_getD hq t)
      · exact Nat.dvd_trans (half_den h11 (dvd_mul h1 h1 (den_getD hM1 c) (den_getD hM1 t))) (Nat.dvd_trans d (Nat.dvd_mul_right _ _))
theorem ones_of_false {n : Nat} {k : Nat} : ((List.replicate n false).getD k false) = false := by
  rw [List.getD_eq_getElem?_getD, List.getElem?_replicate]
  split <;> rfl
/-- sizes -/
theorem t1_sz {rows : List Row} (h : ∀ r ∈ rows, r.small 200 4) (st : List Nat) : ∀ x ∈ solveS rows (fun _ r ms => moveOf (starts rows) 1 r ms) st, Sz (bnd 1 st.length) x := by
  have z := moves_sz (rows := rows) (outs := List.replicate 0 false) (stood := starts rows) (q := 1) (b := 1) (by decide) h (starts_sz h) sz_one st
  have e : (fun k r ms => if (List.replicate 0 false).getD k false = true then (0 : Rat) else moveOf (starts rows) 1 r ms) = fun (_ : Nat) r ms => moveOf (starts rows) 1 r ms := by
    funext k r ms
    rw [ones_of_false, if_neg Bool.false_ne_true]
  rw [e] at z
  exact z
def bnd2 : Nat → Nat
  | 0 => 1
  | i + 1 => 2 * bnd2 i + 12700
theorem sz_two : Sz 2 2 := ⟨by decide, by decide⟩
theorem sz_half {n : Nat} {a : Rat} (h : Sz n a) : Sz (n + 2) (a / ((2 : Nat) : Rat)) := by
  have e : a / ((2 : Nat) : Rat) = a * mkRat 1 2 := by
    rw [Rat.div_def, Rat.inv_def, Rat.den_natCast, Rat.num_natCast, Rat.divInt_ofNat]
    rfl
  rw [e]
  exact h.mul (b := mkRat 1 2) ⟨by decide, by decide⟩
theorem t2_sz {rows : List Row} (h : ∀ r ∈ rows, r.small 200 4) (h5 : rows.length ≤ 5) (st : List Nat) : ∀ x ∈ solveS rows (fun _ r ms => f2 (starts rows) (t1 rows) r ms) st, Sz (bnd2 st.length) x := by
  have z1 : ∀ x ∈ t1 rows, Sz 6232 x := fun x hx => (t1_sz h (ord rows) x hx).mono (by
    have key : ∀ n, n ≤ 5 → bnd 1 n ≤ 6232 := by decide
    exact key _ (Nat.le_trans (ord_pre rows).len h5))
  have hb : ∀ i, 1 ≤ bnd2 i := fun i => by
    cases i with
    | zero => exact Nat.le_refl _
    | succ i => show 1 ≤ 2 * bnd2 i + 12700; omega
  refine solve_inv (fun i x => Sz (bnd2 i) x) sz_zero (fun i k r ms hk hms hl => ?_) (fun i x h => h.mono (by show bnd2 i ≤ 2 * bnd2 i + 12700; omega)) _ st rfl
  have hbi := hb i
  have z : Sz (bnd2 (i + 1)) 0 := sz_zero.mono (hb _)
  have zi : Sz (bnd2 i) 0 := sz_zero.mono hbi
  have hs := h r (List.mem_of_getElem? hk)
  have e : bnd2 (i + 1) = 2 * bnd2 i + 12700 := rfl
  cases r with
  | src s => exact z
  | gear s x j => rw [e]; exact (hs.2.mul (mem_getD hms zi)).mono (by omega)
  | adder s x y => rw [e]; exact ((mem_getD hms zi).add (mem_getD hms zi)).mono (by omega)
  | disc s c t =>
    rw [e]
    have q1 : Sz 6232 0 := sz_zero.mono (by decide)
    have q2 : Sz 200 0 := sz_zero.mono (by decide)
    exact (sz_half ((sz_two.mul ((mem_getD (starts_sz h) q2).mul (mem_getD hms zi))).add ((mem_getD z1 q1).mul (mem_getD z1 q1)))).mono (by omega)
end K79
end

section
/-! K79Q: the series' terms as they are found, one by one, in plain Lean. -/
namespace K79

/-- size, and the denominator's -/
def Sd (n x : Nat) (q : Rat) : Prop := Sz n q ∧ q.den < 2 ^ x
theorem Sd.mono {n x m y : Nat} {q : Rat} (h : Sd n x q) (h1 : n ≤ m) (h2 : x ≤ y) : Sd m y q := ⟨h.1.mono h1, Nat.lt_of_lt_of_le h.2 (Nat.pow_le_pow_right (by decide) h2)⟩
theorem Sd.of {n : Nat} {q : Rat} (h : Sz n q) : Sd n n q := ⟨h, h.2⟩
theorem Sd.mul {n x m y : Nat} {a b : Rat} (ha : Sd n x a) (hb : Sd m y b) : Sd (n + m) (x + y) (a * b) := by
  refine ⟨ha.1.mul hb.1, ?_⟩
  rw [Nat.pow_add]
  exact Nat.lt_of_le_of_lt (Nat.le_of_dvd (Nat.mul_pos (Rat.den_pos _) (Rat.den_pos _)) (dvd_mul (Rat.den_nz _) (Rat.den_nz _) (Nat.dvd_refl _) (Nat.dvd_refl _))) (Nat.mul_lt_mul'' ha.2 hb.2)
theorem Sd.add {n x m y : Nat} {a b : Rat} (ha : Sd n x a) (hb : Sd m y b) : Sd (n + m + 1) (x + y) (a + b) := by
  refine ⟨ha.1.add hb.1, ?_⟩
  rw [Nat.pow_add]
  exact Nat.lt_of_le_of_lt (Nat.le_of_dvd (Nat.mul_pos (Rat.den_pos _) (Rat.den_pos _)) (dvd_add (Nat.mul_ne_zero (Rat.den_nz _) (Rat.den_nz _)) (Nat.dvd_mul_right _ _) (Nat.dvd_mul_left _ _))) (Nat.mul_lt_mul'' ha.2 hb.2)
theorem Sd.fit {n x m y : Nat} {a b : Rat} (ha : Sd n x a) (hb : Sd m y b) (h : x + y ≤ 9000) (hn : n ≤ 400000) (hm : m ≤ 400000) : Fit a b := Fit.ofD ha.1 hb.1 ha.2 hb.2 h hn hm
theorem sd_zero {n x : Nat} (h : 1 ≤ n) (hx : 1 ≤ x) : Sd n x 0 := (Sd.of sz_zero).mono h hx
theorem sd_nat {k : Nat} (h : k < 4) : Sd 2 1 (k : Rat) := by
  refine ⟨⟨?_, ?_⟩, ?_⟩
  · rw [Rat.num_natCast, Int.natAbs_natCast]
    exact h
  · rw [Rat.den_natCast]
    decide
  · rw [Rat.den_natCast]
    decide

/-- the sum of a disc's term, i summands of it -/
def conv (k : Nat) (o p : List Rat) : Nat → Rat
  | 0 => 0
  | i + 1 => conv k o p i + ((k - i : Nat) : Rat) * (o.getD i 0 * p.getD (k - i) 0)
structure ConvFit (k : Nat) (o p : List Rat) : Prop where
  lo : k ≤ o.length
  lp : k < p.length
  a : ∀ i, i < k → Fit (o.getD i 0) (p.getD (k - i) 0)
  b : ∀ i, i < k → Fit ((k - i : Nat) : Rat) (o.getD i 0 * p.getD (k - i) 0)
  c : ∀ i, i < k → Fit (conv k o p i) (((k - i : Nat) : Rat) * (o.getD i 0 * p.getD (k - i) 0))
/-- a row's next term -/
def fur (k : Nat) (sers : List (List Rat)) (r : Row) : Rat := match r with
  | .src _ => if k = 1 then 1 else 0
  | .gear _ x j => x * (sers.getD j []).getD k 0
  | .adder _ i j => (sers.getD i []).getD k 0 + (sers.getD j []).getD k 0
  | .disc _ c t => conv k (sers.getD c []) (sers.getD t []) k / (k : Rat)
def FurFit (k : Nat) (sers : List (List Rat)) (r : Row) : Prop := match r with
  | .src _ => True
  | .gear _ x j => (∃ s, sers[j]? = some s ∧ k < s.length) ∧ Fit x ((sers.getD j []).getD k 0)
  | .adder _ i j => (∃ s, sers[i]? = some s ∧ k < s.length) ∧ (∃ s, sers[j]? = some s ∧ k < s.length) ∧ Fit ((sers.getD i []).getD k 0) ((sers.getD j []).getD k 0)
  | .disc _ c t => (∃ s, sers[c]? = some s) ∧ (∃ s, sers[t]? = some s) ∧ ConvFit k (sers.getD c []) (sers.getD t []) ∧ Fit (conv k (sers.getD c []) (sers.getD t []) k) (k : Rat) ∧ (conv k (sers.getD c []) (sers.getD t []) k).den * k < 2 ^ 9000
/-- the series half way: those of st have their next term -/
def stg (pre : List (List Rat)) (xs : List Rat) (st : List Nat) : List (List Rat) := (List.range pre.length).map fun i => pre.getD i [] ++ (if st.contains i then [xs.getD i 0] else [])
theorem stg_len {pre : List (List Rat)} {xs : List Rat} {st : List Nat} : (stg pre xs st).length = pre.length := by
  unfold stg
  rw [List.length_map, List.length_range]
theorem stg_at {pre : List (List Rat)} {xs : List Rat} {st : List Nat} {i : Nat} (h : i < pre.length) : (stg pre xs st)[i]? = some (pre.getD i [] ++ (if st.contains i then [xs.getD i 0] else [])) := by
  unfold stg
  rw [List.getElem?_map, List.getElem?_range h]
  rfl
theorem getD_of {α : Type} {l : List α} {i : Nat} {x d : α} (h : l[i]? = some x) : l.getD i d = x := by
  rw [List.getD_eq_getElem?_getD, h]
  rfl
theorem stg_nil {pre : List (List Rat)} {xs : List Rat} : stg pre xs [] = pre := by
  refine List.ext_getElem? fun i => ?_
  by_cases h : i < pre.length
  · rw [stg_at h]
    obtain ⟨x, hx⟩ := ex_at h
    rw [getD_of hx, hx]
    simp
  · rw [List.getElem?_eq_none (by rw [stg_len]; omega), List.getElem?_eq_none (by omega)]
theorem stg_set {pre : List (List Rat)} {xs : List Rat} {st : List Nat} {j : Nat} {v : Rat} (hj : j < xs.length) (hn : j ∉ st) (hl : xs.length = pre.length) : stg pre (xs.set j v) (st ++ [j]) = (stg pre xs st).set j (pre.getD j [] ++ [v]) := by
  refine List.ext_getElem? fun i => ?_
  by_cases h : i < pre.length
  · rw [stg_at h]
    by_cases e : j = i
    · subst e
      rw [List.getElem?_set_self (by rw [stg_len]; exact h)]
      have c : (st ++ [j]).contains j = true := by rw [List.contains_iff_mem]; simp
      rw [if_pos c, List.getD_eq_getElem?_getD (l := xs.set j v), List.getElem?_set_self hj]
      rfl
    · rw [List.getElem?_set_ne e, stg_at h]
      have c : (st ++ [j]).contains i = st.contains i := by
        rw [Bool.eq_iff_iff, List.contains_iff_mem, List.contains_iff_mem, List.mem_append, List.mem_singleton]
        exact ⟨fun z => z.elim id fun y => absurd y.symm e, .inl⟩
      rw [c, List.getD_eq_getElem?_getD (l := xs.set j v), List.getElem?_set_ne e, ← List.getD_eq_getElem?_getD]
  · rw [List.getElem?_eq_none (by rw [stg_len]; omega), List.getElem?_eq_none (by rw [List.length_set, stg_len]; omega)]
section
variable {k : Nat} {pre : List (List Rat)} {xs : List Rat} {st : List Nat}
theorem stg_in {i : Nat} (h : i < pre.length) (hs : i ∈ st) (hk : (pre.getD i []).length = k) : (stg pre xs st)[i]? = some (pre.getD i [] ++ [xs.getD i 0]) ∧ ((stg pre xs st).getD i []).getD k 0 = xs.getD i 0 ∧ k < (pre.getD i [] ++ [xs.getD i 0]).length := by
  have e := stg_at (xs := xs) (st := st) h
  rw [if_pos (List.contains_iff_mem.mpr hs)] at e
  refine ⟨e, ?_, by rw [List.length_append, hk]; simp⟩
  rw [getD_of e, List.getD_eq_getElem?_getD, List.getElem?_append_right (by omega), hk, Nat.sub_self]
  rfl
theorem stg_low {i j : Nat} (h : i < pre.length) (hk : (pre.getD i []).length = k) (hj : j < k) : ((stg pre xs st).getD i []).getD j 0 = (pre.getD i []).getD j 0 := by
  rw [getD_of (stg_at h), List.getD_eq_getElem?_getD, List.getElem?_append_left (by omega), ← List.getD_eq_getElem?_getD]
end
theorem conv1 (o p : List Rat) : conv 1 o p 1 = o.getD 0 0 * p.getD 1 0 := by
  show 0 + ((1 : Nat) : Rat) * _ = _
  have : ((1 : Nat) : Rat) = 1 := rfl
  rw [this]
  grind
theorem conv2 (o p : List Rat) : conv 2 o p 2 = 2 * (o.getD 0 0 * p.getD 2 0) + o.getD 1 0 * p.getD 1 0 := by
  show 0 + ((2 : Nat) : Rat) * (o.getD 0 0 * p.getD 2 0) + ((1 : Nat) : Rat) * (o.getD 1 0 * p.getD 1 0) = _
  have h1 : ((1 : Nat) : Rat) = 1 := rfl
  have h2 : ((2 : Nat) : Rat) = 2 := rfl
  rw [h1, h2]
  grind
theorem div_one' (a : Rat) : a / ((1 : Nat) : Rat) = a := by
  have h1 : ((1 : Nat) : Rat) = 1 := rfl
  rw [h1]
  grind
theorem conv1_fit {o p : List Rat} {n x m y : Nat} (lo : 1 ≤ o.length) (lp : 1 < p.length) (ho : Sd n x (o.getD 0 0)) (hp : Sd m y (p.getD 1 0)) (h1 : n + m + 2 ≤ 400000) (h2 : x + y + 2 ≤ 9000) : ConvFit 1 o p := by
  have a : Fit (o.getD 0 0) (p.getD 1 0) := ho.fit hp (by omega) (by omega) (by omega)
  have z := ho.mul hp
  have w := (sd_nat (k := 1) (by decide)).mul z
  refine ⟨lo, lp, fun i hi => ?_, fun i hi => ?_, fun i hi => ?_⟩ <;> (have e : i = 0 := by omega) <;> subst e
  · exact a
  · exact (sd_nat (by decide)).fit z (by omega) (by omega) (by omega)
  · exact (sd_zero (n := 1) (x := 1) (by decide) (by decide)).fit w (by omega) (by omega) (by omega)
theorem conv2_fit {o p : List Rat} {n x m y n' x' m' y' : Nat} (lo : 2 ≤ o.length) (lp : 2 < p.length) (ho : Sd n x (o.getD 0 0)) (hp : Sd m y (p.getD 2 0)) (ho' : Sd n' x' (o.getD 1 0)) (hp' : Sd m' y' (p.getD 1 0))
    (h1 : n + m + 4 ≤ 400000) (h2 : x + y + x' + y' + 4 ≤ 9000) (h3 : n' + m' + 2 ≤ 400000) : ConvFit 2 o p ∧ Sd (n + m + n' + m' + 7) (x + y + x' + y' + 3) (conv 2 o p 2) := by
  have z := ho.mul hp
  have w := (sd_nat (k := 2) (by decide)).mul z
  have z' := ho'.mul hp'
  have w' := (sd_nat (k := 1) (by decide)).mul z'
  have c1 : Sd (1 + (2 + (n + m)) + 1) (1 + (1 + (x + y))) (conv 2 o p 1) := (sd_zero (n := 1) (x := 1) (by decide) (by decide)).add w
  have c2 := c1.add w'
  refine ⟨⟨lo, lp, fun i hi => ?_, fun i hi => ?_, fun i hi => ?_⟩, c2.mono (by omega) (by omega)⟩
  · rcases (show i = 0 ∨ i = 1 by omega) with e | e <;> subst e
    · exact ho.fit hp (by omega) (by omega) (by omega)
    · exact ho'.fit hp' (by omega) (by omega) (by omega)
  · rcases (show i = 0 ∨ i = 1 by omega) with e | e <;> subst e
    · exact (sd_nat (k := 2) (by decide)).fit z (by omega) (by omega) (by omega)
    · exact (sd_nat (k := 1) (by decide)).fit z' (by omega) (by omega) (by omega)
  · rcases (show i = 0 ∨ i = 1 by omega) with e | e <;> subst e
    · exact (sd_zero (n := 1) (x := 1) (by decide) (by decide)).fit w (by omega) (by omega) (by omega)
    · exact c1.fit w' (by omega) (by omega) (by omega)

/-! ### the two stages -/
def pre1 (rows : List Row) : List (List Rat) := rows.map fun r => [r.start]
def pre2 (rows : List Row) : List (List Rat) := (List.range rows.length).map fun i => [(starts rows).getD i 0, (t1 rows).getD i 0]
def pre3 (rows : List Row) : List (List Rat) := (List.range rows.length).map fun i => [(starts rows).getD i 0, (t1 rows).getD i 0, (t2 rows).getD i 0]
section
variable {rows : List Row} (h : ∀ r ∈ rows, r.small 200 4) (h5 : rows.length ≤ 5)
theorem starts_at {rows : List Row} {i : Nat} {r : Row} (e : rows[i]? = some r) : (starts rows).getD i 0 = r.start := by
  unfold starts
  rw [List.getD_eq_getElem?_getD, List.getElem?_map, e]
  rfl
theorem pre1_at {rows : List Row} {i : Nat} (hi : i < rows.length) : (pre1 rows).getD i [] = [(starts rows).getD i 0] := by
  obtain ⟨r, e⟩ := ex_at hi
  rw [starts_at e]
  unfold pre1
  rw [List.getD_eq_getElem?_getD, List.getElem?_map, e]
  rfl
theorem pre2_at {rows : List Row} {i : Nat} (hi : i < rows.length) : (pre2 rows).getD i [] = [(starts rows).getD i 0, (t1 rows).getD i 0] := by
  unfold pre2
  rw [List.getD_eq_getElem?_getD, List.getElem?_map, List.getElem?_range hi]
  rfl
theorem t1_len : (t1 rows).length = rows.length := solve_len
theorem t2_len : (t2 rows).length = rows.length := solve_len
include h in
theorem t1_all : ∀ x ∈ t1 rows, rows.length ≤ 5 → Sz 6232 x := fun x hx h5 => (t1_sz h (ord rows) x hx).mono (by
    have key : ∀ n, n ≤ 5 → bnd 1 n ≤ 6232 := by decide
    exact key _ (Nat.le_trans (ord_pre rows).len h5))
include h h5 in
theorem t1_sd : ∀ x ∈ t1 rows, Sd 6232 1001 x := fun x hx => by
  obtain ⟨M, hM, hle, hd⟩ := t1_den h (ord rows)
  refine ⟨t1_all h x hx h5, ?_⟩
  refine Nat.lt_of_le_of_lt (Nat.le_of_dvd (Nat.pos_of_ne_zero hM) (hd x hx)) (Nat.lt_of_le_of_lt hle ?_)
  have := (ord_pre rows).len
  exact Nat.pow_lt_pow_right (by decide) (by omega)
theorem bnd2_le : ∀ n, n ≤ 5 → bnd2 n ≤ 393732 := by decide
include h h5 in
theorem t2_sd (st : List Nat) (hst : st.length ≤ 5) : ∀ x ∈ solveS rows (fun _ r ms => f2 (starts rows) (t1 rows) r ms) st, Sd (bnd2 st.length) 3002 x := fun x hx => by
  obtain ⟨M1, hM1, hle1, hd1⟩ := t1_den h (ord rows)
  obtain ⟨M, hM, hle, hd⟩ := t2_den h hM1 hd1 st
  refine ⟨t2_sz h h5 st x hx, ?_⟩
  refine Nat.lt_of_le_of_lt (Nat.le_of_dvd (Nat.pos_of_ne_zero hM) (hd x hx)) (Nat.lt_of_le_of_lt hle ?_)
  have := (ord_pre rows).len
  have l1 : M1 ≤ 2 ^ 1000 := Nat.le_trans hle1 (Nat.pow_le_pow_right (by decide) (by omega))
  have l2 : 2 ^ (200 * st.length) ≤ 2 ^ 1000 := Nat.pow_le_pow_right (by decide) (by omega)
  refine Nat.lt_of_le_of_lt (Nat.mul_le_mul (Nat.mul_le_mul_left 2 (Nat.mul_le_mul l1 l1)) l2) ?_
  rw [← Nat.pow_add, show (2 : Nat) * 2 ^ (1000 + 1000) = 2 ^ (1 + (1000 + 1000)) from by rw [Nat.pow_add 2 1], ← Nat.pow_add]
  exact Nat.pow_lt_pow_right (by decide) (by decide)
theorem step_pre {i j : Nat} {r : Row} (hj : (ord rows)[i]? = some j) (hr : rows[j]? = some r) : ∀ d ∈ r.drives, d ∈ (ord rows).take i ∧ d < rows.length := fun d hd => by
  have m := (ord_pre rows).dr i j hj r hr d hd
  exact ⟨m, (ord_pre rows).lt d (List.mem_of_mem_take m)⟩
theorem pre1_len : (pre1 rows).length = rows.length := List.length_map ..
theorem pre2_len : (pre2 rows).length = rows.length := by unfold pre2; rw [List.length_map, List.length_range]
include h h5 in
/-- the second terms, one further -/
theorem fur_1 {i j : Nat} {r : Row} (m : ∀ (i : Nat) (x : Row), rows[i]? = some x → x.In rows.length) (hj : (ord rows)[i]? = some j) (hr : rows[j]? = some r) {xs : List Rat} (hx : xs = solveS rows (fun _ r ms => moveOf (starts rows) 1 r ms) ((ord rows).take i)) :
    FurFit 1 (stg (pre1 rows) xs ((ord rows).take i)) r ∧ fur 1 (stg (pre1 rows) xs ((ord rows).take i)) r = moveOf (starts rows) 1 r xs := by
  have dr := step_pre hj hr
  have il : i ≤ 4 := by
    have h1 := (List.getElem?_eq_some_iff.mp hj).1
    have h2 := (ord_pre rows).len
    omega
  have zx : ∀ x ∈ xs, Sz 3216 x := fun x hxx => by
    subst hx
    refine (t1_sz h _ x hxx).mono ?_
    have key : ∀ n, n ≤ 4 → bnd 1 n ≤ 3216 := by decide
    refine key _ ?_
    rw [List.length_take]
    omega
  have zxd : ∀ d, Sz 3216 (xs.getD d 0) := fun d => mem_getD zx (sz_zero.mono (by decide))
  have zs : ∀ d, Sz 200 ((starts rows).getD d 0) := fun d => mem_getD (starts_sz h) (sz_zero.mono (by decide))
  have sin : ∀ d, d ∈ (ord rows).take i → d < rows.length → _ := fun d hd hl => stg_in (k := 1) (pre := pre1 rows) (xs := xs) (st := (ord rows).take i) (i := d) (by rw [pre1_len]; exact hl) hd (by rw [pre1_at hl]; rfl)
  have hsm := h r (List.mem_of_getElem? hr)
  have hin := m j r hr
  cases r with
  | src s => exact ⟨True.intro, rfl⟩
  | gear s x d =>
    obtain ⟨d1, d2⟩ := dr d (by simp [Row.drives])
    obtain ⟨e1, e2, e3⟩ := sin d d1 d2
    refine ⟨⟨⟨_, e1, e3⟩, ?_⟩, ?_⟩
    · rw [e2]
      exact Fit.of hsm.2 (zxd d) (by decide)
    · show x * _ = x * _
      rw [e2]
  | adder s d d' =>
    obtain ⟨d1, d2⟩ := dr d (by simp [Row.drives])
    obtain ⟨e1, e2, e3⟩ := sin d d1 d2
    obtain ⟨d1', d2'⟩ := dr d' (by simp [Row.drives])
    obtain ⟨e1', e2', e3'⟩ := sin d' d1' d2'
    refine ⟨⟨⟨_, e1, e3⟩, ⟨_, e1', e3'⟩, ?_⟩, ?_⟩
    · rw [e2, e2']
      exact Fit.of (zxd d) (zxd d') (by decide)
    · show _ + _ = _ + _
      rw [e2, e2']
  | disc s c t =>
    obtain ⟨d1, d2⟩ := dr t (by simp [Row.drives])
    obtain ⟨e1, e2, e3⟩ := sin t d1 d2
    have hc : c < rows.length := hin.1
    have c0 : ((stg (pre1 rows) xs ((ord rows).take i)).getD c []).getD 0 0 = (starts rows).getD c 0 := by
      rw [stg_low (k := 1) (by rw [pre1_len]; exact hc) (by rw [pre1_at hc]; rfl) (by decide), pre1_at hc]
      rfl
    have ec := stg_at (pre := pre1 rows) (xs := xs) (st := (ord rows).take i) (i := c) (by rw [pre1_len]; exact hc)
    have lc : 1 ≤ ((stg (pre1 rows) xs ((ord rows).take i)).getD c []).length := by
      rw [getD_of ec, List.length_append, pre1_at hc]
      simp
    have lt : 1 < ((stg (pre1 rows) xs ((ord rows).take i)).getD t []).length := by
      rw [getD_of e1]
      exact e3
    have cf := conv1_fit (o := (stg (pre1 rows) xs ((ord rows).take i)).getD c []) (p := (stg (pre1 rows) xs ((ord rows).take i)).getD t []) (n := 200) (x := 200) (m := 3216) (y := 3216) lc lt (by rw [c0]; exact Sd.of (zs c)) (by rw [e2]; exact Sd.of (zxd t)) (by decide) (by decide)
    have zz : Sz 3416 ((starts rows).getD c 0 * xs.getD t 0) := ((zs c).mul (zxd t)).mono (by decide)
    refine ⟨⟨⟨_, ec⟩, ⟨_, e1⟩, cf, ?_, ?_⟩, ?_⟩
    · rw [conv1, c0, e2]
      exact (Sd.of zz).fit (sd_nat (k := 1) (by decide)) (by decide) (by decide) (by decide)
    · rw [conv1, c0, e2, Nat.mul_one]
      have z2 := zz.2
      exact Nat.lt_of_lt_of_le z2 (Nat.pow_le_pow_right (by decide) (by decide))
    · show conv 1 _ _ 1 / _ = _ * _
      rw [div_one', conv1, c0, e2]
include h h5 in
/-- the third terms, one further -/
theorem fur_2 {i j : Nat} {r : Row} (m : ∀ (i : Nat) (x : Row), rows[i]? = some x → x.In rows.length) (hj : (ord rows)[i]? = some j) (hr : rows[j]? = some r) {xs : List Rat} (hx : xs = solveS rows (fun _ r ms => f2 (starts rows) (t1 rows) r ms) ((ord rows).take i)) :
    FurFit 2 (stg (pre2 rows) xs ((ord rows).take i)) r ∧ fur 2 (stg (pre2 rows) xs ((ord rows).take i)) r = f2 (starts rows) (t1 rows) r xs := by
  have dr := step_pre hj hr
  have il : i ≤ 4 := by
    have h1 := (List.getElem?_eq_some_iff.mp hj).1
    have h2 := (ord_pre rows).len
    omega
  have zx : ∀ x ∈ xs, Sd 190516 3002 x := fun x hxx => by
    subst hx
    have hl : ((ord rows).take i).length ≤ 4 := by
      rw [List.length_take]
      omega
    refine (t2_sd h h5 _ (by omega) x hxx).mono ?_ (Nat.le_refl _)
    have key : ∀ n, n ≤ 4 → bnd2 n ≤ 190516 := by decide
    exact key _ hl
  have zxd : ∀ d, Sd 190516 3002 (xs.getD d 0) := fun d => mem_getD zx (sd_zero (by decide) (by decide))
  have zs : ∀ d, Sz 200 ((starts rows).getD d 0) := fun d => mem_getD (starts_sz h) (sz_zero.mono (by decide))
  have z1 : ∀ d, Sd 6232 1001 ((t1 rows).getD d 0) := fun d => mem_getD (t1_sd h h5) (sd_zero (by decide) (by decide))
  have sin : ∀ d, d ∈ (ord rows).take i → d < rows.length → _ := fun d hd hl => stg_in (k := 2) (pre := pre2 rows) (xs := xs) (st := (ord rows).take i) (i := d) (by rw [pre2_len]; exact hl) hd (by rw [pre2_at hl]; rfl)
  have hsm := h r (List.mem_of_getElem? hr)
  have hin := m j r hr
  cases r with
  | src s => exact ⟨True.intro, rfl⟩
  | gear s x d =>
    obtain ⟨d1, d2⟩ := dr d (by simp [Row.drives])
    obtain ⟨e1, e2, e3⟩ := sin d d1 d2
    refine ⟨⟨⟨_, e1, e3⟩, ?_⟩, ?_⟩
    · rw [e2]
      exact (Sd.of hsm.2).fit (zxd d) (by decide) (by decide) (by decide)
    · show x * _ = x * _
      rw [e2]
  | adder s d d' =>
    obtain ⟨d1, d2⟩ := dr d (by simp [Row.drives])
    obtain ⟨e1, e2, e3⟩ := sin d d1 d2
    obtain ⟨d1', d2'⟩ := dr d' (by simp [Row.drives])
    obtain ⟨e1', e2', e3'⟩ := sin d' d1' d2'
    refine ⟨⟨⟨_, e1, e3⟩, ⟨_, e1', e3'⟩, ?_⟩, ?_⟩
    · rw [e2, e2']
      exact (zxd d).fit (zxd d') (by decide) (by decide) (by decide)
    · show _ + _ = _ + _
      rw [e2, e2']
  | disc s c t =>
    obtain ⟨d1, d2⟩ := dr t (by simp [Row.drives])
    obtain ⟨e1, e2, e3⟩ := sin t d1 d2
    have hc : c < rows.length := hin.1
    have lowc : ∀ y, y < 2 → ((stg (pre2 rows) xs ((ord rows).take i)).getD c []).getD y 0 = [(starts rows).getD c 0, (t1 rows).getD c 0].getD y 0 := fun y hy => by
      rw [stg_low (k := 2) (by rw [pre2_len]; exact hc) (by rw [pre2_at hc]; rfl) hy, pre2_at hc]
    have lowt : ∀ y, y < 2 → ((stg (pre2 rows) xs ((ord rows).take i)).getD t []).getD y 0 = [(starts rows).getD t 0, (t1 rows).getD t 0].getD y 0 := fun y hy => by
      rw [stg_low (k := 2) (by rw [pre2_len]; exact d2) (by rw [pre2_at d2]; rfl) hy, pre2_at d2]
    have c0 := lowc 0 (by decide)
    have c1 := lowc 1 (by decide)
    have t1' := lowt 1 (by decide)
    have ec := stg_at (pre := pre2 rows) (xs := xs) (st := (ord rows).take i) (i := c) (by rw [pre2_len]; exact hc)
    have lc : 2 ≤ ((stg (pre2 rows) xs ((ord rows).take i)).getD c []).length := by
      rw [getD_of ec, List.length_append, pre2_at hc]
      simp
    have lt : 2 < ((stg (pre2 rows) xs ((ord rows).take i)).getD t []).length := by
      rw [getD_of e1]
      exact e3
    obtain ⟨cf, sd⟩ := conv2_fit (o := (stg (pre2 rows) xs ((ord rows).take i)).getD c []) (p := (stg (pre2 rows) xs ((ord rows).take i)).getD t []) (n := 200) (x := 200) (m := 190516) (y := 3002) (n' := 6232) (x' := 1001) (m' := 6232) (y' := 1001) lc lt
      (by rw [c0]; exact Sd.of (zs c)) (by rw [e2]; exact zxd t) (by rw [c1]; exact z1 c) (by rw [t1']; exact z1 t) (by decide) (by decide) (by decide)
    refine ⟨⟨⟨_, ec⟩, ⟨_, e1⟩, cf, ?_, ?_⟩, ?_⟩
    · exact sd.fit (sd_nat (k := 2) (by decide)) (by decide) (by decide) (by decide)
    · have := sd.2
      refine Nat.lt_of_lt_of_le (Nat.mul_lt_mul_of_pos_right this (by decide)) ?_
      rw [← Nat.pow_succ]
      exact Nat.pow_le_pow_right (by decide) (by decide)
    · show conv 2 _ _ 2 / _ = (2 * (_ * _) + _ * _) / _
      rw [conv2, c0, e2, c1, t1']
      rfl
end
end K79
end

section
/-! K79Q2: the law's terms agree with the series, in plain Lean. -/
namespace K79
def term (k : Nat) (sers : List (List Rat)) (r : Row) : Rat := match r with
  | .src _ => if k = 1 then 1 else 0
  | .gear _ x j => (k : Rat) * (x * (sers.getD j []).getD k 0)
  | .adder _ i j => (k : Rat) * ((sers.getD i []).getD k 0 + (sers.getD j []).getD k 0)
  | .disc _ c t => conv k (sers.getD c []) (sers.getD t []) k
def TermFit (k : Nat) (sers : List (List Rat)) (r : Row) : Prop := match r with
  | .src _ => True
  | .gear _ x j => (∃ s, sers[j]? = some s ∧ k < s.length) ∧ Fit x ((sers.getD j []).getD k 0) ∧ Fit (k : Rat) (x * (sers.getD j []).getD k 0)
  | .adder _ i j => (∃ s, sers[i]? = some s ∧ k < s.length) ∧ (∃ s, sers[j]? = some s ∧ k < s.length) ∧ Fit ((sers.getD i []).getD k 0) ((sers.getD j []).getD k 0) ∧ Fit (k : Rat) ((sers.getD i []).getD k 0 + (sers.getD j []).getD k 0)
  | .disc _ c t => (∃ s, sers[c]? = some s) ∧ (∃ s, sers[t]? = some s) ∧ ConvFit k (sers.getD c []) (sers.getD t [])
section
variable {rows : List Row}
theorem pre3_at {i : Nat} (hi : i < rows.length) : (pre3 rows)[i]? = some [(starts rows).getD i 0, (t1 rows).getD i 0, (t2 rows).getD i 0] := by
  unfold pre3
  rw [List.getElem?_map, List.getElem?_range hi]
  rfl
theorem t1_fix (m : Mach rows) {i : Nat} {r : Row} (hr : rows[i]? = some r) : (t1 rows).getD i 0 = moveOf (starts rows) 1 r (t1 rows) := by
  have z := solve_fix (f := fun _ r ms => moveOf (starts rows) 1 r ms) (moveOf_leans (starts rows) 1) m hr
  rw [List.getD_eq_getElem?_getD]
  show (solve rows _)[i]?.getD 0 = _
  rw [z]
  rfl
theorem t2_fix (m : Mach rows) {i : Nat} {r : Row} (hr : rows[i]? = some r) : (t2 rows).getD i 0 = f2 (starts rows) (t1 rows) r (t2 rows) := by
  have z := solve_fix (f := fun _ r ms => f2 (starts rows) (t1 rows) r ms) (f2_leans (starts rows) (t1 rows)) m hr
  rw [List.getD_eq_getElem?_getD]
  show (solve rows _)[i]?.getD 0 = _
  rw [z]
  rfl
variable (h : ∀ r ∈ rows, r.small 200 4) (h5 : rows.length ≤ 5) (m : Mach rows)
include h h5 m
theorem t2_all : ∀ d, Sd 393732 3002 ((t2 rows).getD d 0) := fun d => mem_getD (P := Sd 393732 3002) (fun x hx => by
  have hl := (ord_pre rows).len
  exact (t2_sd h h5 (ord rows) (by omega) x hx).mono (bnd2_le _ (by omega)) (Nat.le_refl _)) (sd_zero (by decide) (by decide))
theorem t1_alls : ∀ d, Sd 6232 1001 ((t1 rows).getD d 0) := fun d => mem_getD (t1_sd h h5) (sd_zero (by decide) (by decide))
theorem starts_all : ∀ d, Sz 200 ((starts rows).getD d 0) := fun d => mem_getD (starts_sz h) (sz_zero.mono (by decide))
theorem term_1 {i : Nat} {r : Row} (hr : rows[i]? = some r) : TermFit 1 (pre3 rows) r ∧ term 1 (pre3 rows) r = (t1 rows).getD i 0 := by
  have hin := m.inn i r hr
  have hsm := h r (List.mem_of_getElem? hr)
  have fx := t1_fix m hr
  have z1 := t1_alls h h5 m
  have zs := starts_all h h5 m
  have one : ∀ a : Rat, ((1 : Nat) : Rat) * a = a := fun a => by
    have : ((1 : Nat) : Rat) = 1 := rfl
    rw [this]
    grind
  cases r with
  | src s => exact ⟨True.intro, fx.symm⟩
  | gear s x d =>
    have e := pre3_at (rows := rows) (i := d) hin
    have fx' : (t1 rows).getD i 0 = x * (t1 rows).getD d 0 := fx
    have g1 : ((pre3 rows).getD d []).getD 1 0 = (t1 rows).getD d 0 := by rw [getD_of e]; rfl
    refine ⟨⟨⟨_, e, by simp⟩, ?_, ?_⟩, ?_⟩
    · rw [g1]
      exact (Sd.of hsm.2).fit (z1 d) (by decide) (by decide) (by decide)
    · rw [g1, ← fx']
      exact (sd_nat (k := 1) (by decide)).fit (z1 i) (by decide) (by decide) (by decide)
    · show ((1 : Nat) : Rat) * (x * _) = _
      rw [g1, one, fx']
  | adder s d d' =>
    have e := pre3_at (rows := rows) (i := d) hin.1
    have e' := pre3_at (rows := rows) (i := d') hin.2
    have fx' : (t1 rows).getD i 0 = (t1 rows).getD d 0 + (t1 rows).getD d' 0 := fx
    have g1 : ((pre3 rows).getD d []).getD 1 0 = (t1 rows).getD d 0 := by rw [getD_of e]; rfl
    have g1' : ((pre3 rows).getD d' []).getD 1 0 = (t1 rows).getD d' 0 := by rw [getD_of e']; rfl
    refine ⟨⟨⟨_, e, by simp⟩, ⟨_, e', by simp⟩, ?_, ?_⟩, ?_⟩
    · rw [g1, g1']
      exact (z1 d).fit (z1 d') (by decide) (by decide) (by decide)
    · rw [g1, g1', ← fx']
      exact (sd_nat (k := 1) (by decide)).fit (z1 i) (by decide) (by decide) (by decide)
    · show ((1 : Nat) : Rat) * (_ + _) = _
      rw [g1, g1', one, fx']
  | disc s c t =>
    have ec := pre3_at (rows := rows) (i := c) hin.1
    have et := pre3_at (rows := rows) (i := t) hin.2
    have fx' : (t1 rows).getD i 0 = (starts rows).getD c 0 * (t1 rows).getD t 0 := fx
    have gc : ((pre3 rows).getD c []).getD 0 0 = (starts rows).getD c 0 := by rw [getD_of ec]; rfl
    have gt : ((pre3 rows).getD t []).getD 1 0 = (t1 rows).getD t 0 := by rw [getD_of et]; rfl
    refine ⟨⟨⟨_, ec⟩, ⟨_, et⟩, ?_⟩, ?_⟩
    · exact conv1_fit (n := 200) (x := 200) (m := 6232) (y := 1001) (by rw [getD_of ec]; simp) (by rw [getD_of et]; simp) (by rw [gc]; exact Sd.of (zs c)) (by rw [gt]; exact z1 t) (by decide) (by decide)
    · show conv 1 _ _ 1 = _
      rw [conv1, gc, gt, fx']
theorem term_2 {i : Nat} {r : Row} (hr : rows[i]? = some r) : TermFit 2 (pre3 rows) r ∧ term 2 (pre3 rows) r = ((2 : Nat) : Rat) * (t2 rows).getD i 0 := by
  have hin := m.inn i r hr
  have hsm := h r (List.mem_of_getElem? hr)
  have fx := t2_fix m hr
  have z1 := t1_alls h h5 m
  have z2 := t2_all h h5 m
  have zs := starts_all h h5 m
  cases r with
  | src s =>
    refine ⟨True.intro, ?_⟩
    have fx' : (t2 rows).getD i 0 = 0 := fx
    rw [fx', Rat.mul_zero]
    rfl
  | gear s x d =>
    have e := pre3_at (rows := rows) (i := d) hin
    have fx' : (t2 rows).getD i 0 = x * (t2 rows).getD d 0 := fx
    have g1 : ((pre3 rows).getD d []).getD 2 0 = (t2 rows).getD d 0 := by rw [getD_of e]; rfl
    refine ⟨⟨⟨_, e, by simp⟩, ?_, ?_⟩, ?_⟩
    · rw [g1]
      exact (Sd.of hsm.2).fit (z2 d) (by decide) (by decide) (by decide)
    · rw [g1, ← fx']
      exact (sd_nat (k := 2) (by decide)).fit (z2 i) (by decide) (by decide) (by decide)
    · show ((2 : Nat) : Rat) * (x * _) = _
      rw [g1, fx']
  | adder s d d' =>
    have e := pre3_at (rows := rows) (i := d) hin.1
    have e' := pre3_at (rows := rows) (i := d') hin.2
    have fx' : (t2 rows).getD i 0 = (t2 rows).getD d 0 + (t2 rows).getD d' 0 := fx
    have g1 : ((pre3 rows).getD d []).getD 2 0 = (t2 rows).getD d 0 := by rw [getD_of e]; rfl
    have g1' : ((pre3 rows).getD d' []).getD 2 0 = (t2 rows).getD d' 0 := by rw [getD_of e']; rfl
    refine ⟨⟨⟨_, e, by simp⟩, ⟨_, e', by simp⟩, ?_, ?_⟩, ?_⟩
    · rw [g1, g1']
      exact (z2 d).fit (z2 d') (by decide) (by decide) (by decide)
    · rw [g1, g1', ← fx']
      exact (sd_nat (k := 2) (by decide)).fit (z2 i) (by decide) (by decide) (by decide)
    · show ((2 : Nat) : Rat) * (_ + _) = _
      rw [g1, g1', fx']
  | disc s c t =>
    have ec := pre3_at (rows := rows) (i := c) hin.1
    have et := pre3_at (rows := rows) (i := t) hin.2
    have fx' : (t2 rows).getD i 0 = (2 * ((starts rows).getD c 0 * (t2 rows).getD t 0) + (t1 rows).getD c 0 * (t1 rows).getD t 0) / ((2 : Nat) : Rat) := fx
    have gc0 : ((pre3 rows).getD c []).getD 0 0 = (starts rows).getD c 0 := by rw [getD_of ec]; rfl
    have gc1 : ((pre3 rows).getD c []).getD 1 0 = (t1 rows).getD c 0 := by rw [getD_of ec]; rfl
    have gt1 : ((pre3 rows).getD t []).getD 1 0 = (t1 rows).getD t 0 := by rw [getD_of et]; rfl
    have gt2 : ((pre3 rows).getD t []).getD 2 0 = (t2 rows).getD t 0 := by rw [getD_of et]; rfl
    refine ⟨⟨⟨_, ec⟩, ⟨_, et⟩, ?_⟩, ?_⟩
    · exact (conv2_fit (n := 200) (x := 200) (m := 393732) (y := 3002) (n' := 6232) (x' := 1001) (m' := 6232) (y' := 1001) (by rw [getD_of ec]; simp) (by rw [getD_of et]; simp) (by rw [gc0]; exact Sd.of (zs c)) (by rw [gt2]; exact z2 t) (by rw [gc1]; exact z1 c) (by rw [gt1]; exact z1 t) (by decide) (by decide) (by decide)).1
    · show conv 2 _ _ 2 = _
      rw [conv2, gc0, gc1, gt1, gt2, fx']
      have h2 : ((2 : Nat) : Rat) = 2 := rfl
      rw [h2]
      grind
end
end K79
end

section
set_option linter.all false
set_option maxRecDepth 100000
set_option maxHeartbeats 4000000
/-! K79S: the series' defs. -/
namespace K79
open PySem PySem.Spec PyProof.Rows L2

section
variable {g : G}
/-- one shaft's series so far -/
def Ser (K : PySem.W.Frag) (H : Hp) (v : V) (s : List Rat) : Prop := ∃ l ws, v = .ref l ∧ H l = some (.lst ws) ∧ Paired (Nm K H) ws s
theorem Ser.same {K : PySem.W.Frag} {H H' : Hp} {v : V} {q : List Rat} (s : Same H H') (h : Ser K H v q) : Ser K H' v q := let ⟨l, ws, e, h1, h2⟩ := h; ⟨l, ws, e, s _ _ h1, h2.mono fun _ _ z => z.same s⟩
theorem one_nm (T : Txt g) {H : Hp} : Nm g.K H (.ref (He.ga g.K "ONE")) 1 := ⟨_, rfl, T.oneT H⟩
theorem int_cast (n : Nat) : ((n : Int) : Rat) = ((n : Nat) : Rat) := by
  rw [← Rat.intCast_natCast]
/-- a number of a list -/
theorem ser_get {K : PySem.W.Frag} {H : Hp} {ws : List V} {s : List Rat} {i : Nat} (p : Paired (Nm K H) ws s) (h : i < s.length) : ∃ v, ws[i]? = some v ∧ Nm K H v (s.getD i 0) := by
  obtain ⟨q, hq⟩ := ex_at h
  obtain ⟨v, hv, n⟩ := Pd.get p hq
  exact ⟨v, hv, by rw [getD_of hq]; exact n⟩
def spAlong (K : PySem.W.Frag) : Sp := fun vs H Q _ => ∃ (v w : V) (o p : List Rat) (k : Nat), vs = [v, w, .int k] ∧ Ser K H v o ∧ Ser K H w p ∧ 0 < k ∧ k < 1000 ∧ ConvFit k o p ∧ Fit (conv k o p k) (k : Rat) ∧ (conv k o p k).den * k < 2 ^ 9000 ∧ ∀ u H', Same H H' → Nm K H' u (conv k o p k / (k : Rat)) → Q u H'
abbrev s_term_along : Stmt := top 48
theorem sc_term_along : FnScope ["one", "other", "k", "found", "i"] ["one", "other", "k"] (defScope s_term_along) := ⟨rfl, rfl, rfl, by decide +kernel, rfl, by decide +kernel, by decide +kernel⟩
theorem ok_term_along (T : TxB g) (F : Def g "term_along" s_term_along ["one", "other", "k"]) (G_times : Has g CX0 3 "times" ["one", "other"] (spTimes g.K)) (G_plus : Has g CX0 3 "plus" ["one", "other"] (spPlus g.K))
    (G_over : Has g CX0 3 "over" ["one", "other"] (spOver g.K)) (G_whole : Has g CX0 1 "whole" ["n"] (spWhole g.K)) : Has g CX0 4 "term_along" ["one", "other", "k"] (spAlong g.K) := by
  refine F.ok sc_term_along (fun vs H Q E h => ?_) (fun f cdv A outer s H vs Q E hr h => ?_)
  · obtain ⟨v, w, o, p, k, rfl, _⟩ := h
    rfl
  · obtain ⟨v, w, o, p, k, rfl, ho, hp, hk0, hk, cf, ft, fd, kk⟩ := h
    refine ⟨_, (pss_cons (ps_set (i := 3) sc_term_along.nd rfl (Or.inl rfl) (pe_glob rfl T.nought (v := .ref (He.ga g.K "NOUGHT")) rfl))
      (pss_cons (ps_for PassesOwn.never rfl (pi_range1 (by rfl) T.range (pa_cons (pv 2) pa_nil)) (pg_name (i := 4) sc_term_along.nd rfl (Or.inl rfl))
      (pss_one (ps_set (i := 3) sc_term_along.nd rfl (Or.inl rfl) (pe_has G_plus hr (by decide) pass0 (pa_cons (pv 3) (pa_cons (pe_has G_times hr (by decide) pass0 (pa_cons (pe_has G_whole hr (by decide) pass0 (pa_cons (pe_op op_sub (pv 2) (pv 4)) pa_nil)) (pa_cons (pe_has G_times hr (by decide) pass0 (pa_cons (pe_ix (ix_listK (K := g.K)) (pv 0) (pv 4) (fun _ _ => rfl)) (pa_cons (pe_ix (ix_listK (K := g.K)) (pv 1) (pe_op op_sub (pv 2) (pv 4)) (fun _ _ => rfl)) pa_nil))) pa_nil))) pa_nil))))))
      (pss_one (ps_ret (pe_has G_over hr (by decide) pass0 (pa_cons (pv 3) (pa_cons (pe_has G_whole hr (by decide) pass0 (pa_cons (pv 2) pa_nil)) pa_nil))))))), ?_⟩
    obtain ⟨l1, w1, rfl, h1, p1⟩ := ho
    obtain ⟨l2, w2, rfl, h2, p2⟩ := hp
    refine ⟨_, rfl, _, rfl, by omega, by omega, for_it (walk_range (lo := 0) (n := _))
      (fun i σ H' => ∃ sh u, σ = [some (.ref l1), some (.ref l2), some (.int k), some u, sh] ∧ Same H H' ∧ Nm g.K H' u (conv k o p i)) ⟨none, _, rfl, Same.refl _, nought_nm T.toTxt⟩ (fun _ _ _ _ _ => True.intro) ?_ ?_⟩
    · rintro i x σ H3 H4 hi ⟨sh, u, rfl, s3, nu⟩ ⟨rfl, hx⟩
      obtain rfl := range_at hx
      have hik : i < k := by rw [Int.toNat_natCast] at hi; exact hi
      obtain ⟨v1, e1, n1⟩ := ser_get (i := i) p1 (by have := cf.lo; omega)
      obtain ⟨v2, e2, n2⟩ := ser_get (i := k - i) p2 (by have := cf.lp; omega)
      have eki : (k : Int) - (i : Int) = ((k - i : Nat) : Int) := by omega
      refine ⟨_, rfl, _, rfl, _, rfl, _, _, rfl, rfl, _, rfl, fun x1 H5 s5 nx1 => ?_⟩
      refine ⟨_, rfl, _, rfl, _, _, _, _, rfl, rfl, SqL.of (s5 _ _ (s3 _ _ h1)), atI_nat e1, _, rfl, _, rfl, _, rfl, _, _, rfl, rfl, _, _, _, _, rfl, rfl, SqL.of (s5 _ _ (s3 _ _ h2)), by rw [eki]; exact atI_nat e2,
        v1, v2, _, _, rfl, n1.same (s3.trans s5), n2.same (s3.trans s5), cf.a i hik, fun x2 H6 s6 nx2 => ?_⟩
      rw [eki, int_cast] at nx1
      refine ⟨x1, x2, _, _, rfl, nx1.same s6, nx2, cf.b i hik, fun x3 H7 s7 nx3 => ?_⟩
      refine ⟨u, x3, _, _, rfl, (nu.same (s5.trans s6)).same s7, nx3, cf.c i hik, fun x4 H8 s8 nx4 => ?_⟩
      exact ⟨_, _, rfl, s3.trans (s5.trans (s6.trans (s7.trans s8))), nx4⟩
    · rintro σ H3 ⟨sh, u, rfl, s3, nu⟩
      rw [Int.toNat_natCast] at nu
      refine ⟨_, rfl, _, rfl, _, rfl, fun x1 H5 s5 nx1 => ?_⟩
      rw [int_cast] at nx1
      exact ⟨u, x1, _, k, rfl, nu.same s5, nx1, hk0, by omega, ft, fd, fun x2 H6 s6 nx2 => kk _ _ (s3.trans (s5.trans s6)) nx2⟩
def spFurther (K : PySem.W.Frag) : Sp := fun vs H Q _ => ∃ (v : V) (fo : Addr) (k : Nat) (r : Row) (ls : List V) (sers : List (List Rat)), vs = [v, .ref fo, .int k] ∧ Rw K H v r ∧ H fo = some (.lst ls) ∧ Paired (Ser K H) ls sers ∧ 0 < k ∧ k < 1000 ∧ FurFit k sers r ∧
  ∀ u H', Same H H' → Nm K H' u (fur k sers r) → Q u H'
abbrev s_further_term : Stmt := top 50
theorem sc_further_term : FnScope ["row", "series", "k"] ["row", "series", "k"] (defScope s_further_term) := ⟨rfl, rfl, rfl, by decide +kernel, rfl, by decide +kernel, by decide +kernel⟩
theorem ok_further_term (T : TxB g) (F : Def g "further_term" s_further_term ["row", "series", "k"]) (G_times : Has g CX0 3 "times" ["one", "other"] (spTimes g.K)) (G_plus : Has g CX0 3 "plus" ["one", "other"] (spPlus g.K))
    (G_term_along : Has g CX0 4 "term_along" ["one", "other", "k"] (spAlong g.K)) : Has g CX0 5 "further_term" ["row", "series", "k"] (spFurther g.K) := by
  refine F.ok sc_further_term (fun vs H Q E h => ?_) (fun f cdv A outer s H vs Q E hr h => ?_)
  · obtain ⟨v, fo, k, r, ls, sers, rfl, _⟩ := h
    rfl
  · obtain ⟨v, fo, k, r, ls, sers, rfl, hv, hfo, ps, hk0, hk, ff, kk⟩ := h
    refine ⟨_, (pss_cons (ps_if (pt_cmpR op_eq (pe_ix (ix_tupK (K := g.K)) (pv 0) pe_int (fun _ _ => rfl)) pe_str (nomark _)) (pss_one (ps_ret (pe_ifExp (pt_cmpR op_eq (pv 2) pe_int (nomark _)) (pe_glob rfl T.one (v := .ref (He.ga g.K "ONE")) rfl) (pe_glob rfl T.nought (v := .ref (He.ga g.K "NOUGHT")) rfl)))) pss_nil)
      (pss_cons (ps_if (pt_cmpR op_eq (pe_ix (ix_tupK (K := g.K)) (pv 0) pe_int (fun _ _ => rfl)) pe_str (nomark _)) (pss_one (ps_ret (pe_has G_times hr (by decide) pass0 (pa_cons (pe_ix (ix_tupK (K := g.K)) (pv 0) pe_int (fun _ _ => rfl)) (pa_cons (pe_ix (ix_listK (K := g.K)) (pe_ix (ix_listK (K := g.K)) (pv 1) (pe_ix (ix_tupK (K := g.K)) (pv 0) pe_int (fun _ _ => rfl)) (fun _ _ => rfl)) (pv 2) (fun _ _ => rfl)) pa_nil))))) pss_nil)
      (pss_cons (ps_if (pt_cmpR op_eq (pe_ix (ix_tupK (K := g.K)) (pv 0) pe_int (fun _ _ => rfl)) pe_str (nomark _)) (pss_one (ps_ret (pe_has G_plus hr (by decide) pass0 (pa_cons (pe_ix (ix_listK (K := g.K)) (pe_ix (ix_listK (K := g.K)) (pv 1) (pe_ix (ix_tupK (K := g.K)) (pv 0) pe_int (fun _ _ => rfl)) (fun _ _ => rfl)) (pv 2) (fun _ _ => rfl)) (pa_cons (pe_ix (ix_listK (K := g.K)) (pe_ix (ix_listK (K := g.K)) (pv 1) (pe_ix (ix_tupK (K := g.K)) (pv 0) pe_int (fun _ _ => rfl)) (fun _ _ => rfl)) (pv 2) (fun _ _ => rfl)) pa_nil))))) pss_nil)
      (pss_one (ps_ret (pe_has G_term_along hr (by decide) pass0 (pa_cons (pe_ix (ix_listK (K := g.K)) (pv 1) (pe_ix (ix_tupK (K := g.K)) (pv 0) pe_int (fun _ _ => rfl)) (fun _ _ => rfl)) (pa_cons (pe_ix (ix_listK (K := g.K)) (pv 1) (pe_ix (ix_tupK (K := g.K)) (pv 0) pe_int (fun _ _ => rfl)) (fun _ _ => rfl)) (pa_cons (pv 2) pa_nil))))))))), ?_⟩
    cases hv with
    | src t hx =>
      refine ⟨_, rfl, _, _, _, _, rfl, rfl, t, rfl, rfl, _, rfl, iteT ⟨_, rfl, rfl, _, rfl, ?_⟩⟩
      by_cases e : k = 1
      · subst e
        exact iteT (kk _ _ (Same.refl _) (one_nm T.toTxt))
      · rw [decide_eq_false (fun z => e (by cases z; rfl) : ¬ V.int (k : Int) = .int 1)]
        refine iteF (kk _ _ (Same.refl _) ?_)
        show Nm _ _ _ (if k = 1 then 1 else 0)
        rw [if_neg e]
        exact nought_nm T.toTxt
    | @gear a x y s0 r0 j t hx hy =>
      obtain ⟨⟨ser, hj, hkl⟩, fit⟩ := ff
      obtain ⟨vj, hvj, l, ws, rfl, hl, pw⟩ := Pd.get ps hj
      obtain ⟨vq, hvq, nq⟩ := ser_get pw hkl
      rw [getD_of hj] at fit
      refine ⟨_, rfl, _, _, _, _, rfl, rfl, t, rfl, rfl, _, rfl, iteF ?_⟩
      refine ⟨_, rfl, _, _, _, _, rfl, rfl, t, rfl, rfl, _, rfl, iteT ?_⟩
      refine ⟨_, rfl, _, _, _, _, rfl, rfl, t, rfl, _, rfl, _, rfl, _, _, _, _, rfl, rfl, t, rfl, _, _, _, _, rfl, rfl, SqL.of hfo, atI_nat hvj, _, rfl, _, _, _, _, rfl, rfl, SqL.of hl, atI_nat hvq, y, vq, _, _, rfl, hy, nq, fit, fun u H' s1 hu => ?_⟩
      refine kk u H' s1 ?_
      show Nm g.K H' u (r0 * (sers.getD j []).getD k 0)
      rw [getD_of hj]
      exact hu
    | @adder a x s0 i j t hx =>
      obtain ⟨⟨seri, hi, hkli⟩, ⟨ser, hj, hkl⟩, fit⟩ := ff
      obtain ⟨vi, hvi, li, wsi, rfl, hli, pwi⟩ := Pd.get ps hi
      obtain ⟨vqi, hvqi, nqi⟩ := ser_get pwi hkli
      obtain ⟨vj, hvj, l, ws, rfl, hl, pw⟩ := Pd.get ps hj
      obtain ⟨vq, hvq, nq⟩ := ser_get pw hkl
      rw [getD_of hi, getD_of hj] at fit
      refine ⟨_, rfl, _, _, _, _, rfl, rfl, t, rfl, rfl, _, rfl, iteF ?_⟩
      refine ⟨_, rfl, _, _, _, _, rfl, rfl, t, rfl, rfl, _, rfl, iteF ?_⟩
      refine ⟨_, rfl, _, _, _, _, rfl, rfl, t, rfl, rfl, _, rfl, iteT ?_⟩
      refine ⟨_, rfl, _, rfl, _, _, _, _, rfl, rfl, t, rfl, _, _, _, _, rfl, rfl, SqL.of hfo, atI_nat hvi, _, rfl, _, _, _, _, rfl, rfl, SqL.of hli, atI_nat hvqi,
        _, rfl, _, rfl, _, _, _, _, rfl, rfl, t, rfl, _, _, _, _, rfl, rfl, SqL.of hfo, atI_nat hvj, _, rfl, _, _, _, _, rfl, rfl, SqL.of hl, atI_nat hvq, vqi, vq, _, _, rfl, nqi, nq, fit, fun u H' s1 hu => ?_⟩
      refine kk u H' s1 ?_
      show Nm g.K H' u ((sers.getD i []).getD k 0 + (sers.getD j []).getD k 0)
      rw [getD_of hi, getD_of hj]
      exact hu
    | @disc a x s0 i j t hx =>
      obtain ⟨⟨seri, hi⟩, ⟨ser, hj⟩, cf, fit, fd⟩ := ff
      obtain ⟨vi, hvi, sri⟩ := Pd.get ps hi
      obtain ⟨vj, hvj, srj⟩ := Pd.get ps hj
      rw [getD_of hi, getD_of hj] at cf fit fd
      refine ⟨_, rfl, _, _, _, _, rfl, rfl, t, rfl, rfl, _, rfl, iteF ?_⟩
      refine ⟨_, rfl, _, _, _, _, rfl, rfl, t, rfl, rfl, _, rfl, iteF ?_⟩
      refine ⟨_, rfl, _, _, _, _, rfl, rfl, t, rfl, rfl, _, rfl, iteF ?_⟩
      refine ⟨_, rfl, _, rfl, _, _, _, _, rfl, rfl, t, rfl, _, _, _, _, rfl, rfl, SqL.of hfo, atI_nat hvi,
        _, rfl, _, rfl, _, _, _, _, rfl, rfl, t, rfl, _, _, _, _, rfl, rfl, SqL.of hfo, atI_nat hvj, _, rfl, vi, vj, _, _, k, rfl, sri, srj, hk0, hk, cf, fit, fd, fun u H' s1 hu => ?_⟩
      refine kk u H' s1 ?_
      show Nm g.K H' u (conv k (sers.getD i []) (sers.getD j []) k / (k : Rat))
      rw [getD_of hi, getD_of hj]
      exact hu
/-- all series in a list of lists -/
structure Sers (K : PySem.W.Frag) (H : Hp) (fo : Addr) (ls : List V) (sers : List (List Rat)) : Prop where
  o : H fo = some (.lst ls)
  p : Paired (Ser K H) ls sers
  nd : ls.Nodup
  ne : V.ref fo ∉ ls
theorem Sers.same {K : PySem.W.Frag} {H H' : Hp} {fo : Addr} {ls : List V} {sers : List (List Rat)} (s : Same H H') (h : Sers K H fo ls sers) : Sers K H' fo ls sers := ⟨s _ _ h.o, h.p.mono fun _ _ z => z.same s, h.nd, h.ne⟩
theorem Sers.push {K : PySem.W.Frag} {H : Hp} {fo l : Addr} {ls : List V} {sers : List (List Rat)} {j : Nat} {ws : List V} {s : List Rat} {u : V} {q : Rat} (h : Sers K H fo ls sers) (hj : ls[j]? = some (.ref l)) (hs : sers[j]? = some s) (hl : H l = some (.lst ws)) (pw : Paired (Nm K H) ws s) (hu : Nm K H u q) :
    Sers K (upd H l (.lst (ws ++ [u]))) fo ls (sers.set j (s ++ [q])) := by
  have fr : Fr [l] H (upd H l (.lst (ws ++ [u]))) := Fr.wr hl nz_lst (by simp)
  have nl : fo ≠ l := fun z => h.ne (by rw [z]; exact List.mem_of_getElem? hj)
  refine ⟨by rw [upd_ne nl]; exact h.o, pd_of (by rw [List.length_set]; exact h.p.length) fun i y hi => ?_, h.nd, h.ne⟩
  obtain ⟨x, e, l', ws', rfl, hl', pw'⟩ := Pd.getV h.p hi
  by_cases z : j = i
  · subst z
    rw [hj] at hi
    cases hi
    refine ⟨s ++ [q], List.getElem?_set_self (List.getElem?_eq_some_iff.mp hs).1, l, ws ++ [u], rfl, upd_same, ?_⟩
    exact Paired.snoc (pw.mono fun _ _ z => z.fr fr) (hu.fr fr)
  · refine ⟨x, by rw [List.getElem?_set_ne z]; exact e, l', ws', rfl, ?_, pw'.mono fun _ _ z => z.fr fr⟩
    have : l' ≠ l := fun e2 => by
      subst e2
      have h1 := (List.getElem?_eq_some_iff.mp hj)
      have h2 := (List.getElem?_eq_some_iff.mp hi)
      exact z ((List.getElem_inj h.nd (h₀ := h1.1) (h₁ := h2.1)).mp (h1.2.trans h2.2.symm))
    rw [upd_ne this]
    exact hl'
def spSeries (K : PySem.W.Frag) : Sp := fun vs H Q _ => ∃ (m : Addr) (rows : List Row), vs = [.ref m, .int 3] ∧ RwL K H m rows ∧ Mach rows ∧ rows.length ≤ 5 ∧ (∀ r ∈ rows, r.small 200 4) ∧
  ∀ p H' ls, Same H H' → H p = none → H' p = some (.lst ls) → Paired (Ser K H') ls (pre3 rows) → Q (.ref p) H'
abbrev s_series_of : Stmt := top 51
theorem sc_series_of : FnScope ["machine", "many", "order", "found", "k", "shaft", "row"] ["machine", "many"] (defScope s_series_of) := ⟨rfl, rfl, rfl, by decide +kernel, rfl, by decide +kernel, by decide +kernel⟩
theorem solveS_all {rows : List Row} {f : Nat → Row → List Rat → Rat} : solveS rows f ((ord rows).take (ord rows).length) = solve rows f := by
  rw [List.take_length]
  rfl
theorem stg_full {rows : List Row} (m : Mach rows) {pre : List (List Rat)} {xs : List Rat} (hp : pre.length = rows.length) : stg pre xs (ord rows) = (List.range rows.length).map fun i => pre.getD i [] ++ [xs.getD i 0] := by
  unfold stg
  rw [hp]
  refine List.map_congr_left fun i hi => ?_
  rw [if_pos (List.contains_iff_mem.mpr (m.mem (List.mem_range.mp hi)))]
theorem stg_1 {rows : List Row} (m : Mach rows) : stg (pre1 rows) (t1 rows) (ord rows) = pre2 rows := by
  rw [stg_full m pre1_len]
  refine List.map_congr_left fun i hi => ?_
  rw [pre1_at (List.mem_range.mp hi)]
  rfl
theorem stg_2 {rows : List Row} (m : Mach rows) : stg (pre2 rows) (t2 rows) (ord rows) = pre3 rows := by
  rw [stg_full m pre2_len]
  refine List.map_congr_left fun i hi => ?_
  rw [pre2_at (List.mem_range.mp hi)]
  rfl
/-- a stage of the series: what the k-th has and what it makes -/
structure Stage (rows : List Row) (k : Nat) (pre : List (List Rat)) (f : Nat → Row → List Rat → Rat) : Prop where
  pl : pre.length = rows.length
  go : ∀ (i j : Nat) (r : Row), (ord rows)[i]? = some j → rows[j]? = some r → FurFit k (stg pre (solveS rows f ((ord rows).take i)) ((ord rows).take i)) r ∧ fur k (stg pre (solveS rows f ((ord rows).take i)) ((ord rows).take i)) r = f j r (solveS rows f ((ord rows).take i))
theorem ok_series_of (T : TxB g) (F : Def g "series_of" s_series_of ["machine", "many"]) (G_order_of : Has g CX0 3 "order_of" ["machine"] (spOrder g.K)) (G_further_term : Has g CX0 5 "further_term" ["row", "series", "k"] (spFurther g.K)) :
    Has g CX0 6 "series_of" ["machine", "many"] (spSeries g.K) := by
  refine F.ok sc_series_of (fun vs H Q E h => ?_) (fun f cdv A outer s H vs Q E hr h => ?_)
  · obtain ⟨m, rows, rfl, _⟩ := h
    rfl
  · obtain ⟨m, rows, rfl, hm, mach, h5, hz, kk⟩ := h
    refine ⟨_, (pss_cons (ps_set (i := 2) sc_series_of.nd rfl (Or.inl rfl) (pe_has G_order_of hr (by decide) pass0 (pa_cons (pv 0) pa_nil)))
      (pss_cons (ps_setLc (i := 3) (own := [("row", 6)]) (g := gName 6) (tt := tYes) rfl sc_series_of.nd rfl rfl (sw_true rfl rfl rfl (by decide +kernel)) (pi_list (pv 0)) (blkOk_by (own := [("row", 6)]) (N := ["machine", "many", "order", "found", "k", "shaft", "row"]) (sc := defScope s_series_of) (by decide +kernel)) (fun _ _ _ _ _ => (pg_name (i := 6) sc_series_of.nd rfl (Or.inl rfl))) (fun _ _ _ _ _ => pts_nil) (fun _ _ _ _ _ => (pe_lst (pa_cons (pe_ix (ix_tupK (K := g.K)) (pv 6) pe_int (fun _ _ => rfl)) pa_nil))))
      (pss_cons (ps_for PassesOwn.never rfl (pi_range2 (by rfl) T.range (pa_cons pe_int (pa_cons (pv 1) pa_nil))) (pg_name (i := 4) sc_series_of.nd rfl (Or.inl rfl))
      (pss_one (ps_for PassesOwn.never rfl (pi_list (pv 2)) (pg_name (i := 5) sc_series_of.nd rfl (Or.inl rfl))
      (pss_one (ps_expr (pe_bm PySem.F.plainAttrs_list PySem.F.slot_list_append PySem.F.type_list_append mt_append (pe_ix (ix_listK (K := g.K)) (pv 3) (pv 5) (fun _ _ => rfl)) (pa_cons (pe_has G_further_term hr (by decide) pass0 (pa_cons (pe_ix (ix_listK (K := g.K)) (pv 0) (pv 5) (fun _ _ => rfl)) (pa_cons (pv 3) (pa_cons (pv 4) pa_nil)))) pa_nil)))))))
      (pss_one (ps_ret (pv 3)))))), ?_⟩
    have st1 : Stage rows 1 (pre1 rows) (fun _ r ms => moveOf (starts rows) 1 r ms) := ⟨pre1_len, fun i j r hj hr => fur_1 hz h5 mach.inn hj hr rfl⟩
    have st2 : Stage rows 2 (pre2 rows) (fun _ r ms => f2 (starts rows) (t1 rows) r ms) := ⟨pre2_len, fun i j r hj hr => fur_2 hz h5 mach.inn hj hr rfl⟩
    have hord := ord_pre rows
    refine ⟨_, rfl, m, rows, rfl, hm, by omega, fun po H1 s1 hpo0 hpo => ?_⟩
    obtain ⟨us, hm0, pm0⟩ := hm.ex
    have hm1 := s1 _ _ hm0
    have pm1 := pm0.mono fun _ _ z => Rw.same s1 z
    have lm := pm0.length
    refine ⟨_, rfl, _, rfl, ⟨_, SqL.of hm1⟩, fun D hD => lc_it (walk_list (K := g.K) (a := m) (xs := us))
      (fun i H' => ∃ ys, Same H1 H' ∧ H' D = some (.lst ys) ∧ ys.length = i ∧ ys.Nodup ∧ V.ref D ∉ ys ∧ (∀ l, V.ref l ∈ ys → H1 l = none) ∧ ∀ (n : Nat) (y : V), ys[n]? = some y → ∃ r, rows[n]? = some r ∧ Ser g.K H' y [r.start])
      ⟨[], same_new hD, upd_same, rfl, List.nodup_nil, (fun z => nomatch z), (fun l z => nomatch z), fun n y hy => by simp at hy⟩ (fun i H' _ ⟨_, s, _⟩ => SqL.of (s _ _ hm1)) ?_ ?_⟩
    · rintro i x H2 H3 hi ⟨ys, s2, hys, hyl, hnd, hne, hfr, hy⟩ ⟨rfl, hx⟩
      obtain ⟨r, hr2, rw2⟩ := Pd.getV pm1 hx
      obtain ⟨ar, z, x0, l, rfl, tr, nm⟩ := (rw2.same s2).start1
      refine ⟨rfl, _, rfl, _, _, _, _, rfl, rfl, tr, atI_nat (j := 1) rfl, (by show 1 ≤ sizeLine; decide), fun t ht => ?_⟩
      have s3 := same_new (o := .lst [x0]) ht
      have htD : t ≠ D := fun e => by
        rw [e, hys] at ht
        cases ht
      have hys3 := s3 _ _ hys
      refine ⟨ys, hys3, small1000 (by omega), ys ++ [.ref t], fun b o e => ?_, upd_same, by rw [List.length_append, hyl]; rfl, ?_, ?_, fun l hl => ?_, fun n y hn => ?_⟩
      · rw [upd_ne (ne_of_none e hD)]
        exact s3 _ _ (s2 _ _ e)
      · rw [List.nodup_append]
        refine ⟨hnd, by simp, fun a ha b hb => ?_⟩
        rw [List.mem_singleton.mp hb]
        intro e
        subst e
        obtain ⟨n, hn⟩ := List.mem_iff_getElem?.mp ha
        obtain ⟨_, _, l', ws, e1, e2, _⟩ := hy n _ hn
        cases e1
        rw [ht] at e2
        cases e2
      · intro e
        rcases List.mem_append.mp e with e | e
        · exact hne e
        · cases List.mem_singleton.mp e
          exact htD rfl
      · rcases List.mem_append.mp hl with e | e
        · exact hfr l e
        · cases List.mem_singleton.mp e
          cases e2 : H1 t with
          | none => rfl
          | some o => rw [s2 _ _ e2] at ht; cases ht
      · have keep : ∀ {v : V} {q : List Rat}, v ≠ .ref D → Ser g.K (upd H3 t (.lst [x0])) v q → Ser g.K (upd (upd H3 t (.lst [x0])) D (.lst (ys ++ [.ref t]))) v q := by
          rintro v q hv ⟨l', ws, rfl, e2, e3⟩
          have : l' ≠ D := fun z => hv (by rw [z])
          exact ⟨l', ws, rfl, by rw [upd_ne this]; exact e2, e3.mono fun _ _ z => z.but hys3 (fun b o e hb => by rw [upd_ne hb]; exact e)⟩
        by_cases hlt : n < ys.length
        · rw [List.getElem?_append_left hlt] at hn
          obtain ⟨r', e1, e2⟩ := hy n y hn
          exact ⟨r', e1, keep (fun z => hne (z ▸ List.mem_of_getElem? hn)) (e2.same s3)⟩
        · rw [List.getElem?_append_right (by omega)] at hn
          have hn0 : n - ys.length = 0 := by
            have := (List.getElem?_eq_some_iff.mp hn).1
            simp at this
            omega
          rw [hn0] at hn
          cases hn
          have : n = i := by omega
          subst this
          exact ⟨r, hr2, keep (fun z => htD (by cases z; rfl)) ⟨t, [x0], rfl, upd_same, .cons (nm.same s3) .nil⟩⟩
    · rintro H2 ⟨ys, s2, hys, hyl, hnd, hne, hfr, hy⟩
      have s12 := s1.trans s2
      have S0 : Sers g.K H2 D ys (pre1 rows) := ⟨hys, pd_map (hyl.trans lm) hy, hnd, hne⟩
      have hD0 : H D = none := by
        cases e : H D with
        | none => rfl
        | some o => rw [s1 _ _ e] at hD; cases hD
      have dl : ∀ l, V.ref l ∈ ys → H l = none := fun l hl => by
        cases e : H l with
        | none => rfl
        | some o =>
          have z := hfr l hl
          rw [s1 _ _ e] at z
          cases z
      let P : Nat → List (List Rat) := fun i => match i with | 0 => pre1 rows | 1 => pre2 rows | _ => pre3 rows
      have stages : ∀ i, i < 2 → ∃ f, Stage rows (i + 1) (P i) f ∧ stg (P i) (solve rows f) (ord rows) = P (i + 1) ∧ ∀ j, j < rows.length → ((P i).getD j []).length ≤ 2 := fun i hi => by
        rcases (show i = 0 ∨ i = 1 by omega) with e | e <;> subst e
        · exact ⟨_, st1, stg_1 mach, fun j hj => by show ((pre1 rows).getD j []).length ≤ 2; rw [pre1_at hj]; simp⟩
        · exact ⟨_, st2, stg_2 mach, fun j hj => by show ((pre2 rows).getD j []).length ≤ 2; rw [pre2_at hj]; simp⟩
      refine ⟨_, rfl, _, _, rfl, ⟨by decide, by decide, by decide, by decide⟩, for_it (walk_range (lo := 1) (n := 2))
        (fun i σ H' => ∃ x1 x2, σ = [some (.ref m), some (.int 3), some (.ref po), some (.ref D), x1, x2, none] ∧ Same H H' ∧ H' po = some (.lst (nV (ord rows))) ∧ Sers g.K H' D ys (P i))
        ⟨none, none, rfl, s12, s2 _ _ hpo, S0⟩ (fun _ _ _ _ _ => True.intro) ?_ ?_⟩
      · rintro i x σ H3 H4 hi ⟨x1, x2, rfl, s3, h3, S3⟩ ⟨rfl, hx⟩
        obtain ⟨f, stage, hend, hlen2⟩ := stages i hi
        have ek : x = .int ((i + 1 : Nat) : Int) := by
          rw [hx]
          show V.int (1 + (i : Int)) = _
          rw [show (1 : Int) + (i : Int) = ((i + 1 : Nat) : Int) from by omega]
        subst ek
        refine ⟨_, rfl, _, rfl, ⟨_, SqL.of h3⟩, for_it (walk_list (K := g.K) (a := po) (xs := nV (ord rows)))
          (fun n σ H' => ∃ x2, σ = [some (.ref m), some (.int 3), some (.ref po), some (.ref D), some (.int ((i + 1 : Nat) : Int)), x2, none] ∧ Same H H' ∧ H' po = some (.lst (nV (ord rows))) ∧ Sers g.K H' D ys (stg (P i) (solveS rows f ((ord rows).take n)) ((ord rows).take n)))
          ⟨x2, rfl, s3, h3, by rw [List.take_zero, stg_nil]; exact S3⟩ (fun n σ H' _ ⟨_, _, _, h, _⟩ => SqL.of h) ?_ ?_⟩
        · rintro n x σ H5 H6 hn ⟨x2, rfl, s5, h5', S5⟩ ⟨rfl, hx⟩
          obtain ⟨j, hj, rfl⟩ := nV_get hx
          have hjl : j < rows.length := hord.lt j (List.mem_of_getElem? hj)
          obtain ⟨r, hr1⟩ := ex_at hjl
          obtain ⟨vr, hvr, rwr⟩ := Pd.get pm0 hr1
          obtain ⟨ff, fe⟩ := stage.go n j r hj hr1
          have hjn : j ∉ (ord rows).take n := nodup_not_take hord.nd hj
          have hjp : j < (P i).length := by rw [stage.pl]; exact hjl
          have hsj := stg_at (pre := P i) (xs := solveS rows f ((ord rows).take n)) (st := (ord rows).take n) hjp
          rw [if_neg (by simpa using hjn), List.append_nil] at hsj
          obtain ⟨vl, hvl, l, ws, rfl, hl, pw⟩ := Pd.get S5.p hsj
          refine ⟨_, rfl, _, rfl, _, _, _, _, rfl, rfl, SqL.of S5.o, atI_nat hvl, .inl ⟨rfl, _, .inl (.inl hl)⟩, ?_⟩
          refine ⟨_, rfl, _, rfl, _, _, _, _, rfl, rfl, SqL.of (s5 _ _ hm0), atI_nat hvr, _, rfl, _, rfl, vr, D, i + 1, r, ys, _, rfl, rwr.same s5, S5.o, S5.p, Nat.succ_pos _, by omega, ff, fun u H7 s7 hu => ?_⟩
          have S7 := S5.same s7
          have hl7 := s7 _ _ hl
          have lenw : ws.length < sizeLine := by
            rw [pw.length]
            exact small1000 (Nat.le_trans (hlen2 j hjl) (by decide))
          refine ⟨l, ws, u, rfl, rfl, hl7, lenw, _, rfl, fun b o e => ?_, ?_, ?_⟩
          · have : b ≠ l := fun z => by
              rw [z, dl l (List.mem_of_getElem? hvl)] at e
              cases e
            rw [upd_ne this]
            exact s7 _ _ (s5 _ _ e)
          · have : po ≠ l := fun z => by
              have := hfr l (List.mem_of_getElem? hvl)
              rw [← z, hpo] at this
              cases this
            rw [upd_ne this]
            exact s7 _ _ h5'
          · rw [fe] at hu
            have S8 := S7.push hvl hsj hl7 (pw.mono fun _ _ z => z.same s7) hu
            rw [take_snoc hj, solveS_snoc hr1, stg_set (by rw [solveS_len]; exact hjl) hjn (by rw [solveS_len]; exact stage.pl.symm)]
            exact S8
        · rintro σ H5 ⟨x2, rfl, s5, h5', S5⟩
          rw [nV_len, solveS_all, List.take_length, hend] at S5
          exact ⟨_, _, rfl, s5, h5', S5⟩
      · rintro σ H3 ⟨x1, x2, rfl, s3, h3, S3⟩
        exact ⟨_, rfl, kk D H3 ys s3 hD0 S3.o S3.p⟩
end
end K79
end

section
set_option linter.all false
set_option maxRecDepth 100000
set_option maxHeartbeats 4000000
/-! K79W1: the law's bag and its numbers. -/
namespace K79
open PySem PySem.Spec PyProof.Rows L2

section
variable {g : G}
/-- the bag, k takes at most from it -/
def Bag (H : Hp) (p : Addr) (k : Nat) : Prop := ∃ a b c : Int, H p = some (.lst [.int a, .int b, .int c]) ∧ 0 ≤ a ∧ 0 ≤ b ∧ b < 8589934592 ∧ 0 ≤ c ∧ c ≤ k
theorem Bag.same {H H' : Hp} {p : Addr} {k : Nat} (s : Same H H') (h : Bag H p k) : Bag H' p k := let ⟨a, b, c, e, r⟩ := h; ⟨a, b, c, s _ _ e, r⟩
theorem Bag.fr {F : List Addr} {H H' : Hp} {p : Addr} {k : Nat} (s : Fr F H H') (h : Bag H p k) (n : p ∉ F) : Bag H' p k := let ⟨a, b, c, e, r⟩ := h; ⟨a, b, c, s.get e n, r⟩
theorem Bag.mono {H : Hp} {p : Addr} {k k' : Nat} (h : Bag H p k) (l : k ≤ k') : Bag H p k' := let ⟨a, b, c, e, h1, h2, h3, h4, h5⟩ := h; ⟨a, b, c, e, h1, h2, h3, h4, by omega⟩
theorem Bag.nz {H : Hp} {p : Addr} {k : Nat} (h : Bag H p k) : ∀ o, H p = some o → ¬ Fz o := fun o ho => by
  obtain ⟨a, b, c, e, _⟩ := h
  rw [e] at ho
  cases ho
  exact nz_lst
theorem small01 (b : Bool) : -(2 : Int) ^ 64 < (if b = true then (1 : Int) else 0) ∧ (if b = true then (1 : Int) else 0) < (2 : Int) ^ 64 := by
  cases b <;> decide
theorem ite_dec {p : Prop} [Decidable p] : (if decide p = true then (1 : Int) else 0) = if p then 1 else 0 := by
  by_cases h : p
  · rw [if_pos h, decide_eq_true h, if_pos rfl]
  · rw [if_neg h, decide_eq_false h, if_neg Bool.false_ne_true]
def spBag (K : PySem.W.Frag) : Sp := fun vs H Q _ => ∃ (a : Addr) (ns : List Int) (i : Nat), vs = [.ref a, .int i] ∧ SqL K H a (ns.map V.int) ∧ i < 3 ∧ ∀ p H', Same H H' → H p = none → Bag H' p 0 → Q (.ref p) H'
abbrev s__law_bag : Stmt := top 53
theorem sc__law_bag : FnScope ["_law_script", "_law_at", "_law_cell"] ["_law_script", "_law_at"] (defScope s__law_bag) := ⟨rfl, rfl, rfl, by decide +kernel, rfl, by decide +kernel, by decide +kernel⟩
theorem ok_law_bag (T : TxB g) (F : Def g "_law_bag" s__law_bag ["_law_script", "_law_at"]) : Has g CX0 1 "_law_bag" ["_law_script", "_law_at"] (spBag g.K) := by
  refine F.ok sc__law_bag (fun vs H Q E h => ?_) (fun f cdv A outer s H vs Q E hr h => ?_)
  · obtain ⟨a, ns, i, rfl, _⟩ := h
    rfl
  · obtain ⟨a, ns, i, rfl, ha, hi, k⟩ := h
    refine ⟨_, (pss_cons (ps_set (i := 2) sc__law_bag.nd rfl (Or.inl rfl) (pe_op op_add (pe_op op_mul pe_int (pv 1)) pe_int))
      (pss_cons (ps_if (pt_cmpR op_lt (pv 1) (pe_callB (call_lenK (K := g.K)) (by rfl) T.len PySem.boot_len (pa_cons (pv 0) pa_nil)) (nomark _)) (pss_one (ps_set (i := 2) sc__law_bag.nd rfl (Or.inl rfl) (pe_ix (ix_listK (K := g.K)) (pv 0) (pv 1) (fun _ _ => rfl)))) pss_nil)
      (pss_one (ps_ret (pe_lst (pa_cons (pe_op op_mul (pe_callB call_abs (by rfl) T.abs (by decide +kernel) (pa_cons (pv 2) pa_nil)) (pe_callTy call_int1 (by rfl) T.int (by decide +kernel) (pa_cons (pe_cmpR op_ge (pe_callB call_abs (by rfl) T.abs (by decide +kernel) (pa_cons (pv 2) pa_nil)) (pe_op op_pow pe_int pe_int) (nomark _)) pa_nil))) (pa_cons (pe_op op_add (pe_op op_mod (pv 2) pe_int) (pe_op op_mul pe_int (pv 1))) (pa_cons pe_int pa_nil)))))))), ?_⟩
    have fin : ∀ (c : Int) (p : Addr), H p = none → Q (.ref p) (upd H p (.lst [.int ((c.natAbs : Int) * (if (10 : Int) ^ (18 : Int).toNat ≤ (c.natAbs : Int) then 1 else 0)), .int (c % 2147483587 + 40009 * (i : Int)), .int 0])) := fun c p hp => by
      refine k p _ (same_new hp) hp ⟨_, _, _, upd_same, ?_, ?_, ?_, by decide, by decide⟩
      · split <;> omega
      · have := Int.emod_nonneg c (show (2147483587 : Int) ≠ 0 by decide)
        omega
      · have := Int.emod_lt_of_pos c (show (0 : Int) < 2147483587 by decide)
        omega
    refine ⟨_, rfl, _, _, rfl, rfl, .inl ⟨by decide, by decide⟩, _, _, rfl, rfl, ?_⟩
    refine ⟨_, rfl, _, rfl, _, _, rfl, .inl ha, _, _, rfl, rfl, _, rfl, ?_⟩
    rw [List.length_map]
    by_cases hl : (i : Int) < (ns.length : Int)
    · rw [decide_eq_true hl]
      obtain ⟨c, hc⟩ := ex_at (xs := ns) (i := i) (by omega)
      refine iteT ⟨_, rfl, _, rfl, _, _, _, _, rfl, rfl, ha, atI_nat (by rw [List.getElem?_map, hc]; rfl), ?_⟩
      refine ⟨_, rfl, _, rfl, _, rfl, _, rfl, _, _, rfl, rfl, ⟨by decide, by decide, by decide⟩, _, _, rfl, rfl, .inr ⟨_, rfl, _, _, rfl, rfl, ?_, ?_⟩⟩
      · exact .inr (small01 _)
      · refine ⟨_, rfl, _, _, rfl, rfl, (by show (0 : Int) < 2147483587; decide), _, rfl, _, _, rfl, rfl, .inl ⟨by decide, by decide⟩, _, _, rfl, rfl, (by show 3 ≤ sizeLine; decide), fun p hp => ?_⟩
        have z := fin c p hp
        rw [← abs_eq, ← ite_dec] at z
        exact z
    · rw [decide_eq_false hl]
      refine iteF ?_
      refine ⟨_, rfl, _, rfl, _, rfl, _, rfl, _, _, rfl, rfl, ⟨by decide, by decide, by decide⟩, _, _, rfl, rfl, .inr ⟨_, rfl, _, _, rfl, rfl, ?_, ?_⟩⟩
      · exact .inr (small01 _)
      · refine ⟨_, rfl, _, _, rfl, rfl, (by show (0 : Int) < 2147483587; decide), _, rfl, _, _, rfl, rfl, .inl ⟨by decide, by decide⟩, _, _, rfl, rfl, (by show 3 ≤ sizeLine; decide), fun p hp => ?_⟩
        have z := fin (5081 * (i : Int) + 3) p hp
        rw [← abs_eq, ← ite_dec] at z
        exact z
theorem mod_small {x y : Int} (h : 0 < y) (h2 : y < 2147483648) : -(2 : Int) ^ 64 < x % y ∧ x % y < (2 : Int) ^ 64 := by
  have h1 := Int.emod_nonneg x (show y ≠ 0 by omega)
  have h2 := Int.emod_lt_of_pos x h
  omega
theorem mod_nat {x : Int} {n : Nat} (hn : 0 < n) : ∃ r : Nat, r < n ∧ x % (n : Int) = (r : Int) := by
  have h1 := Int.emod_nonneg x (show (n : Int) ≠ 0 by omega)
  have h2 := Int.emod_lt_of_pos x (show (0 : Int) < (n : Int) by omega)
  exact ⟨(x % (n : Int)).toNat, by omega, by omega⟩
/-- any value that is so for each turn of the bag -/
theorem take_end {H : Hp} {n : Nat} {Q : VK} (hn : 0 < n) (k : ∀ r : Nat, r < n → Q (.int r) H) (x : Int) : Q (.int (x % (n : Int))) H := by
  obtain ⟨r, h1, h2⟩ := mod_nat (x := x) hn
  rw [h2]
  exact k r h1
def spTake (K : PySem.W.Frag) : Sp := fun vs H Q _ => ∃ (p : Addr) (n k : Nat), vs = [.ref p, .int n] ∧ Bag H p k ∧ 0 < n ∧ n < 1073741824 ∧ k ≤ 100000 ∧ ∀ (r : Nat) H', r < n → Fr [p] H H' → Bag H' p (k + 1) → Q (.int r) H'
def P8 : List Int := [2147483647, 2147483629, 2147483587, 2147483579, 2147483563, 2147483549, 2147483543, 2147483497]
theorem p8_at (j : Int) : ∃ x : Int, atI (P8.map V.int) (j % 8) = some (.int x) ∧ 0 < x ∧ x < 2147483648 := by
  have h1 := Int.emod_nonneg j (show (8 : Int) ≠ 0 by decide)
  have h2 := Int.emod_lt_of_pos j (show (0 : Int) < 8 by decide)
  obtain ⟨n, hn⟩ : ∃ n : Nat, j % 8 = n := ⟨(j % 8).toNat, by omega⟩
  rw [hn]
  obtain ⟨x, hx⟩ := ex_at (xs := P8) (i := n) (by show n < 8; omega)
  refine ⟨x, atI_nat (by rw [List.getElem?_map, hx]; rfl), ?_⟩
  have key : ∀ y ∈ P8, 0 < y ∧ y < 2147483648 := by decide
  exact key x (List.mem_of_getElem? hx)
abbrev s__law_take : Stmt := top 54
theorem sc__law_take : FnScope ["_law_bag_here", "_law_many", "_law_digit", "_law_primes", "_law_step", "_law_base", "_law_here"] ["_law_bag_here", "_law_many"] (defScope s__law_take) := ⟨rfl, rfl, rfl, by decide +kernel, rfl, by decide +kernel, by decide +kernel⟩
theorem ok_law_take (T : TxB g) (F : Def g "_law_take" s__law_take ["_law_bag_here", "_law_many"]) : Has g CX0 1 "_law_take" ["_law_bag_here", "_law_many"] (spTake g.K) := by
  refine F.ok sc__law_take (fun vs H Q E h => ?_) (fun f cdv A outer s H vs Q E hr h => ?_)
  · obtain ⟨p, n, k, rfl, _⟩ := h
    rfl
  · obtain ⟨p, n, k, rfl, hb, hn, hn2, hk, kk⟩ := h
    refine ⟨_, (pss_cons (ps_if (pt_cmpR op_gt (pe_ix (ix_listK (K := g.K)) (pv 0) pe_int (fun _ _ => rfl)) pe_int (nomark _)) (pss_cons (ps_set (i := 2) sc__law_take.nd rfl (Or.inl rfl) (pe_op op_mod (pe_ix (ix_listK (K := g.K)) (pv 0) pe_int (fun _ _ => rfl)) (pv 1)))
      (pss_cons (ps_asg (pe_op op_fdivW (pe_ix (ix_listK (K := g.K)) (pv 0) pe_int (fun _ _ => rfl)) (pv 1)) (pg_sub (pv 0) pe_int set_list))
      (pss_one (ps_ret (pv 2))))) pss_nil)
      (pss_cons (ps_set (i := 3) sc__law_take.nd rfl (Or.inl rfl) (pe_tup (pa_cons pe_int (pa_cons pe_int (pa_cons pe_int (pa_cons pe_int (pa_cons pe_int (pa_cons pe_int (pa_cons pe_int (pa_cons pe_int pa_nil))))))))))
      (pss_cons (ps_asg (pe_op op_add (pe_ix (ix_listK (K := g.K)) (pv 0) pe_int (fun _ _ => rfl)) pe_int) (pg_sub (pv 0) pe_int set_list))
      (pss_cons (ps_set (i := 4) sc__law_take.nd rfl (Or.inl rfl) (pe_ix (ix_listK (K := g.K)) (pv 0) pe_int (fun _ _ => rfl)))
      (pss_cons (ps_set (i := 5) sc__law_take.nd rfl (Or.inl rfl) (pe_op op_add (pe_op op_mul (pe_op op_add (pe_ix (ix_listK (K := g.K)) (pv 0) pe_int (fun _ _ => rfl)) pe_int) (pe_op op_add (pe_op op_mul pe_int (pv 4)) pe_int)) (pe_op op_mul (pe_op op_mul pe_int (pv 4)) (pv 4))))
      (pss_cons (ps_set (i := 6) sc__law_take.nd rfl (Or.inl rfl) (pe_op op_mod (pe_op op_pow (pv 5) pe_int) (pe_ix (ix_tupK (K := g.K)) (pv 3) (pe_op op_mod (pv 4) pe_int) (fun _ _ => rfl))))
      (pss_one (ps_ret (pe_op op_mod (pe_op op_fdivW (pe_op op_mod (pe_op op_mul (pv 6) (pe_op op_add (pe_op op_fdivW (pv 6) pe_int) pe_int)) (pe_ix (ix_tupK (K := g.K)) (pv 3) (pe_op op_mod (pe_op op_add (pv 4) pe_int) pe_int) (fun _ _ => rfl))) pe_int) (pv 1)))))))))), ?_⟩
    obtain ⟨a, b, c, e, ha, hb0, hb1, hc0, hc1⟩ := hb
    refine ⟨_, rfl, _, _, _, _, rfl, rfl, SqL.of e, rfl, _, _, rfl, rfl, _, rfl, ?_⟩
    by_cases h0 : (0 : Int) < a
    · rw [decide_eq_true h0]
      refine iteT ⟨_, rfl, _, _, _, _, rfl, rfl, SqL.of e, rfl, _, rfl, _, _, rfl, rfl, (by show (0 : Int) < (n : Int); omega), ?_⟩
      refine ⟨_, rfl, _, _, _, _, rfl, rfl, SqL.of e, rfl, _, rfl, _, _, rfl, rfl, wide_div (b := 30) (by omega) (by omega) (by decide) (by decide), _, rfl, _, _, _, _, rfl, rfl, e, rfl, _, rfl, ?_⟩
      have e1 : a % (n : Int) = ((a % (n : Int)).toNat : Int) := by
        have := Int.emod_nonneg a (show (n : Int) ≠ 0 by omega)
        omega
      have e2 : (a % (n : Int)).toNat < n := by
        have := Int.emod_lt_of_pos a (show (0 : Int) < (n : Int) by omega)
        omega
      have z := kk (a % (n : Int)).toNat (upd H p (.lst [.int (a / (n : Int)), .int b, .int c])) e2 (Fr.wr e nz_lst (by simp)) ⟨_, _, _, upd_same, Int.ediv_nonneg ha (by omega), hb0, hb1, hc0, by omega⟩
      rw [← e1] at z
      exact z
    · rw [decide_eq_false h0]
      refine iteF ⟨(by show 8 ≤ sizeLine; decide), fun t ht => ?_⟩
      have s1 := same_new (o := .tup (P8.map V.int)) ht
      have e1 := s1 _ _ e
      refine ⟨_, rfl, _, _, _, _, rfl, rfl, SqL.of e1, rfl, _, _, rfl, rfl, _, rfl, _, _, _, _, rfl, rfl, e1, rfl, ?_⟩
      have f2 : Fr [p] (upd H t (.tup (P8.map V.int))) (upd (upd H t (.tup (P8.map V.int))) p (.lst [.int a, .int b, .int (c + 1)])) := Fr.wr e1 nz_lst (by simp)
      have fr := (Fr.of (F := [p]) s1).trans f2 fun _ m => .inl m
      have tt : SqT g.K (upd (upd H t (.tup (P8.map V.int))) p (.lst [.int a, .int b, .int (c + 1)])) t (P8.map V.int) := f2.tup (.inl (.inl upd_same))
      obtain ⟨x1, hx1, p1, l1⟩ := p8_at (c + 1)
      obtain ⟨x2, hx2, p2, l2⟩ := p8_at (c + 1 + 3)
      have c1 : c + 1 ≤ 100001 := by omega
      have m1 : (b + 1) * (2 * (c + 1) + 3) ≤ 8589934592 * 200005 := Int.mul_le_mul (by omega) (by omega) (by omega) (by decide)
      have m2 : 0 ≤ (b + 1) * (2 * (c + 1) + 3) := Int.mul_nonneg (by omega) (by omega)
      have m3 : 6007 * (c + 1) * (c + 1) ≤ (6007 * 100001) * 100001 := Int.mul_le_mul (by omega) c1 (by omega) (by decide)
      have m4 : 0 ≤ 6007 * (c + 1) * (c + 1) := Int.mul_nonneg (by omega) (by omega)
      generalize hB : (b + 1) * (2 * (c + 1) + 3) + 6007 * (c + 1) * (c + 1) = B0
      have hB1 : 0 ≤ B0 ∧ B0 < 18446744073709551616 := by omega
      refine ⟨_, rfl, _, _, _, _, rfl, rfl, SqL.of upd_same, rfl, ?_⟩
      refine ⟨_, rfl, _, _, _, _, rfl, rfl, SqL.of upd_same, rfl, _, _, rfl, rfl, _, rfl, _, _, rfl, rfl, .inl ⟨by decide, by decide⟩, _, _, rfl, rfl, _, _, rfl, rfl, .inr (by show -(2 : Int) ^ 64 < 2 * (c + 1) + 3 ∧ 2 * (c + 1) + 3 < (2 : Int) ^ 64; omega),
        _, rfl, _, _, rfl, rfl, .inl ⟨by decide, by decide⟩, _, rfl, _, _, rfl, rfl, .inr (by show -(2 : Int) ^ 64 < c + 1 ∧ c + 1 < (2 : Int) ^ 64; omega), _, _, rfl, rfl, ?_⟩
      refine ⟨_, rfl, _, _, rfl, rfl, ⟨by decide, by decide, by show ((b + 1) * (2 * (c + 1) + 3) + 6007 * (c + 1) * (c + 1)).natAbs < 2 ^ 64; rw [hB]; omega⟩, _, rfl, _, rfl, _, _, rfl, rfl, (by show (0 : Int) < 8; decide), _, _, _, _, rfl, rfl, tt, hx1, _, _, rfl, rfl, p1, ?_⟩
      refine ⟨_, rfl, _, rfl, _, _, rfl, rfl, wide_div (b := 14) (by decide) (by decide) (by decide) (by decide), _, _, rfl, rfl, _, _, rfl, rfl, .inl (mod_small p1 l1), _, rfl, _, rfl, _, _, rfl, rfl, _, _, rfl, rfl, (by show (0 : Int) < 8; decide), _, _, _, _, rfl, rfl, tt, hx2, _, _, rfl, rfl, p2,
        _, _, rfl, rfl, wide_div (b := 14) (by decide) (by decide) (by decide) (by decide), _, rfl, _, _, rfl, rfl, (by show (0 : Int) < (n : Int); omega), ?_⟩
      exact take_end hn (fun r hr2 => kk r _ hr2 fr ⟨_, _, _, upd_same, ha, hb0, hb1, by omega, by omega⟩) _
end
end K79
end

section
set_option linter.all false
set_option maxRecDepth 100000
set_option maxHeartbeats 4000000
/-! K79W2: the law's numbers; its machines. -/
namespace K79
open PySem PySem.Spec PyProof.Rows L2

section
variable {g : G}
theorem gcd_while2 {tc : TT} {tb : TS} {D : Ends} {H : Hp} {u v : Option V} {rest : List (Option V)} {a b : Nat} (e : tc = tTest (tOp (rI0 fun i j => .bl (decide (j < i))) (tVar 3) (tC (.int 0))))
    (eb : tb = tPar 2 3 (tCons (tVar 3) (tCons (tOp (rI (fun _ j => 0 < j) fun i j => .int (i % j)) (tVar 2) (tVar 3)) tNil))) (h : D.nx (u :: v :: some (.int ((a.gcd b : Nat) : Int)) :: some (.int 0) :: rest) H) :
    tWhile tc tb D (u :: v :: some (.int a) :: some (.int b) :: rest) H := by
  subst e eb
  refine ⟨fun m σ H' => ∃ x y : Nat, σ = u :: v :: some (.int x) :: some (.int y) :: rest ∧ H' = H ∧ m = y ∧ x.gcd y = a.gcd b, ⟨b, a, b, rfl, rfl, rfl, rfl⟩, ?_⟩
  rintro m σ H1 ⟨x, y, rfl, rfl, rfl, eg⟩
  refine ⟨_, rfl, _, _, rfl, rfl, _, rfl, ?_⟩
  by_cases hy : (0 : Int) < (m : Int)
  · rw [decide_eq_true hy]
    refine iteT ⟨fun σ' H' => ∃ x' y' : Nat, y' < m ∧ σ' = u :: v :: some (.int x') :: some (.int y') :: rest ∧ H' = H1 ∧ x'.gcd y' = a.gcd b, fun σ' H' h' => ?_, ?_⟩
    · obtain ⟨x', y', h1, h2, h3, h4⟩ := h'
      exact ⟨y', h1, x', y', h2, h3, rfl, h4⟩
    · refine ⟨_, rfl, _, rfl, _, rfl, _, _, rfl, rfl, hy, _, _, rfl, m, x % m, ?_, ?_, rfl, ?_⟩
      · exact Nat.mod_lt _ (by omega)
      · rw [Int.natCast_emod]
        rfl
      · rw [← eg, Nat.gcd_comm m, ← Nat.gcd_rec, Nat.gcd_comm]
  · rw [decide_eq_false hy]
    refine iteF ?_
    have : m = 0 := by omega
    subst this
    rw [Nat.gcd_zero_right] at eg
    rw [eg]
    exact h
abbrev s__law_low : Stmt := top 55
theorem sc__law_low : FnScope ["_law_top", "_law_below", "_law_one", "_law_other"] ["_law_top", "_law_below"] (defScope s__law_low) := ⟨rfl, rfl, rfl, by decide +kernel, rfl, by decide +kernel, by decide +kernel⟩
theorem ok_law_low (T : TxB g) (F : Def g "_law_low" s__law_low ["_law_top", "_law_below"]) : Has g CX0 1 "_law_low" ["_law_top", "_law_below"] (spFraction g.K) := by
  refine F.ok sc__law_low (fun vs H Q E h => ?_) (fun f cdv A outer s H vs Q E hr h => ?_)
  · obtain ⟨a, b, rfl, _⟩ := h
    rfl
  · obtain ⟨a, b, rfl, hb, h9, k⟩ := h
    refine ⟨_, (pss_cons (ps_par (i := 2) (j := 3) (by rfl) sc__law_low.nd rfl rfl (by decide) rfl rfl (pa_cons (pe_callB call_abs (by rfl) T.abs (by decide +kernel) (pa_cons (pv 0) pa_nil)) (pa_cons (pv 1) pa_nil)) (by rfl))
      (pss_cons (ps_while PassesOwn.never (pt_cmpR op_gt (pv 3) pe_int (nomark _)) (pss_one (ps_par (i := 2) (j := 3) (by rfl) sc__law_low.nd rfl rfl (by decide) rfl rfl (pa_cons (pv 3) (pa_cons (pe_op op_mod (pv 2) (pv 3)) pa_nil)) (by rfl))))
      (pss_one (ps_ret (pe_tup (pa_cons (pe_op op_fdivW (pv 0) (pv 2)) (pa_cons (pe_op op_fdivW (pv 1) (pv 2)) pa_nil))))))), ?_⟩
    refine ⟨_, rfl, a, rfl, _, rfl, _, _, rfl, ?_⟩
    rw [abs_eq]
    obtain ⟨n, rfl⟩ : ∃ n : Nat, b = n := ⟨b.toNat, by omega⟩
    refine gcd_while2 rfl rfl ?_
    have hd := fit_div (a := a) hb h9
    have hd2 := fit_div2 (a := a) (c := (n : Int)) hb h9
    have le := low_eq (t := a) hb
    rw [Int.natAbs_natCast] at hd hd2 le
    refine ⟨_, rfl, _, rfl, _, _, rfl, rfl, hd, _, rfl, _, rfl, _, _, rfl, rfl, hd2, (by show 2 ≤ sizeLine; decide), fun p hp => ?_⟩
    refine k _ _ (same_new hp) (Nm.new ?_)
    show [V.int (a / ((a.natAbs.gcd n : Nat) : Int)), V.int ((n : Int) / ((a.natAbs.gcd n : Nat) : Int))] = _
    rw [le.1, le.2]
abbrev s__law_add : Stmt := top 56
theorem sc__law_add : FnScope ["_law_one", "_law_other"] ["_law_one", "_law_other"] (defScope s__law_add) := ⟨rfl, rfl, rfl, by decide +kernel, rfl, by decide +kernel, by decide +kernel⟩
theorem ok_law_add (T : TxB g) (F : Def g "_law_add" s__law_add ["_law_one", "_law_other"]) (G__law_low : Has g CX0 1 "_law_low" ["_law_top", "_law_below"] (spFraction g.K)) : Has g CX0 2 "_law_add" ["_law_one", "_law_other"] (spPlus g.K) := by
  refine F.ok sc__law_add (fun vs H Q E h => ?_) (fun f cdv A outer s H vs Q E hr h => ?_)
  · obtain ⟨v, w, a, b, rfl, _⟩ := h
    rfl
  · obtain ⟨v, w, a, b, rfl, hv, hw, ft, k⟩ := h
    refine ⟨_, (pss_one (ps_ret (pe_has G__law_low hr (by decide) pass0 (pa_cons (pe_op op_add (pe_op op_mulW (pe_ix (ix_tupK (K := g.K)) (pv 0) pe_int (fun _ _ => rfl)) (pe_ix (ix_tupK (K := g.K)) (pv 1) pe_int (fun _ _ => rfl))) (pe_op op_mulW (pe_ix (ix_tupK (K := g.K)) (pv 1) pe_int (fun _ _ => rfl)) (pe_ix (ix_tupK (K := g.K)) (pv 0) pe_int (fun _ _ => rfl)))) (pa_cons (pe_op op_mulW (pe_ix (ix_tupK (K := g.K)) (pv 0) pe_int (fun _ _ => rfl)) (pe_ix (ix_tupK (K := g.K)) (pv 1) pe_int (fun _ _ => rfl))) pa_nil))))), ?_⟩
    obtain ⟨pa, rfl, ta⟩ := hv
    obtain ⟨pb, rfl, tb⟩ := hw
    refine ⟨_, rfl, _, _, _, _, rfl, rfl, ta, rfl, _, rfl, _, _, _, _, rfl, rfl, tb, rfl, _, _, rfl, rfl, fit_nd ft, _, rfl, _, _, _, _, rfl, rfl, tb, rfl, _, rfl, _, _, _, _, rfl, rfl, ta, rfl, _, _, rfl, rfl, fit_nd ft.symm, _, _, rfl, rfl,
      _, rfl, _, _, _, _, rfl, rfl, ta, rfl, _, rfl, _, _, _, _, rfl, rfl, tb, rfl, _, _, rfl, rfl, fit_dd ft, _, _, rfl, fit_dpos a b, fit_dlt ft, fun u H' s1 hu => ?_⟩
    rw [den_mul_nat, ← Rat.add_def'] at hu
    exact k u H' s1 hu
abbrev s__law_mul : Stmt := top 57
theorem sc__law_mul : FnScope ["_law_one", "_law_other"] ["_law_one", "_law_other"] (defScope s__law_mul) := ⟨rfl, rfl, rfl, by decide +kernel, rfl, by decide +kernel, by decide +kernel⟩
theorem ok_law_mul (T : TxB g) (F : Def g "_law_mul" s__law_mul ["_law_one", "_law_other"]) (G__law_low : Has g CX0 1 "_law_low" ["_law_top", "_law_below"] (spFraction g.K)) : Has g CX0 2 "_law_mul" ["_law_one", "_law_other"] (spTimes g.K) := by
  refine F.ok sc__law_mul (fun vs H Q E h => ?_) (fun f cdv A outer s H vs Q E hr h => ?_)
  · obtain ⟨v, w, a, b, rfl, _⟩ := h
    rfl
  · obtain ⟨v, w, a, b, rfl, hv, hw, ft, k⟩ := h
    refine ⟨_, (pss_one (ps_ret (pe_has G__law_low hr (by decide) pass0 (pa_cons (pe_op op_mulW (pe_ix (ix_tupK (K := g.K)) (pv 0) pe_int (fun _ _ => rfl)) (pe_ix (ix_tupK (K := g.K)) (pv 1) pe_int (fun _ _ => rfl))) (pa_cons (pe_op op_mulW (pe_ix (ix_tupK (K := g.K)) (pv 0) pe_int (fun _ _ => rfl)) (pe_ix (ix_tupK (K := g.K)) (pv 1) pe_int (fun _ _ => rfl))) pa_nil))))), ?_⟩
    obtain ⟨pa, rfl, ta⟩ := hv
    obtain ⟨pb, rfl, tb⟩ := hw
    refine ⟨_, rfl, _, _, _, _, rfl, rfl, ta, rfl, _, rfl, _, _, _, _, rfl, rfl, tb, rfl, _, _, rfl, rfl, fit_nn ft, _, rfl, _, _, _, _, rfl, rfl, ta, rfl, _, rfl, _, _, _, _, rfl, rfl, tb, rfl, _, _, rfl, rfl, fit_dd ft, _, _, rfl, fit_dpos a b, fit_dlt ft, fun u H' s1 hu => ?_⟩
    rw [den_mul_nat, ← Rat.mul_def'] at hu
    exact k u H' s1 hu
/-- a small whole number, over one -/
theorem nm_int {K : PySem.W.Frag} {H : Hp} {p : Addr} (z : Int) : Nm K (upd H p (.tup [.int z, .int 1])) (.ref p) (z : Rat) := Nm.new (by rw [Rat.num_intCast, Rat.den_intCast]; rfl)
theorem sz_int {z : Int} {n : Nat} (h : z.natAbs < 2 ^ n) (hn : 1 ≤ n) : Sz n (z : Rat) := ⟨by rw [Rat.num_intCast]; exact h, by rw [Rat.den_intCast]; exact Nat.one_lt_two_pow (by omega)⟩
theorem sz_mk {t : Int} {b n : Nat} (hb : 0 < b) (ht : t.natAbs < 2 ^ n) (hn : b < 2 ^ n) : Sz n (mkRat t b) := by
  have h := mk_le (t := t) (b := b) (by omega)
  exact ⟨Nat.lt_of_le_of_lt h.1 ht, Nat.lt_of_le_of_lt h.2 hn⟩
def spNumber (K : PySem.W.Frag) : Sp := fun vs H Q _ => ∃ (p : Addr) (kd k : Nat), vs = [.ref p, .int kd] ∧ (kd = 0 ∨ kd = 1 ∨ kd = 3) ∧ Bag H p k ∧ k ≤ 99990 ∧ ∀ v q H', Fr [p] H H' → Bag H' p (k + 2) → Nm K H' v q → Sz 4 q → Q v H'
theorem fr_bag {H H1 H2 : Hp} {p : Addr} (f : Fr [p] H H1) (s : Same H1 H2) : Fr [p] H H2 := f.trans (Fr.of (F := []) s) fun _ z => nomatch z
theorem fr_two {H H1 H2 : Hp} {p : Addr} (f : Fr [p] H H1) (s : Fr [p] H1 H2) : Fr [p] H H2 := f.trans s fun _ z => .inl z
abbrev s__law_number : Stmt := top 58
theorem sc__law_number : FnScope ["_law_bag_here", "_law_kind"] ["_law_bag_here", "_law_kind"] (defScope s__law_number) := ⟨rfl, rfl, rfl, by decide +kernel, rfl, by decide +kernel, by decide +kernel⟩
theorem ok_law_number (T : TxB g) (F : Def g "_law_number" s__law_number ["_law_bag_here", "_law_kind"]) (G__law_take : Has g CX0 1 "_law_take" ["_law_bag_here", "_law_many"] (spTake g.K)) (G__law_low : Has g CX0 1 "_law_low" ["_law_top", "_law_below"] (spFraction g.K)) :
    Has g CX0 2 "_law_number" ["_law_bag_here", "_law_kind"] (spNumber g.K) := by
  refine F.ok sc__law_number (fun vs H Q E h => ?_) (fun f cdv A outer s H vs Q E hr h => ?_)
  · obtain ⟨p, kd, k, rfl, _⟩ := h
    rfl
  · obtain ⟨p, kd, k, rfl, hkd, hb, hk, kk⟩ := h
    refine ⟨_, (pss_cons (ps_if (pt_cmpR op_eq (pv 1) pe_int (nomark _)) (pss_one (ps_ret (pe_tup (pa_cons (pe_op op_sub (pe_has G__law_take hr (by decide) pass0 (pa_cons (pv 0) (pa_cons pe_int pa_nil))) pe_int) (pa_cons pe_int pa_nil))))) pss_nil)
      (pss_cons (ps_if (pt_cmpR op_eq (pv 1) pe_int (nomark _)) (pss_one (ps_ret (pe_has G__law_low hr (by decide) pass0 (pa_cons (pe_op op_sub (pe_has G__law_take hr (by decide) pass0 (pa_cons (pv 0) (pa_cons pe_int pa_nil))) pe_int) (pa_cons (pe_op op_add pe_int (pe_has G__law_take hr (by decide) pass0 (pa_cons (pv 0) (pa_cons pe_int pa_nil)))) pa_nil))))) pss_nil)
      (pss_cons (ps_if (pt_cmpR op_eq (pv 1) pe_int (nomark _)) (pss_one (ps_ret (pe_has G__law_low hr (by decide) pass0 (pa_cons (pe_op op_sub (pe_has G__law_take hr (by decide) pass0 (pa_cons (pv 0) (pa_cons pe_int pa_nil))) pe_int) (pa_cons (pe_op op_add pe_int (pe_has G__law_take hr (by decide) pass0 (pa_cons (pv 0) (pa_cons pe_int pa_nil)))) pa_nil))))) pss_nil)
      (pss_one (ps_ret (pe_tup (pa_cons (pe_op op_sub (pe_has G__law_take hr (by decide) pass0 (pa_cons (pv 0) (pa_cons pe_int pa_nil))) pe_int) (pa_cons pe_int pa_nil)))))))), ?_⟩
    rcases hkd with rfl | rfl | rfl
    · refine ⟨_, rfl, rfl, _, rfl, iteT ⟨_, rfl, p, 13, k, rfl, hb, by decide, by decide, by omega, fun r H1 hr1 f1 b1 => ⟨_, _, rfl, rfl, (by show 2 ≤ sizeLine; decide), fun t ht => ?_⟩⟩⟩
      exact kk _ _ _ (fr_bag f1 (same_new ht)) ((b1.same (same_new ht)).mono (by omega)) (nm_int _) (sz_int (by show ((r : Int) - 6).natAbs < 16; omega) (by decide))
    · refine ⟨_, rfl, rfl, _, rfl, iteF ⟨_, rfl, rfl, _, rfl, iteT ⟨_, rfl, p, 19, k, rfl, hb, by decide, by decide, by omega, fun r H1 hr1 f1 b1 => ⟨_, _, rfl, rfl, _, rfl, p, 6, k + 1, rfl, b1, by decide, by decide, by omega, fun r2 H2 hr2 f2 b2 => ⟨_, _, rfl, rfl, ?_⟩⟩⟩⟩⟩
      refine ⟨_, _, rfl, by omega, ?_, fun v H3 s3 nv => ?_⟩
      · have : (1 : Int) + (r2 : Int) < 2 ^ 10 := by omega
        exact Int.lt_of_lt_of_le this (Int.ofNat_le.mpr (Nat.pow_le_pow_right (n := 2) (by decide) (by decide : 10 ≤ 9000)) |> fun h => by rw [Int.natCast_pow, Int.natCast_pow] at h; exact h)
      · exact kk _ _ _ (fr_bag (fr_two f1 f2) s3) (b2.same s3) nv (sz_mk (by omega) (by show ((r : Int) - 9).natAbs < 16; omega) (by show ((1 : Int) + (r2 : Int)).toNat < 16; omega))
    · refine ⟨_, rfl, rfl, _, rfl, iteF ⟨_, rfl, rfl, _, rfl, iteF ⟨_, rfl, rfl, _, rfl, iteF ⟨_, rfl, p, 3, k, rfl, hb, by decide, by decide, by omega, fun r H1 hr1 f1 b1 => ⟨_, _, rfl, rfl, (by show 2 ≤ sizeLine; decide), fun t ht => ?_⟩⟩⟩⟩⟩
      exact kk _ _ _ (fr_bag f1 (same_new ht)) ((b1.same (same_new ht)).mono (by omega)) (nm_int _) (sz_int (by show ((r : Int) - 1).natAbs < 16; omega) (by decide))
def spTurned (K : PySem.W.Frag) : Sp := fun vs H Q _ => ∃ (p : Addr) (n k : Nat), vs = [.ref p, .int n] ∧ n ≤ 5 ∧ Bag H p k ∧ k ≤ 99990 ∧ ∀ q names H', Fr [p] H H' → H q = none → Bag H' p (k + n) → H' q = some (.lst (nV names)) → names.Perm (List.range n) → Q (.ref q) H'
abbrev s__law_turned : Stmt := top 59
theorem sc__law_turned : FnScope ["_law_bag_here", "_law_many", "_law_left", "_law_found", "_law_step"] ["_law_bag_here", "_law_many"] (defScope s__law_turned) := ⟨rfl, rfl, rfl, by decide +kernel, rfl, by decide +kernel, by decide +kernel⟩
theorem seq_k {n j : Nat} (hj : j < n) : seqIndex? (j : Int) n = some j := by
  unfold seqIndex?
  have h1 : (if (j : Int) < 0 then (j : Int) + (n : Int) else (j : Int)) = (j : Int) := if_neg (by omega)
  have h2 : (decide ((0 : Int) ≤ (j : Int)) && decide ((j : Int) < (n : Int))) = true := by
    rw [decide_eq_true (by omega), decide_eq_true (by omega)]
    rfl
  simp only [h1]
  rw [if_pos h2, Int.toNat_natCast]
theorem map_erase {α β : Type} (f : α → β) : ∀ (l : List α) (i : Nat), (l.map f).eraseIdx i = (l.eraseIdx i).map f
  | [], _ => rfl
  | _ :: _, 0 => rfl
  | x :: l, i + 1 => congrArg (f x :: ·) (map_erase f l i)
theorem nV_set {l : List Nat} {i : Nat} : (nV l).eraseIdx i = nV (l.eraseIdx i) := by
  unfold nV
  exact map_erase _ l i
theorem erase_perm {α : Type} : ∀ {l : List α} {i : Nat} {x : α}, l[i]? = some x → (x :: l.eraseIdx i).Perm l
  | [], i, x, h => by simp at h
  | a :: l, 0, x, h => by
    cases h
    exact List.Perm.refl _
  | a :: l, i + 1, x, h => (List.Perm.swap a x _).trans (List.Perm.cons a (erase_perm (l := l) (i := i) (x := x) h))
theorem nV_app (l : List Nat) (j : Nat) : nV l ++ [V.int (j : Int)] = nV (l ++ [j]) := by
  unfold nV
  rw [List.map_append]
  rfl
theorem rg_nV (n : Nat) : rgV 0 (n : Int) = nV (List.range n) := by
  unfold rgV nV
  rw [show ((n : Int) - 0).toNat = n by omega]
  refine List.map_congr_left fun i _ => ?_
  show V.int (0 + (i : Int)) = _
  rw [Int.zero_add]
theorem ok_law_turned (T : TxB g) (F : Def g "_law_turned" s__law_turned ["_law_bag_here", "_law_many"]) (G__law_take : Has g CX0 1 "_law_take" ["_law_bag_here", "_law_many"] (spTake g.K)) :
    Has g CX0 2 "_law_turned" ["_law_bag_here", "_law_many"] (spTurned g.K) := by
  refine F.ok sc__law_turned (fun vs H Q E h => ?_) (fun f cdv A outer s H vs Q E hr h => ?_)
  · obtain ⟨p, n, k, rfl, _⟩ := h
    rfl
  · obtain ⟨p, n, k, rfl, hn, hb, hk, kk⟩ := h
    refine ⟨_, (pss_cons (ps_set (i := 2) sc__law_turned.nd rfl (Or.inl rfl) (pe_listRg rfl (by rfl) T.list (prg_1 (by rfl) T.range (pv 1))))
      (pss_cons (ps_set (i := 3) sc__law_turned.nd rfl (Or.inl rfl) (pe_lst pa_nil))
      (pss_cons (ps_for PassesOwn.never rfl (pi_range1 (by rfl) T.range (pa_cons (pv 1) pa_nil)) (pg_name (i := 4) sc__law_turned.nd rfl (Or.inl rfl))
      (pss_one (ps_expr (pe_bm PySem.F.plainAttrs_list PySem.F.slot_list_append PySem.F.type_list_append mt_append (pv 3) (pa_cons (pe_bm PySem.F.plainAttrs_list PySem.F.slot_list_pop PySem.F.type_list_pop mt_popAt (pv 2) (pa_cons (pe_has G__law_take hr (by decide) pass0 (pa_cons (pv 0) (pa_cons (pe_callB (call_lenK (K := g.K)) (by rfl) T.len PySem.boot_len (pa_cons (pv 2) pa_nil)) pa_nil))) pa_nil)) pa_nil)))))
      (pss_one (ps_ret (pv 3)))))), ?_⟩
    refine ⟨_, rfl, _, rfl, RgOk.of_le (by decide) (by omega) (by decide) (by omega), fun q1 hq1 => ?_⟩
    have s1 := same_new (o := .lst (rgV 0 (n : Int))) hq1
    refine ⟨(by show 0 ≤ sizeLine; decide), fun q2 hq2 => ?_⟩
    have s2 := s1.trans (same_new (o := .lst []) hq2)
    have hq20 : H q2 = none := by
      cases e : H q2 with
      | none => rfl
      | some o => rw [s1 _ _ e] at hq2; cases hq2
    have n12 : q1 ≠ q2 := fun z => by
      rw [← z, upd_same] at hq2
      cases hq2
    have np1 : q1 ≠ p := fun z => by
      obtain ⟨_, _, _, e, _⟩ := hb
      rw [← z, hq1] at e
      cases e
    have np2 : q2 ≠ p := fun z => by
      obtain ⟨_, _, _, e, _⟩ := hb
      rw [← z, hq20] at e
      cases e
    refine ⟨_, rfl, _, rfl, by omega, by omega, for_it (walk_range (lo := 0) (n := _))
      (fun i σ H' => ∃ sh fnd lft, σ = [some (.ref p), some (.int n), some (.ref q1), some (.ref q2), sh] ∧ Fr [p] H H' ∧ Bag H' p (k + i) ∧ H' q1 = some (.lst (nV lft)) ∧ H' q2 = some (.lst (nV fnd)) ∧ (fnd ++ lft).Perm (List.range n) ∧ fnd.length = i)
      ⟨none, [], List.range n, rfl, Fr.of s2, hb.same s2, by rw [upd_ne n12, upd_same, rg_nV], upd_same, List.Perm.refl _, rfl⟩ (fun _ _ _ _ _ => True.intro) ?_ ?_⟩
    · rintro i x σ H3 H4 hi ⟨sh, fnd, lft, rfl, f3, b3, h1, h2, pm, hl⟩ ⟨rfl, hx⟩
      rw [Int.toNat_natCast] at hi
      have hlen := pm.length_eq
      rw [List.length_append, List.length_range] at hlen
      refine ⟨_, rfl, .inl ⟨rfl, _, .inl (.inl h2)⟩, ?_⟩
      refine ⟨_, rfl, .inl ⟨rfl, _, .inl (.inl h1)⟩, ?_⟩
      refine ⟨_, rfl, _, rfl, _, _, rfl, .inl (SqL.of h1), p, (nV lft).length, k + i, rfl, b3, by rw [nV_len]; omega, by rw [nV_len]; omega, by omega, fun r H5 hr5 f5 b5 => ?_⟩
      rw [nV_len] at hr5
      obtain ⟨y, hy⟩ := ex_at hr5
      have e1 := f5.get h1 (by simpa using np1)
      have e2 := f5.get h2 (by simpa using np2)
      refine ⟨q1, _, (r : Int), r, _, rfl, rfl, e1, by omega, by omega, seq_k (by rw [nV_len]; exact hr5), nV_at hy, ?_⟩
      refine ⟨q2, nV fnd, _, rfl, rfl, by rw [upd_ne (Ne.symm n12)]; exact e2, by rw [nV_len]; exact small1000 (by omega), _, fnd ++ [y], lft.eraseIdx r, rfl, ?_, ?_, ?_, ?_, ?_, by rw [List.length_append, hl]; rfl⟩
      · have f6 : Fr [q1] H5 (upd H5 q1 (.lst ((nV lft).eraseIdx r))) := Fr.wr e1 nz_lst (by simp)
        have f7 : Fr [q2] (upd H5 q1 (.lst ((nV lft).eraseIdx r))) (upd (upd H5 q1 (.lst ((nV lft).eraseIdx r))) q2 (.lst (nV fnd ++ [.int y]))) := Fr.wr (by rw [upd_ne (Ne.symm n12)]; exact e2) nz_lst (by simp)
        exact ((fr_two f3 f5).trans f6 (fun z hz => .inr (by rw [List.mem_singleton.mp hz]; exact hq1))).trans f7 fun z hz => .inr (by rw [List.mem_singleton.mp hz]; exact hq20)
      · obtain ⟨a, b, c, e, r⟩ := b5
        exact ⟨a, b, c, by rw [upd_ne (Ne.symm np2), upd_ne (Ne.symm np1)]; exact e, r⟩
      · rw [upd_ne n12, upd_same, nV_set]
      · rw [upd_same, nV_app]
      · refine List.Perm.trans ?_ pm
        rw [List.append_assoc]
        refine List.Perm.append_left _ ?_
        exact erase_perm hy
    · rintro σ H3 ⟨sh, fnd, lft, rfl, f3, b3, h1, h2, pm, hl⟩
      rw [Int.toNat_natCast] at hl b3
      have hlen := pm.length_eq
      rw [List.length_append, List.length_range] at hlen
      have : lft = [] := List.eq_nil_of_length_eq_zero (by omega)
      subst this
      rw [List.append_nil] at pm
      exact ⟨_, rfl, kk q2 fnd H3 f3 hq20 b3 h2 pm⟩
end
end K79
end

section
set_option linter.all false
set_option maxRecDepth 100000
set_option maxHeartbeats 4000000
/-! K79W3: the law's machine. -/
namespace K79
open PySem PySem.Spec PyProof.Rows L2

section
variable {g : G}
def spMach (K : PySem.W.Frag) : Sp := fun vs H Q _ => ∃ (p : Addr) (e : Bool) (kd k : Nat), vs = [.ref p, .int 5, .bl e, .int kd] ∧ (kd = 0 ∨ kd = 1 ∨ kd = 3) ∧ Bag H p k ∧ k ≤ 99000 ∧
  ∀ q us rows H', Fr [p] H H' → H q = none → Bag H' p (k + 100) → H' q = some (.lst us) → Paired (Rw K H') us rows → Mach rows → 1 ≤ rows.length → rows.length ≤ 5 → (∀ r ∈ rows, r.small 4 4) → Q (.ref q) H'
theorem choose_rows {P : Nat → Row → Prop} {n : Nat} (h : ∀ i, i < n → ∃ r, P i r) : ∃ rows : List Row, rows.length = n ∧ ∀ (i : Nat) (r : Row), rows[i]? = some r → P i r := by
  induction n with
  | zero => exact ⟨[], rfl, fun i r e => by simp at e⟩
  | succ n ih =>
    obtain ⟨rows, hl, hr⟩ := ih fun i hi => h i (by omega)
    obtain ⟨r, p⟩ := h n (by omega)
    refine ⟨rows ++ [r], by rw [List.length_append, hl]; rfl, fun i x e => ?_⟩
    by_cases hi : i < rows.length
    · rw [List.getElem?_append_left hi] at e
      exact hr i x e
    · rw [List.getElem?_append_right (by omega)] at e
      have : i - rows.length = 0 := by
        have := (List.getElem?_eq_some_iff.mp e).1
        simp at this
        omega
      rw [this] at e
      cases e
      have : i = n := by omega
      subst this
      exact p
/-- what stands at a name already turned in -/
structure Done (K : PySem.W.Frag) (H : Hp) (names : List Nat) (ws : List V) (n j : Nat) (nm : Nat) (v : V) (r : Row) : Prop where
  at_ : ws[nm]? = some v
  rw_ : Rw K H v r
  sm : r.small 4 4
  inn : r.In n
  dr : ∀ d ∈ r.drives, d ∈ names.take j
theorem max_one (i : Nat) : (if (i : Int) > 1 then (i : Int) else 1) = ((max 1 i : Nat) : Int) := by
  split <;> omega
theorem rep_one (n : Nat) : (List.replicate n [V.non]).flatten = List.replicate n V.non := by
  induction n with
  | zero => rfl
  | succ n ih => rw [List.replicate_succ, List.flatten_cons, ih, List.replicate_succ]; rfl
abbrev s__law_machine : Stmt := top 60
theorem sc__law_machine : FnScope ["_law_bag_here", "_law_most", "_law_even", "_law_kind", "_law_many", "_law_names", "_law_found", "_law_k", "_law_start", "_law_way", "_law_one", "_law_other", "_law_row"] ["_law_bag_here", "_law_most", "_law_even", "_law_kind"] (defScope s__law_machine) := ⟨rfl, rfl, rfl, by decide +kernel, rfl, by decide +kernel, by decide +kernel⟩
theorem ok_law_machine (T : TxB g) (F : Def g "_law_machine" s__law_machine ["_law_bag_here", "_law_most", "_law_even", "_law_kind"]) (G__law_take : Has g CX0 1 "_law_take" ["_law_bag_here", "_law_many"] (spTake g.K))
    (G__law_number : Has g CX0 2 "_law_number" ["_law_bag_here", "_law_kind"] (spNumber g.K)) (G__law_turned : Has g CX0 2 "_law_turned" ["_law_bag_here", "_law_many"] (spTurned g.K)) :
    Has g CX0 3 "_law_machine" ["_law_bag_here", "_law_most", "_law_even", "_law_kind"] (spMach g.K) := by
  refine F.ok sc__law_machine (fun vs H Q E h => ?_) (fun f cdv A outer s H vs Q E hr h => ?_)
  · obtain ⟨p, e, kd, k, rfl, _⟩ := h
    rfl
  · obtain ⟨p, e, kd, k, rfl, hkd, hb, hk, kk⟩ := h
    refine ⟨_, (pss_cons (ps_set (i := 4) sc__law_machine.nd rfl (Or.inl rfl) (pe_op op_add pe_int (pe_has G__law_take hr (by decide) pass0 (pa_cons (pv 0) (pa_cons (pv 1) pa_nil)))))
      (pss_cons (ps_set (i := 5) sc__law_machine.nd rfl (Or.inl rfl) (pe_has G__law_turned hr (by decide) pass0 (pa_cons (pv 0) (pa_cons (pv 4) pa_nil))))
      (pss_cons (ps_set (i := 6) sc__law_machine.nd rfl (Or.inl rfl) (pe_op op_rep (pe_lst (pa_cons pe_non pa_nil)) (pv 4)))
      (pss_cons (ps_for PassesOwn.never rfl (pi_range1 (by rfl) T.range (pa_cons (pv 4) pa_nil)) (pg_name (i := 7) sc__law_machine.nd rfl (Or.inl rfl))
      (pss_cons (ps_set (i := 8) sc__law_machine.nd rfl (Or.inl rfl) (pe_has G__law_number hr (by decide) pass0 (pa_cons (pv 0) (pa_cons (pv 3) pa_nil))))
      (pss_cons (ps_set (i := 9) sc__law_machine.nd rfl (Or.inl rfl) (pe_has G__law_take hr (by decide) pass0 (pa_cons (pv 0) (pa_cons pe_int pa_nil))))
      (pss_cons (ps_par (i := 10) (j := 11) (by rfl) sc__law_machine.nd rfl rfl (by decide) rfl rfl (pa_cons (pe_has G__law_take hr (by decide) pass0 (pa_cons (pv 0) (pa_cons (pe_callB (call_max2 rfl) (by rfl) T.max (by decide +kernel) (pa_cons pe_int (pa_cons (pv 7) pa_nil))) pa_nil))) (pa_cons (pe_has G__law_take hr (by decide) pass0 (pa_cons (pv 0) (pa_cons (pe_callB (call_max2 rfl) (by rfl) T.max (by decide +kernel) (pa_cons pe_int (pa_cons (pv 7) pa_nil))) pa_nil))) pa_nil)) (by rfl))
      (pss_cons (ps_set (i := 12) sc__law_machine.nd rfl (Or.inl rfl) (pe_tup (pa_cons pe_str (pa_cons (pv 8) pa_nil))))
      (pss_cons (ps_if (PW.pt (pw_and (pt_cmpR op_gt (pv 7) pe_int (nomark _)) (pw_and1 (pt_cmpR op_lt (pv 9) pe_int (nomark _))))) (pss_one (ps_set (i := 12) sc__law_machine.nd rfl (Or.inl rfl) (pe_tup (pa_cons pe_str (pa_cons (pv 8) (pa_cons (pe_has G__law_number hr (by decide) pass0 (pa_cons (pv 0) (pa_cons (pv 3) pa_nil))) (pa_cons (pe_ix (ix_listK (K := g.K)) (pv 5) (pv 10) (fun _ _ => rfl)) pa_nil))))))) pss_nil)
      (pss_cons (ps_if (PW.pt (pw_and (pt_cmpR op_gt (pv 7) pe_int (nomark _)) (pw_and1 (pt_cmpR op_eq (pv 9) pe_int (nomark _))))) (pss_one (ps_set (i := 12) sc__law_machine.nd rfl (Or.inl rfl) (pe_tup (pa_cons pe_str (pa_cons (pv 8) (pa_cons (pe_ix (ix_listK (K := g.K)) (pv 5) (pv 10) (fun _ _ => rfl)) (pa_cons (pe_ix (ix_listK (K := g.K)) (pv 5) (pv 11) (fun _ _ => rfl)) pa_nil))))))) pss_nil)
      (pss_cons (ps_if (PW.pt (pw_and (pt_cmpR op_gt (pv 7) pe_int (nomark _)) (pw_and1 (pt_cmpR op_gt (pv 9) pe_int (nomark _))))) (pss_one (ps_set (i := 12) sc__law_machine.nd rfl (Or.inl rfl) (pe_tup (pa_cons pe_str (pa_cons (pv 8) (pa_cons (pe_ix (ix_listK (K := g.K)) (pv 5) (pe_has G__law_take hr (by decide) pass0 (pa_cons (pv 0) (pa_cons (pv 4) pa_nil))) (fun _ _ => rfl)) (pa_cons (pe_ix (ix_listK (K := g.K)) (pv 5) (pe_ix (ix_listK (K := g.K)) (pe_lst (pa_cons (pv 10) (pa_cons pe_int pa_nil))) (pe_callTy call_int1 (by rfl) T.int (by decide +kernel) (pa_cons (pv 2) pa_nil)) (fun _ _ => rfl)) (fun _ _ => rfl)) pa_nil))))))) pss_nil)
      (pss_one (ps_asg (pv 12) (pg_sub (pv 6) (pe_ix (ix_listK (K := g.K)) (pv 5) (pv 7) (fun _ _ => rfl)) set_list)))))))))))
      (pss_one (ps_ret (pv 6))))))), ?_⟩
    refine ⟨_, rfl, _, rfl, p, 5, k, rfl, hb, by decide, by decide, by omega, fun r0 H1 hr0 f1 b1 => ⟨_, _, rfl, rfl, ?_⟩⟩
    obtain ⟨n, hn⟩ : ∃ n : Nat, n = 1 + r0 := ⟨_, rfl⟩
    have en : (1 : Int) + (r0 : Int) = (n : Int) := by omega
    show _
    refine ⟨_, rfl, _, rfl, p, n, k + 1, by rw [← en]; rfl, by omega, b1, by omega, fun nmA names H2 f2 hnm b2 hnames perm => ?_⟩
    have np : nmA ≠ p := fun z => by
      obtain ⟨_, _, _, e, _⟩ := b1
      rw [← z, hnm] at e
      cases e
    have f12 := fr_two f1 f2
    refine ⟨(by show 1 ≤ sizeLine; decide), fun t ht => ?_⟩
    have s3 := same_new (o := .lst [.non]) ht
    refine ⟨_, rfl, t, _, _, rfl, rfl, upd_same, by omega, by omega, (by rw [sizeLine_eq]; show 1 * ((1 : Int) + (r0 : Int)).toNat ≤ 16777216; omega), fun fo hfo => ?_⟩
    have s4 := s3.trans (same_new (o := .lst (List.replicate ((1 : Int) + (r0 : Int)).toNat [V.non]).flatten) hfo)
    have hfo2 : H2 fo = none := by
      cases e : H2 fo with
      | none => rfl
      | some o => rw [s3 _ _ e] at hfo; cases hfo
    have nfp : fo ≠ p := fun z => by
      obtain ⟨_, _, _, e, _⟩ := b2
      rw [← z, hfo2] at e
      cases e
    have nfn : fo ≠ nmA := fun z => by
      rw [← z, hfo2] at hnames
      cases hnames
    have hfoH : H fo = none := by
      cases e : H fo with
      | none => rfl
      | some o => rw [f12.get e (by simpa using nfp)] at hfo2; cases hfo2
    have hnmH : H nmA = none := by
      cases e : H nmA with
      | none => rfl
      | some o => rw [f1.get e (by simpa using np)] at hnm; cases hnm
    have lenN : names.length = n := by rw [perm.length_eq, List.length_range]
    have memN : ∀ d, d ∈ names ↔ d < n := fun d => by rw [perm.mem_iff, List.mem_range]
    have ndN : names.Nodup := perm.nodup_iff.mpr List.nodup_range
    refine ⟨_, rfl, _, rfl, by omega, by omega, for_it (walk_range (lo := 0) (n := _))
      (fun i σ H' => ∃ x7 x8 x9 x10 x11 x12 ws, σ = [some (.ref p), some (.int 5), some (.bl e), some (.int kd), some (.int ((1 : Int) + (r0 : Int))), some (.ref nmA), some (.ref fo), x7, x8, x9, x10, x11, x12] ∧ Fr [p] H H' ∧ Bag H' p (k + 1 + n + 10 * i) ∧ H' nmA = some (.lst (nV names)) ∧
        H' fo = some (.lst ws) ∧ ws.length = n ∧ ∀ (j nm : Nat), j < i → names[j]? = some nm → ∃ v r, Done g.K H' names ws n j nm v r)
      ⟨none, none, none, none, none, none, List.replicate n V.non, rfl, fr_bag f12 s4, b2.same s4, s4 _ _ hnames, by rw [upd_same, rep_one, en, Int.toNat_natCast], List.length_replicate, fun j nm hj => absurd hj (Nat.not_lt_zero j)⟩ (fun _ _ _ _ _ => True.intro) ?_ ?_⟩
    · rintro i x σ H3 H4 hi ⟨x7, x8, x9, x10, x11, x12, ws, rfl, f3, b3, h1, h2, hws, hd⟩ ⟨rfl, hx⟩
      obtain rfl := range_at hx
      have hin : i < n := by
        rw [en, Int.toNat_natCast] at hi
        exact hi
      -- the end of a turn
      have fin : ∀ (D : Ends) (kD : ∀ σ H', (∃ x7 x8 x9 x10 x11 x12 ws, σ = [some (.ref p), some (.int 5), some (.bl e), some (.int kd), some (.int ((1 : Int) + (r0 : Int))), some (.ref nmA), some (.ref fo), x7, x8, x9, x10, x11, x12] ∧ Fr [p] H H' ∧ Bag H' p (k + 1 + n + 10 * (i + 1)) ∧ H' nmA = some (.lst (nV names)) ∧
            H' fo = some (.lst ws) ∧ ws.length = n ∧ ∀ (j nm : Nat), j < i + 1 → names[j]? = some nm → ∃ v r, Done g.K H' names ws n j nm v r) → D.nx σ H') (H5 : Hp) (v : V) (r : Row) (x8 x9 x10 x11 : Option V), Fr [p] H H5 → Bag H5 p (k + 1 + n + 10 * i + 10) → H5 nmA = some (.lst (nV names)) → H5 fo = some (.lst ws) → (∀ j nm, j < i → names[j]? = some nm → ∃ v r, Done g.K H5 names ws n j nm v r) →
          Rw g.K H5 v r → r.small 4 4 → r.In n → (∀ d ∈ r.drives, d ∈ names.take i) →
          tAsg (tVar 12) (gSub (tVar 6) (tOp (rIxL g.K) (tVar 5) (tVar 7)) rSetL) D
            [some (.ref p), some (.int 5), some (.bl e), some (.int kd), some (.int ((1 : Int) + (r0 : Int))), some (.ref nmA), some (.ref fo), some (.int i), x8, x9, x10, x11, some v] H5 := by
        intro D kD H5 v r y8 y9 y10 y11 f5 b5 h15 h25 hd5 rw5 sm5 in5 dr5
        obtain ⟨nm, hnmi⟩ := ex_at (xs := names) (i := i) (by omega)
        have hnl : nm < n := (memN nm).mp (List.mem_of_getElem? hnmi)
        refine ⟨_, rfl, _, rfl, _, rfl, _, rfl, _, _, _, _, rfl, rfl, SqL.of h15, atI_nat (nV_at hnmi), _, _, _, _, rfl, rfl, h25, ixN_k (by omega), ?_⟩
        have fw : Fr [fo] H5 (upd H5 fo (.lst (ws.set nm v))) := Fr.wr h25 nz_lst (by simp)
        refine kD _ _ ⟨_, _, _, _, _, _, ws.set nm v, rfl, f5.trans fw (fun z hz => .inr (by rw [List.mem_singleton.mp hz]; exact hfoH)), (b5.fr fw (by simpa using Ne.symm nfp)).mono (by omega), by rw [upd_ne (Ne.symm nfn)]; exact h15, upd_same, by rw [List.length_set]; exact hws, fun j nm2 hj hj2 => ?_⟩
        by_cases ej : j = i
        · subst ej
          rw [hnmi] at hj2
          cases hj2
          exact ⟨v, r, List.getElem?_set_self (by omega), rw5.fr fw, sm5, in5, dr5⟩
        · obtain ⟨v2, r2, dn⟩ := hd5 j nm2 (by omega) hj2
          have : nm ≠ nm2 := fun z => by
            subst z
            have q1 := List.getElem?_eq_some_iff.mp hj2
            have q2 := List.getElem?_eq_some_iff.mp hnmi
            exact ej ((List.getElem_inj ndN (h₀ := q1.1) (h₁ := q2.1)).mp (q1.2.trans q2.2.symm))
          exact ⟨v2, r2, by rw [List.getElem?_set_ne this]; exact dn.at_, dn.rw_.fr fw, dn.sm, dn.inn, dn.dr⟩
      have keepD : ∀ {H5 H6 : Hp}, Fr [p] H5 H6 → (∀ j nm, j < i → names[j]? = some nm → ∃ v r, Done g.K H5 names ws n j nm v r) → ∀ j nm, j < i → names[j]? = some nm → ∃ v r, Done g.K H6 names ws n j nm v r := fun fr h j nm hj hn => by
        obtain ⟨v, r, d⟩ := h j nm hj hn
        exact ⟨v, r, d.at_, d.rw_.fr fr, d.sm, d.inn, d.dr⟩
      have pn : nmA ∉ [p] := by simpa using np
      have pf : fo ∉ [p] := by simpa using nfp
      -- start, way, one, other
      refine ⟨_, rfl, _, rfl, p, kd, _, rfl, hkd, b3, by omega, fun v5 q5 H5 f5 b5 nm5 z5 => ?_⟩
      refine ⟨_, rfl, p, 6, _, rfl, b5, by decide, by decide, by omega, fun r6 H6 hr6 f6 b6 => ?_⟩
      refine ⟨_, rfl, _, rfl, _, _, rfl, p, max 1 i, _, by rw [← max_one]; rfl, b6, by omega, by omega, by omega, fun r7 H7 hr7 f7 b7 => ?_⟩
      refine ⟨_, rfl, _, rfl, _, _, rfl, p, max 1 i, _, by rw [← max_one]; rfl, b7, by omega, by omega, by omega, fun r8 H8 hr8 f8 b8 => ?_⟩
      have g58 := fr_two (fr_two f6 f7) f8
      have g38 := fr_two f5 g58
      have h18 := g38.get h1 pn
      have h28 := g38.get h2 pf
      have d8 := keepD g38 hd
      have nm8 := nm5.fr g58
      have zs : Sz 4 q5 := z5
      refine ⟨_, _, rfl, _, rfl, (by show 2 ≤ sizeLine; decide), fun t9 ht9 => ?_⟩
      have s9 := same_new (o := .tup [.str "source", v5]) ht9
      have g9 : Fr [p] H (upd H8 t9 (.tup [.str "source", v5])) := fr_bag (fr_two f3 g38) s9
      have b9 := b8.same s9
      have nm9 := nm8.same s9
      have k9 : Fr [p] H8 (upd H8 t9 (.tup [.str "source", v5])) := Fr.of s9
      have h19 := s9 _ _ h18
      have h29 := s9 _ _ h28
      have d9 := keepD k9 d8
      have src9 : Rw g.K (upd H8 t9 (.tup [.str "source", v5])) (.ref t9) (.src q5) := .src (.inl (.inl upd_same)) nm9
      generalize upd H8 t9 (.tup [.str "source", v5]) = H9 at g9 b9 nm9 k9 h19 h29 d9 src9 ⊢
      clear s9
      refine ⟨_, rfl, _, _, rfl, rfl, _, rfl, ?_⟩
      by_cases hi0 : (0 : Int) < (i : Int)
      · rw [decide_eq_true hi0]
        have e7 : max 1 i = i := by omega
        rw [e7] at hr7 hr8
        obtain ⟨a7, ha7⟩ := ex_at (xs := names) (i := r7) (by omega)
        obtain ⟨a8, ha8⟩ := ex_at (xs := names) (i := r8) (by omega)
        have ta7 : a7 ∈ names.take i := List.mem_iff_getElem?.mpr ⟨r7, by rw [List.getElem?_take, if_pos hr7]; exact ha7⟩
        have ta8 : a8 ∈ names.take i := List.mem_iff_getElem?.mpr ⟨r8, by rw [List.getElem?_take, if_pos hr8]; exact ha8⟩
        have la7 : a7 < n := (memN a7).mp (List.mem_of_getElem? ha7)
        have la8 : a8 < n := (memN a8).mp (List.mem_of_getElem? ha8)
        refine iteT ⟨_, rfl, _, _, rfl, rfl, _, rfl, ?_⟩
        by_cases hw : (r6 : Int) < 2
        · rw [decide_eq_true hw]
          refine iteT ⟨_, rfl, _, rfl, _, rfl, p, kd, _, rfl, hkd, b9, by omega, fun v10 q10 H10 f10 b10 nm10 z10 => ?_⟩
          have h110 := f10.get h19 pn
          refine ⟨_, rfl, _, rfl, _, _, _, _, rfl, rfl, SqL.of h110, atI_nat (nV_at ha7), (by show 4 ≤ sizeLine; decide), fun t11 ht11 => ?_⟩
          have s11 := same_new (o := .tup [.str "gear", v5, v10, .int a7]) ht11
          refine ⟨_, rfl, _, _, rfl, rfl, _, rfl, ?_⟩
          rw [decide_eq_true hi0]
          refine iteT ⟨_, rfl, rfl, _, rfl, ?_⟩
          rw [decide_eq_false (show ¬ V.int (r6 : Int) = .int 2 from fun z => by injection z with z; omega)]
          refine iteF ⟨_, rfl, _, _, rfl, rfl, _, rfl, ?_⟩
          rw [decide_eq_true hi0]
          refine iteT ⟨_, rfl, _, _, rfl, rfl, _, rfl, ?_⟩
          rw [decide_eq_false (show ¬ (2 : Int) < (r6 : Int) by omega)]
          refine iteF ?_
          have fr11 : Fr [p] H9 (upd H10 t11 (.tup [.str "gear", v5, v10, .int a7])) := fr_bag f10 s11
          refine fin _ (fun _ _ h => h) _ _ (.gear q5 q10 a7) _ _ _ _ (fr_two g9 fr11) ((b10.same s11).mono (by omega)) (s11 _ _ h110) (s11 _ _ (f10.get h29 pf)) (keepD fr11 d9) (.gear (.inl (.inl upd_same)) (nm9.fr fr11) (nm10.same s11)) ⟨zs, z10⟩ la7 fun d hd => ?_
          cases List.mem_singleton.mp hd
          exact ta7
        · rw [decide_eq_false hw]
          refine iteF ⟨_, rfl, _, _, rfl, rfl, _, rfl, ?_⟩
          rw [decide_eq_true hi0]
          refine iteT ⟨_, rfl, rfl, _, rfl, ?_⟩
          by_cases hw2 : (r6 : Int) = 2
          · rw [decide_eq_true (by rw [hw2] : V.int (r6 : Int) = .int 2)]
            refine iteT ⟨_, rfl, _, rfl, _, rfl, _, _, _, _, rfl, rfl, SqL.of h19, atI_nat (nV_at ha7), _, rfl, _, rfl, _, _, _, _, rfl, rfl, SqL.of h19, atI_nat (nV_at ha8), (by show 4 ≤ sizeLine; decide), fun t11 ht11 => ?_⟩
            have s11 := same_new (o := .tup [.str "adder", v5, .int a7, .int a8]) ht11
            refine ⟨_, rfl, _, _, rfl, rfl, _, rfl, ?_⟩
            rw [decide_eq_true hi0]
            refine iteT ⟨_, rfl, _, _, rfl, rfl, _, rfl, ?_⟩
            rw [decide_eq_false (show ¬ (2 : Int) < (r6 : Int) by omega)]
            refine iteF ?_
            refine fin _ (fun _ _ h => h) _ _ (.adder q5 a7 a8) _ _ _ _ (fr_bag g9 s11) ((b9.same s11).mono (by omega)) (s11 _ _ h19) (s11 _ _ h29) (keepD (Fr.of s11) d9) (.adder (.inl (.inl upd_same)) (nm9.same s11)) zs ⟨la7, la8⟩ fun d hd => ?_
            rcases List.mem_cons.mp hd with rfl | hd
            · exact ta7
            · cases List.mem_singleton.mp hd
              exact ta8
          · rw [decide_eq_false (show ¬ V.int (r6 : Int) = .int 2 from fun z => by injection z with z; omega)]
            refine iteF ⟨_, rfl, _, _, rfl, rfl, _, rfl, ?_⟩
            rw [decide_eq_true hi0]
            refine iteT ⟨_, rfl, _, _, rfl, rfl, _, rfl, ?_⟩
            rw [decide_eq_true (show (2 : Int) < (r6 : Int) by omega)]
            refine iteT ⟨_, rfl, _, rfl, _, rfl, _, rfl, p, n, _, by rw [← en]; rfl, b9, by omega, by omega, by omega, fun r10 H10 hr10 f10 b10 => ?_⟩
            obtain ⟨a10, ha10⟩ := ex_at (xs := names) (i := r10) (by omega)
            have la10 : a10 < n := (memN a10).mp (List.mem_of_getElem? ha10)
            have h110 := f10.get h19 pn
            have h210 := f10.get h29 pf
            refine ⟨_, _, _, _, rfl, rfl, SqL.of h110, atI_nat (nV_at ha10), _, rfl, _, rfl, (by show 2 ≤ sizeLine; decide), fun t12 ht12 => ?_⟩
            have s12 := same_new (o := .lst [.int r7, .int 0]) ht12
            have low : ∃ a x, atI ([V.int (r7 : Int), V.int 0]) (if e = true then 1 else 0) = some (.int ((x : Nat) : Int)) ∧ names[x]? = some a ∧ a ∈ names.take i ∧ a < n := by
              cases e with
              | false => exact ⟨a7, r7, rfl, ha7, ta7, la7⟩
              | true =>
                obtain ⟨a0, ha0⟩ := ex_at (xs := names) (i := 0) (by omega)
                exact ⟨a0, 0, rfl, ha0, List.mem_iff_getElem?.mpr ⟨0, by rw [List.getElem?_take, if_pos (by omega)]; exact ha0⟩, (memN a0).mp (List.mem_of_getElem? ha0)⟩
            obtain ⟨a, x, ea, hax, tax, lax⟩ := low
            refine ⟨_, rfl, .inr ⟨e, rfl, _, _, _, _, rfl, rfl, SqL.of upd_same, ea, _, _, _, _, rfl, rfl, SqL.of (s12 _ _ h110), atI_nat (nV_at hax), (by show 4 ≤ sizeLine; decide), fun t11 ht11 => ?_⟩⟩
            have s11 := s12.trans (same_new (o := .tup [.str "disc", v5, .int a10, .int a]) ht11)
            have fr11 := fr_bag f10 s11
            refine fin _ (fun _ _ h => h) _ _ (.disc q5 a10 a) _ _ _ _ (fr_two g9 fr11) ((b10.same s11).mono (by omega)) (s11 _ _ h110) (s11 _ _ h210) (keepD fr11 d9) (.disc (.inl (.inl upd_same)) (nm9.fr fr11)) zs ⟨la10, lax⟩ fun d hd => ?_
            cases List.mem_singleton.mp hd
            exact tax
      · rw [decide_eq_false hi0]
        refine iteF (iteF ⟨_, rfl, _, _, rfl, rfl, _, rfl, ?_⟩)
        rw [decide_eq_false hi0]
        refine iteF (iteF ⟨_, rfl, _, _, rfl, rfl, _, rfl, ?_⟩)
        rw [decide_eq_false hi0]
        refine iteF (iteF ?_)
        exact fin _ (fun _ _ h => h) _ _ (.src q5) _ _ _ _ g9 (b9.mono (by omega)) h19 h29 d9 src9 zs True.intro fun d hd => nomatch hd
    · rintro σ H3 ⟨x7, x8, x9, x10, x11, x12, ws, rfl, f3, b3, h1, h2, hws, hd⟩
      rw [en, Int.toNat_natCast] at hd b3
      have all : ∀ nm, nm < n → ∃ j : Nat, j < n ∧ names[j]? = some nm := fun nm hnm => by
        obtain ⟨j, hj⟩ := List.mem_iff_getElem?.mp ((memN nm).mpr hnm)
        exact ⟨j, by rw [← lenN]; exact (List.getElem?_eq_some_iff.mp hj).1, hj⟩
      obtain ⟨rows, hrl, hrows⟩ := choose_rows (P := fun nm r => ∃ j v, names[j]? = some nm ∧ Done g.K H3 names ws n j nm v r) (n := n) fun nm hnm => by
        obtain ⟨j, hj, hj2⟩ := all nm hnm
        obtain ⟨v, r, d⟩ := hd j nm hj hj2
        exact ⟨r, j, v, hj2, d⟩
      have pd : Paired (Rw g.K H3) ws rows := pd_of (by omega) fun nm y hy => by
        obtain ⟨r, hr2⟩ := ex_at (xs := rows) (i := nm) (by have := (List.getElem?_eq_some_iff.mp hy).1; omega)
        obtain ⟨j, v, _, d⟩ := hrows nm r hr2
        refine ⟨r, hr2, ?_⟩
        have := d.at_
        rw [hy] at this
        cases this
        exact d.rw_
      refine ⟨_, rfl, kk fo ws rows H3 f3 hfoH (b3.mono (by omega)) h2 pd ⟨fun nm r hr2 => ?_, full_of_names (names := names) (fun nm hnm => (memN nm).mpr (by omega)) (fun nm hnm => by rw [hrl]; exact (memN nm).mp hnm) fun j nm r hj hr2 d hd2 => ?_⟩ (by omega) (by omega) fun r hr2 => ?_⟩
      · obtain ⟨j, v, _, d⟩ := hrows nm r hr2
        rw [hrl]
        exact d.inn
      · obtain ⟨j2, v, hj2, dn⟩ := hrows nm r hr2
        have : j = j2 := by
          have q1 := List.getElem?_eq_some_iff.mp hj
          have q2 := List.getElem?_eq_some_iff.mp hj2
          exact (List.getElem_inj ndN (h₀ := q1.1) (h₁ := q2.1)).mp (q1.2.trans q2.2.symm)
        subst this
        exact dn.dr d hd2
      · obtain ⟨nm, hnm⟩ := List.mem_iff_getElem?.mp hr2
        obtain ⟨j, v, _, d⟩ := hrows nm r hnm
        exact d.sm
end
end K79
end

section
set_option linter.all false
set_option maxRecDepth 100000
set_option maxHeartbeats 4000000
/-! K79W4: the law's sameness. -/
namespace K79
open PySem PySem.Spec PyProof.Rows L2

section
variable {K : PySem.W.Frag} {H H' : Hp}
theorem tyx_lst {a : Addr} {xs : List V} (h : SqL K H a xs) : TyX K H (.ref a) (.type "list") := by
  rcases h with (h | ⟨o, h⟩) | ⟨o, its, n, h1, h2, h3, h4, h5⟩
  · exact .base (.lst h)
  · exact .base (.frz h)
  · exact .kList h1 h2
theorem sqL_same {a : Addr} {xs : List V} (s : Same H H') (h : SqL K H a xs) : SqL K H' a xs := by
  rcases h with (h | ⟨o, h⟩) | h
  · exact .inl (.inl (s _ _ h))
  · exact .inl (.inr ⟨o, s _ _ h⟩)
  · exact .inr h
mutual
theorem Dp.same (s : Same H H') : ∀ (d : PyData) (v : V), Dp K H v d → Dp K H' v d
  | .none, _, h => by cases h; exact .non
  | .bool b, _, h => by cases h; exact .bl b
  | .int i, _, h => by cases h; exact .int i
  | .str x, _, h => by cases h; exact .str x
  | .list ds, _, h => by
    cases h with
    | lst hs ha => exact .lst (sqL_same s hs) (DpAll.same s ds _ ha)
  | .tuple ds, _, h => by
    cases h with
    | tup hs ha => exact .tup (Same.tup s hs) (DpAll.same s ds _ ha)
  | .dict _, _, h => by cases h
theorem DpAll.same (s : Same H H') : ∀ (ds : List PyData) (vs : List V), DpAll K H vs ds → DpAll K H' vs ds
  | [], _, h => by cases h; exact .nil
  | d :: ds, _, h => by
    cases h with
    | cons h1 h2 => exact .cons (Dp.same s d _ h1) (DpAll.same s ds _ h2)
end
theorem DpAll.get : ∀ {vs : List V} {ds : List PyData}, DpAll K H vs ds → vs.length = ds.length ∧ ∀ (i : Nat) (v : V), vs[i]? = some v → ∃ d, ds[i]? = some d ∧ Dp K H v d
  | _, [], h => by
    cases h
    exact ⟨rfl, fun i v e => by simp at e⟩
  | _, d :: ds, h => by
    cases h with
    | cons h1 h2 =>
      obtain ⟨l, k⟩ := DpAll.get h2
      refine ⟨by simp [l], fun i v e => ?_⟩
      cases i with
      | zero => cases e; exact ⟨d, rfl, h1⟩
      | succ i => exact k i v (by simpa using e)
theorem dpAll_of {ds : List PyData} : ∀ {vs : List V}, Paired (Dp K H) vs ds → DpAll K H vs ds := fun {vs} h => by
  induction h with
  | nil => exact .nil
  | cons r t ih => exact .cons r ih
mutual
def smD : PyData → Bool
  | .none | .bool _ | .int _ | .str _ => true
  | .list ds | .tuple ds => decide (ds.length ≤ 1000) && smAll ds
  | .dict _ => false
def smAll : List PyData → Bool
  | [] => true
  | d :: ds => smD d && smAll ds
end
/-- data as the law compares it -/
structure OkD (n : Nat) (d : PyData) : Prop where
  cl : d.canLay0 = true
  sm : smD d = true
  dp : d.depth ≤ n
theorem smAll_mem {ds : List PyData} : smAll ds = true → ∀ d ∈ ds, smD d = true := by
  induction ds with
  | nil => exact fun _ d hd => nomatch hd
  | cons x ds ih =>
    intro h
    have h2 : (smD x && smAll ds) = true := h
    rw [Bool.and_eq_true] at h2
    intro d hd
    rcases List.mem_cons.mp hd with rfl | hd
    · exact h2.1
    · exact ih h2.2 d hd
theorem smAll_of {ds : List PyData} : (∀ d ∈ ds, smD d = true) → smAll ds = true := by
  induction ds with
  | nil => exact fun _ => rfl
  | cons x ds ih =>
    intro h
    show (smD x && smAll ds) = true
    rw [h x List.mem_cons_self, ih fun d hd => h d (List.mem_cons_of_mem _ hd)]
    rfl
theorem canAll {ds : List PyData} (h : PyData.canLayAll0 ds = true) : ∀ d ∈ ds, d.canLay0 = true := by
  induction ds with
  | nil => exact fun d hd => nomatch hd
  | cons x ds ih =>
    have h2 : (x.canLay0 && PyData.canLayAll0 ds) = true := h
    rw [Bool.and_eq_true] at h2
    intro d hd
    rcases List.mem_cons.mp hd with rfl | hd
    · exact h2.1
    · exact ih h2.2 d hd
theorem depAll {ds : List PyData} {n : Nat} (h : PyData.depthAll ds ≤ n) : ∀ d ∈ ds, d.depth ≤ n := by
  induction ds with
  | nil => exact fun d hd => nomatch hd
  | cons x ds ih =>
    have h2 : max x.depth (PyData.depthAll ds) ≤ n := h
    intro d hd
    rcases List.mem_cons.mp hd with rfl | hd
    · omega
    · exact ih (by omega) d hd
theorem OkD.list {n : Nat} {ds : List PyData} (h : ∀ d ∈ ds, OkD n d) (hl : ds.length ≤ 1000) : OkD (n + 1) (.list ds) := by
  refine ⟨shaped_all ds fun d hd => (h d hd).cl, ?_, ?_⟩
  · show (decide (ds.length ≤ 1000) && smAll ds) = true
    rw [decide_eq_true hl, smAll_of fun d hd => (h d hd).sm]
    rfl
  · have := depth_all (n := n) ds fun d hd => (h d hd).dp
    show PyData.depthAll ds + 1 ≤ n + 1
    omega
theorem OkD.tuple {n : Nat} {ds : List PyData} (h : ∀ d ∈ ds, OkD n d) (hl : ds.length ≤ 1000) : OkD (n + 1) (.tuple ds) := by
  refine ⟨shaped_all ds fun d hd => (h d hd).cl, ?_, ?_⟩
  · show (decide (ds.length ≤ 1000) && smAll ds) = true
    rw [decide_eq_true hl, smAll_of fun d hd => (h d hd).sm]
    rfl
  · have := depth_all (n := n) ds fun d hd => (h d hd).dp
    show PyData.depthAll ds + 1 ≤ n + 1
    omega
theorem OkD.mono {m n : Nat} {d : PyData} (h : OkD m d) (l : m ≤ n) : OkD n d := ⟨h.cl, h.sm, Nat.le_trans h.dp l⟩
theorem okD_int (i : Int) : OkD 0 (.int i) := ⟨rfl, rfl, Nat.le_refl _⟩
theorem okD_none : OkD 0 .none := ⟨rfl, rfl, Nat.le_refl _⟩
theorem okD_bool (b : Bool) : OkD 0 (.bool b) := ⟨rfl, rfl, Nat.le_refl _⟩
def tyD : PyData → String
  | .none => "NoneType"
  | .bool _ => "bool"
  | .int _ => "int"
  | .str _ => "str"
  | .list _ => "list"
  | .tuple _ => "tuple"
  | .dict _ => "dict"
theorem tyD_ok {v : V} {d : PyData} (h : Dp K H v d) : TyX K H v (.type (tyD d)) := by
  cases h with
  | non => exact .base .non
  | bl b => exact .base (.bl b)
  | int i => exact .base (.int i)
  | str x => exact .base (.str x)
  | lst hs _ => exact tyx_lst hs
  | tup hs _ => exact tyx_tup hs
def isL : PyData → Bool
  | .list _ => true
  | _ => false
def isT : PyData → Bool
  | .tuple _ => true
  | _ => false
def isB : PyData → Bool
  | .bool _ => true
  | _ => false
theorem kitL {v : V} {d : PyData} (h : Dp K H v d) : PySem.W.kitOne K (.type (tyD d)) (.type "list") = some (isL d) := by
  cases h with
  | non => exact kit_ty (show kitB "NoneType" "list" = some false by decide +kernel)
  | bl b => exact kit_ty (show kitB "bool" "list" = some false by decide +kernel)
  | int i => exact kit_ty (show kitB "int" "list" = some false by decide +kernel)
  | str x => exact kit_ty (show kitB "str" "list" = some false by decide +kernel)
  | lst _ _ => exact kit_ty (show kitB "list" "list" = some true by decide +kernel)
  | tup _ _ => exact kit_ty (show kitB "tuple" "list" = some false by decide +kernel)
theorem kitT {v : V} {d : PyData} (h : Dp K H v d) : PySem.W.kitOne K (.type (tyD d)) (.type "tuple") = some (isT d) := by
  cases h with
  | non => exact kit_ty (show kitB "NoneType" "tuple" = some false by decide +kernel)
  | bl b => exact kit_ty (show kitB "bool" "tuple" = some false by decide +kernel)
  | int i => exact kit_ty (show kitB "int" "tuple" = some false by decide +kernel)
  | str x => exact kit_ty (show kitB "str" "tuple" = some false by decide +kernel)
  | lst _ _ => exact kit_ty (show kitB "list" "tuple" = some false by decide +kernel)
  | tup _ _ => exact kit_ty (show kitB "tuple" "tuple" = some true by decide +kernel)
theorem kitBo {v : V} {d : PyData} (h : Dp K H v d) : PySem.W.kitOne K (.type (tyD d)) (.type "bool") = some (isB d) := by
  cases h with
  | non => exact kit_ty (show kitB "NoneType" "bool" = some false by decide +kernel)
  | bl b => exact kit_ty (show kitB "bool" "bool" = some true by decide +kernel)
  | int i => exact kit_ty (show kitB "int" "bool" = some false by decide +kernel)
  | str x => exact kit_ty (show kitB "str" "bool" = some false by decide +kernel)
  | lst _ _ => exact kit_ty (show kitB "list" "bool" = some false by decide +kernel)
  | tup _ _ => exact kit_ty (show kitB "tuple" "bool" = some false by decide +kernel)
theorem walk_zipT {a b : Addr} {xs ys : List V} {n : Nat} (hn : n = min xs.length ys.length) : Walk (RZ.ItzT K a b) n (fun H => SqT K H a xs ∧ SqT K H b ys) (YPair (fun i => xs[i]?) (fun i => ys[i]?)) := by
  subst hn
  refine ⟨fun i _ hi q => ?_, fun _ q => ⟨xs, ys, q.1, q.2, by omega⟩, fun i H v H' _ q y => ?_⟩
  · obtain ⟨x, hx⟩ := ex_at (xs := xs) (i := i) (by omega)
    obtain ⟨y, hy⟩ := ex_at (xs := ys) (i := i) (by omega)
    exact ⟨xs, ys, x, y, q.1, q.2, hx, hy⟩
  · obtain ⟨T, x, z, h1, h2, h3, h4, h5⟩ := y
    exact ⟨T, x, z, h1, h2, h3, h4 xs q.1, h5 ys q.2⟩
end
section
variable {g : G}
def spSame (K : PySem.W.Frag) (n : Nat) : Sp := fun vs H Q _ => ∃ (v w : V) (d : PyData), vs = [v, w] ∧ Dp K H v d ∧ Dp K H w d ∧ d.canLay0 = true ∧ smD d = true ∧ d.depth < n ∧ n ≤ 20 ∧ ∀ H', Same H H' → Q (.bl true) H'
abbrev s__law_same : Stmt := top 63
theorem sc__law_same : FnScope ["_law_one", "_law_other", "_law_a", "_law_b"] ["_law_one", "_law_other"] (defScope s__law_same) := ⟨rfl, rfl, rfl, by decide +kernel, rfl, by decide +kernel, by decide +kernel⟩
theorem law_same_0 (F : Def g "_law_same" s__law_same ["_law_one", "_law_other"]) : Has g CX0 1 "_law_same" ["_law_one", "_law_other"] (spSame g.K 0) := by
  refine F.ok sc__law_same (fun vs H Q E h => ?_) (fun f cdv A outer s H vs Q E hr h => ?_)
  · obtain ⟨v, w, d, rfl, _⟩ := h
    rfl
  · obtain ⟨v, w, d, rfl, _, _, _, _, h, _⟩ := h
    exact absurd h (Nat.not_lt_zero _)
theorem law_same_step {k n : Nat} (T : TxB g) (F : Def g "_law_same" s__law_same ["_law_one", "_law_other"]) (G__law_same : Has g CX0 (k + 1) "_law_same" ["_law_one", "_law_other"] (spSame g.K n)) : Has g CX0 (k + 2) "_law_same" ["_law_one", "_law_other"] (spSame g.K (n + 1)) := by
  refine F.ok sc__law_same (fun vs H Q E h => ?_) (fun f cdv A outer s H vs Q E hr h => ?_)
  · obtain ⟨v, w, d, rfl, _⟩ := h
    rfl
  · obtain ⟨v, w, d, rfl, hv, hw, cl, sm, dep, hn20, kk⟩ := h
    refine ⟨_, (pss_cons (ps_if (PW.pt (pw_or (pt_cmpR op_ne (pe_callB (call_isiK' (K := g.K)) (by rfl) T.isinstance (by decide +kernel) (pa_cons (pv 0) (pa_cons (pe_bltn (v := .ty "list") (by rfl) T.list (by decide +kernel) rfl) pa_nil))) (pe_callB (call_isiK' (K := g.K)) (by rfl) T.isinstance (by decide +kernel) (pa_cons (pv 1) (pa_cons (pe_bltn (v := .ty "list") (by rfl) T.list (by decide +kernel) rfl) pa_nil))) (nomark _)) (pw_or1 (pt_cmpR op_ne (pe_callB (call_isiK' (K := g.K)) (by rfl) T.isinstance (by decide +kernel) (pa_cons (pv 0) (pa_cons (pe_bltn (v := .ty "tuple") (by rfl) T.tuple (by decide +kernel) rfl) pa_nil))) (pe_callB (call_isiK' (K := g.K)) (by rfl) T.isinstance (by decide +kernel) (pa_cons (pv 1) (pa_cons (pe_bltn (v := .ty "tuple") (by rfl) T.tuple (by decide +kernel) rfl) pa_nil))) (nomark _))))) (pss_one (ps_ret pe_bl)) pss_nil)
      (pss_cons (ps_if (PW.pt (pw_or (pt_val (pe_callB (call_isiK' (K := g.K)) (by rfl) T.isinstance (by decide +kernel) (pa_cons (pv 0) (pa_cons (pe_bltn (v := .ty "list") (by rfl) T.list (by decide +kernel) rfl) pa_nil)))) (pw_or1 (pt_val (pe_callB (call_isiK' (K := g.K)) (by rfl) T.isinstance (by decide +kernel) (pa_cons (pv 0) (pa_cons (pe_bltn (v := .ty "tuple") (by rfl) T.tuple (by decide +kernel) rfl) pa_nil))))))) (pss_one (ps_ret (pe_and (pe_cmpR op_eq (pe_callB (call_lenK (K := g.K)) (by rfl) T.len PySem.boot_len (pa_cons (pv 0) pa_nil)) (pe_callB (call_lenK (K := g.K)) (by rfl) T.len PySem.boot_len (pa_cons (pv 1) pa_nil)) (nomark _)) (pe_one (pe_callB (call_allK (K := g.K) rfl) (by rfl) T.all (by decide +kernel) (pa_cons (pe_lc (own := [("_law_a", 2), ("_law_b", 3)]) (g := gTup g.K 2 (gCons (gName 2) (gCons (gName 3) gNil))) (tt := tYes) rfl sc__law_same.nd (RZ.pi_zipA (by rfl) T.zip (pa_cons (pv 0) (pa_cons (pv 1) pa_nil))) (blkOk_by (own := [("_law_a", 2), ("_law_b", 3)]) (N := ["_law_one", "_law_other", "_law_a", "_law_b"]) (sc := defScope s__law_same) (by decide +kernel)) (fun _ _ _ _ _ => (pg_tup rfl (pgs_cons (pg_name (i := 2) sc__law_same.nd rfl (Or.inl rfl)) (pgs_cons (pg_name (i := 3) sc__law_same.nd rfl (Or.inl rfl)) pgs_nil)))) (fun _ _ _ _ _ => pts_nil) (fun _ _ _ _ _ => (pe_has G__law_same hr (Nat.le_refl _) pass0 (pa_cons (pv 2) (pa_cons (pv 3) pa_nil))))) pa_nil)))))) pss_nil)
      (pss_one (ps_ret (pe_and (pe_cmpR op_eq (pe_callB (call_isiK' (K := g.K)) (by rfl) T.isinstance (by decide +kernel) (pa_cons (pv 0) (pa_cons (pe_bltn (v := .ty "bool") (by rfl) T.bool (by decide +kernel) rfl) pa_nil))) (pe_callB (call_isiK' (K := g.K)) (by rfl) T.isinstance (by decide +kernel) (pa_cons (pv 1) (pa_cons (pe_bltn (v := .ty "bool") (by rfl) T.bool (by decide +kernel) rfl) pa_nil))) (nomark _)) (pe_one (pe_cmpR (op_eqK (K := g.K) hr.units) (pv 0) (pv 1) (nomark _)))))))), ?_⟩
    refine ⟨_, rfl, _, _, _, _, _, rfl, .ty "list", tyD_ok hv, kitL hv, _, rfl, _, _, _, _, _, rfl, .ty "list", tyD_ok hw, kitL hw, rfl, _, rfl, ?_⟩
    rw [decide_eq_true (rfl : V.bl (isL d) = V.bl (isL d))]
    refine iteF ⟨_, rfl, _, _, _, _, _, rfl, .ty "tuple", tyD_ok hv, kitT hv, _, rfl, _, _, _, _, _, rfl, .ty "tuple", tyD_ok hw, kitT hw, rfl, _, rfl, ?_⟩
    rw [decide_eq_true (rfl : V.bl (isT d) = V.bl (isT d))]
    refine iteF ⟨_, rfl, _, _, _, _, _, rfl, .ty "list", tyD_ok hv, kitL hv, _, rfl, ?_⟩
    -- what is gone through, piece by piece
    have all : ∀ (D : Addr) (ys : List V) (m : Nat), (∀ (i : Nat) (y : V), ys[i]? = some y → y = .bl true) → ys.length = m → ys = (List.replicate m true).map V.bl := fun D ys m h hl => by
      refine List.ext_getElem? fun i => ?_
      rw [List.map_replicate, List.getElem?_replicate]
      split
      · rename_i hi
        obtain ⟨y, hy⟩ := ex_at (xs := ys) (i := i) (by omega)
        rw [hy, h i y hy]
      · exact List.getElem?_eq_none (by omega)
    have allT : ∀ m, (List.replicate m true).all id = true := fun m => List.all_eq_true.mpr fun b hb => by rw [List.eq_of_mem_replicate hb]; rfl
    have shp : SeqAt.shaped d = true := by
      unfold SeqAt.shaped
      rw [Bool.and_eq_true]
      exact ⟨cl, decide_eq_true (by omega)⟩
    have er := PySem.SeqAt.eqv_refl d cl
    cases hL : isL d with
    | true =>
      refine iteT ?_
      cases hv with
      | non => cases hL
      | bl _ => cases hL
      | int _ => cases hL
      | str _ => cases hL
      | tup _ _ => cases hL
      | @lst a xs ds ha hxs =>
        cases hw with
        | @lst a' xs' _ ha' hxs' =>
          obtain ⟨lx, gx⟩ := DpAll.get hxs
          obtain ⟨lx', gx'⟩ := DpAll.get hxs'
          have sm2 : (decide (ds.length ≤ 1000) && smAll ds) = true := sm
          rw [Bool.and_eq_true] at sm2
          have h1000 : xs.length ≤ 1000 := by
            rw [lx]
            exact of_decide_eq_true sm2.1
          refine ⟨_, rfl, _, _, rfl, .inl ha, _, rfl, _, _, rfl, .inl ha', rfl, true, by rw [lx, lx']; exact congrArg V.bl (decide_eq_true rfl), ?_⟩
          rw [if_pos rfl]
          refine ⟨_, rfl, _, rfl, _, _, _, _, rfl, .inl ⟨ha, ha', lc_map (walk_zip (n := xs.length) (K := g.K) (a := a) (b := a') (xs := xs) (ys := xs') (by omega)) (fun D H y i => y = .bl true) h1000 (fun _ _ _ _ _ _ _ _ h => h) (fun H' s => ⟨sqL_same s ha, sqL_same s ha'⟩) ?_ ?_⟩⟩
          · rintro D i x H2 H3 Nx hi hD s2 hl ⟨t, x1, x2, rfl, ht, rfl, hx1, hx2⟩ kk2
            obtain ⟨d1, e1, dp1⟩ := gx i x1 hx1
            obtain ⟨d2, e2, dp2⟩ := gx' i x2 hx2
            rw [e1] at e2
            cases e2
            have s3 := s2.trans (same_new (o := .tup [x1, x2]) ht)
            have md := List.mem_of_getElem? e1
            refine ⟨t, _, rfl, .inl (.inl upd_same), rfl, _, _, rfl, _, _, rfl, rfl, rfl, ?_⟩
            refine ⟨_, rfl, _, rfl, x1, x2, d1, rfl, Dp.same s3 d1 x1 dp1, Dp.same s3 d1 x2 dp2, canAll cl d1 md, smAll_mem sm2.2 d1 md, ?_, by omega, fun H5 s5 => kk2 _ _ ((same_new ht).trans s5) rfl⟩
            have := depAll (n := PyData.depthAll ds) (Nat.le_refl _) d1 md
            have e : (PyData.list ds).depth = PyData.depthAll ds + 1 := rfl
            omega
          · intro D ys H2 hD s2 hys hyl hy
            have e := all D ys _ hy hyl
            rw [e] at hys
            refine ⟨D, _, rfl, SqL.of hys, ?_⟩
            rw [allT]
            exact kk _ s2
    | false =>
      refine iteF ⟨_, rfl, _, _, _, _, _, rfl, .ty "tuple", tyD_ok hv, kitT hv, _, rfl, ?_⟩
      cases hT : isT d with
      | true =>
        refine iteT ?_
        cases hv with
        | non => cases hT
        | bl _ => cases hT
        | int _ => cases hT
        | str _ => cases hT
        | lst _ _ => cases hT
        | @tup a xs ds ha hxs =>
          cases hw with
          | @tup a' xs' _ ha' hxs' =>
            obtain ⟨lx, gx⟩ := DpAll.get hxs
            obtain ⟨lx', gx'⟩ := DpAll.get hxs'
            have sm2 : (decide (ds.length ≤ 1000) && smAll ds) = true := sm
            rw [Bool.and_eq_true] at sm2
            have h1000 : xs.length ≤ 1000 := by
              rw [lx]
              exact of_decide_eq_true sm2.1
            refine ⟨_, rfl, _, _, rfl, .inr ha, _, rfl, _, _, rfl, .inr ha', rfl, true, by rw [lx, lx']; exact congrArg V.bl (decide_eq_true rfl), ?_⟩
            rw [if_pos rfl]
            refine ⟨_, rfl, _, rfl, _, _, _, _, rfl, .inr ⟨ha, ha', lc_map (walk_zipT (n := xs.length) (K := g.K) (a := a) (b := a') (xs := xs) (ys := xs') (by omega)) (fun D H y i => y = .bl true) h1000 (fun _ _ _ _ _ _ _ _ h => h) (fun H' s => ⟨Same.tup s ha, Same.tup s ha'⟩) ?_ ?_⟩⟩
            · rintro D i x H2 H3 Nx hi hD s2 hl ⟨t, x1, x2, rfl, ht, rfl, hx1, hx2⟩ kk2
              obtain ⟨d1, e1, dp1⟩ := gx i x1 hx1
              obtain ⟨d2, e2, dp2⟩ := gx' i x2 hx2
              rw [e1] at e2
              cases e2
              have s3 := s2.trans (same_new (o := .tup [x1, x2]) ht)
              have md := List.mem_of_getElem? e1
              refine ⟨t, _, rfl, .inl (.inl upd_same), rfl, _, _, rfl, _, _, rfl, rfl, rfl, ?_⟩
              refine ⟨_, rfl, _, rfl, x1, x2, d1, rfl, Dp.same s3 d1 x1 dp1, Dp.same s3 d1 x2 dp2, canAll cl d1 md, smAll_mem sm2.2 d1 md, ?_, by omega, fun H5 s5 => kk2 _ _ ((same_new ht).trans s5) rfl⟩
              have := depAll (n := PyData.depthAll ds) (Nat.le_refl _) d1 md
              have e : (PyData.tuple ds).depth = PyData.depthAll ds + 1 := rfl
              omega
            · intro D ys H2 hD s2 hys hyl hy
              have e := all D ys _ hy hyl
              rw [e] at hys
              refine ⟨D, _, rfl, SqL.of hys, ?_⟩
              rw [allT]
              exact kk _ s2
      | false =>
        refine iteF ⟨_, rfl, _, _, _, _, _, rfl, .ty "bool", tyD_ok hv, kitBo hv, _, rfl, _, _, _, _, _, rfl, .ty "bool", tyD_ok hw, kitBo hw, rfl, true, congrArg V.bl (decide_eq_true rfl), ?_⟩
        rw [if_pos rfl]
        refine ⟨_, rfl, _, rfl, d, d, hv, hw, shp, shp, ?_⟩
        rw [er]
        exact kk _ (Same.refl _)
end
end K79
end

section
set_option linter.all false
set_option maxRecDepth 100000
set_option maxHeartbeats 4000000
/-! K79W5: the law's small defs on rows; numbers and rows as data. -/
namespace K79
open PySem PySem.Spec PyProof.Rows L2

section
variable {K : PySem.W.Frag} {H H' : Hp}
theorem none_of {p : Addr} (s : Same H H') (h : H' p = none) : H p = none := by
  cases e : H p with
  | none => rfl
  | some o => rw [s _ _ e] at h; cases h
/-- a number as data -/
def nmD (q : Rat) : PyData := .tuple [.int q.num, .int (q.den : Int)]
theorem Nm.dp {v : V} {q : Rat} (h : Nm K H v q) : Dp K H v (nmD q) := by
  obtain ⟨a, rfl, t⟩ := h
  exact .tup t (.cons (.int _) (.cons (.int _) .nil))
theorem okD_nm (q : Rat) : OkD 1 (nmD q) := OkD.tuple (fun d hd => by
  rcases List.mem_cons.mp hd with rfl | hd
  · exact okD_int _
  · rw [List.mem_singleton.mp hd]
    exact okD_int _) (by simp)
def strOkD (z : Str) : Prop := (PyData.str z).canLay0 = true
theorem okD_str {z : Str} (h : (PyData.str z).canLay0 = true) : OkD 0 (.str z) := ⟨h, rfl, Nat.le_refl _⟩
def rowD : Row → PyData
  | .src s => .tuple [.str "source", nmD s]
  | .gear s r j => .tuple [.str "gear", nmD s, nmD r, .int (j : Int)]
  | .adder s i j => .tuple [.str "adder", nmD s, .int (i : Int), .int (j : Int)]
  | .disc s c t => .tuple [.str "disc", nmD s, .int (c : Int), .int (t : Int)]
theorem Rw.dp {v : V} {r : Row} (h : Rw K H v r) : Dp K H v (rowD r) := by
  cases h with
  | src t hx => exact .tup t (.cons (.str _) (.cons hx.dp .nil))
  | gear t hx hy => exact .tup t (.cons (.str _) (.cons hx.dp (.cons hy.dp (.cons (.int _) .nil))))
  | adder t hx => exact .tup t (.cons (.str _) (.cons hx.dp (.cons (.int _) (.cons (.int _) .nil))))
  | disc t hx => exact .tup t (.cons (.str _) (.cons hx.dp (.cons (.int _) (.cons (.int _) .nil))))
theorem okD4 {a b c d : PyData} {n : Nat} (ha : OkD n a) (hb : OkD n b) (hc : OkD n c) (hd : OkD n d) : OkD (n + 1) (.tuple [a, b, c, d]) := OkD.tuple (fun x hx => by
  simp only [List.mem_cons, List.not_mem_nil, or_false] at hx
  rcases hx with rfl | rfl | rfl | rfl <;> assumption) (by simp)
theorem okD2 {a b : PyData} {n : Nat} (ha : OkD n a) (hb : OkD n b) : OkD (n + 1) (.tuple [a, b]) := OkD.tuple (fun x hx => by
  simp only [List.mem_cons, List.not_mem_nil, or_false] at hx
  rcases hx with rfl | rfl <;> assumption) (by simp)
theorem okD1 {a : PyData} {n : Nat} (ha : OkD n a) : OkD (n + 1) (.tuple [a]) := OkD.tuple (fun x hx => by
  rw [List.mem_singleton.mp hx]
  exact ha) (by simp)
theorem okD_row (r : Row) : OkD 2 (rowD r) := by
  have i1 : ∀ i : Int, OkD 1 (.int i) := fun i => (okD_int i).mono (by decide)
  cases r with
  | src s => exact okD2 ((okD_str (by decide +kernel)).mono (by decide)) (okD_nm s)
  | gear s r j => exact okD4 ((okD_str (by decide +kernel)).mono (by decide)) (okD_nm s) (okD_nm r) (i1 _)
  | adder s i j => exact okD4 ((okD_str (by decide +kernel)).mono (by decide)) (okD_nm s) (i1 _) (i1 _)
  | disc s c t => exact okD4 ((okD_str (by decide +kernel)).mono (by decide)) (okD_nm s) (i1 _) (i1 _)
theorem pd_dp {α : Type} {R : V → α → Prop} {f : α → PyData} (h : ∀ v x, R v x → Dp K H v (f x)) {vs : List V} {xs : List α} (p : Paired R vs xs) : Paired (Dp K H) vs (xs.map f) := by
  induction p with
  | nil => exact .nil
  | cons r t ih => exact .cons (h _ _ r) ih
theorem list_dp {α : Type} {R : V → α → Prop} {f : α → PyData} (h : ∀ v x, R v x → Dp K H v (f x)) {vs : List V} {xs : List α} {a : Addr} (ha : H a = some (.lst vs)) (p : Paired R vs xs) : Dp K H (.ref a) (.list (xs.map f)) := .lst (SqL.of ha) (dpAll_of (pd_dp h p))
theorem okD_map {α : Type} {f : α → PyData} {n : Nat} (h : ∀ x, OkD n (f x)) {xs : List α} (hl : xs.length ≤ 1000) : OkD (n + 1) (.list (xs.map f)) := OkD.list (fun d hd => by
  obtain ⟨x, _, rfl⟩ := List.mem_map.mp hd
  exact h x) (by rw [List.length_map]; exact hl)
theorem OkD.shaped {n : Nat} {d : PyData} (h : OkD n d) (hn : n ≤ 64) : SeqAt.shaped d = true := by
  unfold SeqAt.shaped
  rw [Bool.and_eq_true]
  exact ⟨h.cl, decide_eq_true (Nat.le_trans h.dp hn)⟩
end
section
variable {g : G}
/-- the drives, in some order -/
def dr2 : Row → List Nat
  | .src _ => []
  | .gear _ _ j => [j]
  | .adder _ i j => [j, i]
  | .disc _ _ t => [t]
theorem mem_dr2 (r : Row) (j : Nat) : j ∈ dr2 r ↔ j ∈ r.drives := by
  cases r with
  | src s => exact Iff.rfl
  | gear s x j => exact Iff.rfl
  | adder s i k =>
    show j ∈ [k, i] ↔ j ∈ [i, k]
    simp only [List.mem_cons, List.not_mem_nil, or_false]
    exact Or.comm
  | disc s c t => exact Iff.rfl
def spDrives2 (K : PySem.W.Frag) : Sp := fun vs H Q _ => ∃ (v : V) (r : Row), vs = [v] ∧ Rw K H v r ∧ ∀ p H', Same H H' → H p = none → H' p = some (.lst (nV (dr2 r))) → Q (.ref p) H'
abbrev s__law_drives : Stmt := top 65
theorem sc__law_drives : FnScope ["_law_row"] ["_law_row"] (defScope s__law_drives) := ⟨rfl, rfl, rfl, by decide +kernel, rfl, by decide +kernel, by decide +kernel⟩
theorem ok_law_drives (T : TxB g) (F : Def g "_law_drives" s__law_drives ["_law_row"]) : Has g CX0 1 "_law_drives" ["_law_row"] (spDrives2 g.K) := by
  refine F.ok sc__law_drives (fun vs H Q E h => ?_) (fun f cdv A outer s H vs Q E hr h => ?_)
  · obtain ⟨v, r, rfl, _⟩ := h
    rfl
  · obtain ⟨v, r, rfl, hv, k⟩ := h
    refine ⟨_, (pss_cons (ps_if (pt_cmpR op_eq (pe_ix (ix_tupK (K := g.K)) (pv 0) pe_int (fun _ _ => rfl)) pe_str (nomark _)) (pss_one (ps_ret (pe_lst pa_nil))) pss_nil)
      (pss_one (ps_ret (pe_op op_cat (pe_lst (pa_cons (pe_ix (ix_tupK (K := g.K)) (pv 0) pe_int (fun _ _ => rfl)) pa_nil)) (pe_op op_rep (pe_lst (pa_cons (pe_ix (ix_tupK (K := g.K)) (pv 0) pe_int (fun _ _ => rfl)) pa_nil)) (pe_callTy call_int1 (by rfl) T.int (by decide +kernel) (pa_cons (pe_cmpR op_eq (pe_ix (ix_tupK (K := g.K)) (pv 0) pe_int (fun _ _ => rfl)) pe_str (nomark _)) pa_nil))))))), ?_⟩
    -- what is not a source
    cases hv with
    | src t hx =>
      refine ⟨_, rfl, _, _, _, _, rfl, rfl, t, rfl, rfl, _, rfl, iteT ?_⟩
      exact ⟨(by show 0 ≤ sizeLine; decide), fun p hp => k _ _ (same_new hp) hp upd_same⟩
    | @gear a x y s0 r0 j t hx hy =>
      refine ⟨_, rfl, _, _, _, _, rfl, rfl, t, rfl, rfl, _, rfl, iteF ?_⟩
      refine ⟨_, rfl, _, _, _, _, rfl, rfl, t, rfl, (by show 1 ≤ sizeLine; decide), fun p1 hp1 => ?_⟩
      have s1 := same_new (o := .lst [.int j]) hp1
      refine ⟨_, rfl, _, _, _, _, rfl, rfl, Same.tup s1 t, rfl, (by show 1 ≤ sizeLine; decide), fun p2 hp2 => ?_⟩
      have s2 := s1.trans (same_new (o := .lst [y]) hp2)
      refine ⟨_, rfl, _, _, _, _, rfl, rfl, Same.tup s2 t, rfl, rfl, .inr ⟨_, rfl, p2, 0, _, rfl, rfl, upd_same, by decide, by decide, (by show 1 * 0 ≤ sizeLine; decide), fun p3 hp3 => ?_⟩⟩
      have s3 := s2.trans (same_new (o := .lst []) hp3)
      refine ⟨p1, p3, _, _, rfl, rfl, same_new hp3 _ _ (same_new hp2 _ _ upd_same), upd_same, (by show 1 ≤ sizeLine; decide), fun p hp => ?_⟩
      exact k p _ (s3.trans (same_new hp)) (none_of s3 hp) upd_same
    | @adder a x s0 i j t hx =>
      refine ⟨_, rfl, _, _, _, _, rfl, rfl, t, rfl, rfl, _, rfl, iteF ?_⟩
      refine ⟨_, rfl, _, _, _, _, rfl, rfl, t, rfl, (by show 1 ≤ sizeLine; decide), fun p1 hp1 => ?_⟩
      have s1 := same_new (o := .lst [.int j]) hp1
      refine ⟨_, rfl, _, _, _, _, rfl, rfl, Same.tup s1 t, rfl, (by show 1 ≤ sizeLine; decide), fun p2 hp2 => ?_⟩
      have s2 := s1.trans (same_new (o := .lst [.int i]) hp2)
      refine ⟨_, rfl, _, _, _, _, rfl, rfl, Same.tup s2 t, rfl, rfl, .inr ⟨_, rfl, p2, 1, _, rfl, rfl, upd_same, by decide, by decide, (by show 1 * 1 ≤ sizeLine; decide), fun p3 hp3 => ?_⟩⟩
      have s3 := s2.trans (same_new (o := .lst [.int i]) hp3)
      refine ⟨p1, p3, _, _, rfl, rfl, same_new hp3 _ _ (same_new hp2 _ _ upd_same), upd_same, (by show 2 ≤ sizeLine; decide), fun p hp => ?_⟩
      exact k p _ (s3.trans (same_new hp)) (none_of s3 hp) upd_same
    | @disc a x s0 i j t hx =>
      refine ⟨_, rfl, _, _, _, _, rfl, rfl, t, rfl, rfl, _, rfl, iteF ?_⟩
      refine ⟨_, rfl, _, _, _, _, rfl, rfl, t, rfl, (by show 1 ≤ sizeLine; decide), fun p1 hp1 => ?_⟩
      have s1 := same_new (o := .lst [.int j]) hp1
      refine ⟨_, rfl, _, _, _, _, rfl, rfl, Same.tup s1 t, rfl, (by show 1 ≤ sizeLine; decide), fun p2 hp2 => ?_⟩
      have s2 := s1.trans (same_new (o := .lst [.int i]) hp2)
      refine ⟨_, rfl, _, _, _, _, rfl, rfl, Same.tup s2 t, rfl, rfl, .inr ⟨_, rfl, p2, 0, _, rfl, rfl, upd_same, by decide, by decide, (by show 1 * 0 ≤ sizeLine; decide), fun p3 hp3 => ?_⟩⟩
      have s3 := s2.trans (same_new (o := .lst []) hp3)
      refine ⟨p1, p3, _, _, rfl, rfl, same_new hp3 _ _ (same_new hp2 _ _ upd_same), upd_same, (by show 1 ≤ sizeLine; decide), fun p hp => ?_⟩
      exact k p _ (s3.trans (same_new hp)) (none_of s3 hp) upd_same
abbrev s__law_above : Stmt := top 66
theorem sc__law_above : FnScope ["_law_one", "_law_other"] ["_law_one", "_law_other"] (defScope s__law_above) := ⟨rfl, rfl, rfl, by decide +kernel, rfl, by decide +kernel, by decide +kernel⟩
theorem ok_law_above (T : TxB g) (F : Def g "_law_above" s__law_above ["_law_one", "_law_other"]) : Has g CX0 1 "_law_above" ["_law_one", "_law_other"] (spAbove g.K) := by
  refine F.ok sc__law_above (fun vs H Q E h => ?_) (fun f cdv A outer s H vs Q E hr h => ?_)
  · obtain ⟨v, w, a, b, rfl, _⟩ := h
    rfl
  · obtain ⟨v, w, a, b, rfl, hv, hw, ft, k⟩ := h
    refine ⟨_, (pss_one (ps_ret (pe_cmpR op_gt (pe_op op_mulW (pe_ix (ix_tupK (K := g.K)) (pv 0) pe_int (fun _ _ => rfl)) (pe_ix (ix_tupK (K := g.K)) (pv 1) pe_int (fun _ _ => rfl))) (pe_op op_mulW (pe_ix (ix_tupK (K := g.K)) (pv 1) pe_int (fun _ _ => rfl)) (pe_ix (ix_tupK (K := g.K)) (pv 0) pe_int (fun _ _ => rfl))) (nomark _)))), ?_⟩
    obtain ⟨pa, rfl, ta⟩ := hv
    obtain ⟨pb, rfl, tb⟩ := hw
    refine ⟨_, rfl, _, _, _, _, rfl, rfl, ta, rfl, _, rfl, _, _, _, _, rfl, rfl, tb, rfl, _, _, rfl, rfl, fit_nd ft, _, rfl, _, _, _, _, rfl, rfl, tb, rfl, _, rfl, _, _, _, _, rfl, rfl, ta, rfl, _, _, rfl, rfl, fit_nd ft.symm, _, _, rfl, rfl, ?_⟩
    show Q (.bl (decide (b.num * (a.den : Int) < a.num * (b.den : Int)))) H
    rw [lt_rat]
    exact k
/-- no ends -/
def spNoEnds (K : PySem.W.Frag) : Sp := fun vs H Q _ => ∃ (a : Addr) (w : V), vs = [.ref a, w] ∧ SqT K H a [.non, .non] ∧ Q (.bl false) H
abbrev s__law_beyond : Stmt := top 67
theorem sc__law_beyond : FnScope ["_law_limits", "_law_number_here"] ["_law_limits", "_law_number_here"] (defScope s__law_beyond) := ⟨rfl, rfl, rfl, by decide +kernel, rfl, by decide +kernel, by decide +kernel⟩
theorem ok_law_beyond (T : TxB g) (F : Def g "_law_beyond" s__law_beyond ["_law_limits", "_law_number_here"]) (G__law_above : Has g CX0 1 "_law_above" ["_law_one", "_law_other"] (spAbove g.K)) : Has g CX0 2 "_law_beyond" ["_law_limits", "_law_number_here"] (spNoEnds g.K) := by
  refine F.ok sc__law_beyond (fun vs H Q E h => ?_) (fun f cdv A outer s H vs Q E hr h => ?_)
  · obtain ⟨a, w, rfl, _⟩ := h
    rfl
  · obtain ⟨a, w, rfl, t, k⟩ := h
    refine ⟨_, (pss_cons (ps_if (PW.pt (pw_and (pt_cmpR op_notN (pe_ix (ix_tupK (K := g.K)) (pv 0) pe_int (fun _ _ => rfl)) pe_non (nomark _)) (pw_and1 (pt_val (pe_has G__law_above hr (by decide) pass0 (pa_cons (pe_ix (ix_tupK (K := g.K)) (pv 0) pe_int (fun _ _ => rfl)) (pa_cons (pv 1) pa_nil))))))) (pss_one (ps_ret pe_bl)) pss_nil)
      (pss_one (ps_ret (pe_and (pe_cmpR op_notN (pe_ix (ix_tupK (K := g.K)) (pv 0) pe_int (fun _ _ => rfl)) pe_non (nomark _)) (pe_one (pe_has G__law_above hr (by decide) pass0 (pa_cons (pv 1) (pa_cons (pe_ix (ix_tupK (K := g.K)) (pv 0) pe_int (fun _ _ => rfl)) pa_nil)))))))), ?_⟩
    refine ⟨_, rfl, _, _, _, _, rfl, rfl, t, rfl, rfl, _, rfl, iteF (iteF ?_)⟩
    exact ⟨_, rfl, _, _, _, _, rfl, rfl, t, rfl, rfl, false, rfl, by rw [if_neg Bool.false_ne_true]; exact k⟩
abbrev s__law_long : Stmt := top 68
theorem sc__law_long : FnScope ["_law_number_here"] ["_law_number_here"] (defScope s__law_long) := ⟨rfl, rfl, rfl, by decide +kernel, rfl, by decide +kernel, by decide +kernel⟩
theorem ok_law_long (T : TxB g) (F : Def g "_law_long" s__law_long ["_law_number_here"]) : Has g CX0 1 "_law_long" ["_law_number_here"] (spLong g.K) := by
  refine F.ok sc__law_long (fun vs H Q E h => ?_) (fun f cdv A outer s H vs Q E hr h => ?_)
  · obtain ⟨v, q, rfl, _⟩ := h
    rfl
  · obtain ⟨v, q, rfl, hv, k⟩ := h
    refine ⟨_, (pss_one (ps_ret (pe_or (pe_cmpR op_ge (pe_callB call_abs (by rfl) T.abs (by decide +kernel) (pa_cons (pe_ix (ix_tupK (K := g.K)) (pv 0) pe_int (fun _ _ => rfl)) pa_nil)) (pe_op op_pow pe_int pe_int) (nomark _)) (pe_one (pe_cmpR op_ge (pe_ix (ix_tupK (K := g.K)) (pv 0) pe_int (fun _ _ => rfl)) (pe_op op_pow pe_int pe_int) (nomark _)))))), ?_⟩
    obtain ⟨a, rfl, t⟩ := hv
    refine ⟨_, rfl, _, _, _, _, rfl, rfl, t, rfl, _, rfl, _, _, rfl, rfl, ⟨by decide, by decide, by decide⟩, _, _, rfl, rfl, _, rfl, ?_⟩
    rw [abs_eq]
    have e1 : decide ((10 : Int) ^ (60 : Int).toNat ≤ (q.num.natAbs : Int)) = decide (10 ^ 60 ≤ q.num.natAbs) := by
      have : ((10 : Int) ^ (60 : Int).toNat ≤ (q.num.natAbs : Int)) ↔ (10 ^ 60 ≤ q.num.natAbs) := by
        rw [show (10 : Int) ^ (60 : Int).toNat = ((10 ^ 60 : Nat) : Int) from by decide +kernel]
        exact Int.ofNat_le
      exact decide_eq_decide.mpr this
    have e2 : decide ((10 : Int) ^ (60 : Int).toNat ≤ (q.den : Int)) = decide (10 ^ 60 ≤ q.den) := by
      have : ((10 : Int) ^ (60 : Int).toNat ≤ (q.den : Int)) ↔ (10 ^ 60 ≤ q.den) := by
        rw [show (10 : Int) ^ (60 : Int).toNat = ((10 ^ 60 : Nat) : Int) from by decide +kernel]
        exact Int.ofNat_le
      exact decide_eq_decide.mpr this
    rw [e1]
    unfold long at k
    cases hb : decide (10 ^ 60 ≤ q.num.natAbs) with
    | true =>
      rw [hb] at k
      rw [if_pos rfl]
      exact k
    | false =>
      rw [hb] at k
      rw [if_neg Bool.false_ne_true]
      refine ⟨_, rfl, _, _, _, _, rfl, rfl, t, rfl, _, _, rfl, rfl, ⟨by decide, by decide, by decide⟩, _, _, rfl, rfl, ?_⟩
      show Q (.bl (decide ((10 : Int) ^ (60 : Int).toNat ≤ (q.den : Int)))) H
      rw [e2]
      exact k
/-- how far a row's shaft goes, where only the moves of its drives are known -/
def spMove2 (K : PySem.W.Frag) : Sp := fun vs H Q _ => ∃ (v w : V) (sl ml : Addr) (r : Row) (us ws : List V) (ss ms : List Rat) (q : Rat), vs = [v, .ref sl, .ref ml, w] ∧ Rw K H v r ∧ SqL K H sl us ∧ Paired (Nm K H) us ss ∧ SqL K H ml ws ∧ Nm K H w q ∧
  (∀ j ∈ r.drives, ∃ u, ws[j]? = some u ∧ Nm K H u (ms.getD j 0) ∧ Sz 4000 (ms.getD j 0)) ∧ r.In ss.length ∧ r.small 200 4 ∧ (∀ x ∈ ss, Sz 200 x) ∧ ∀ u H', Same H H' → Nm K H' u (moveOf ss q r ms) → Q u H'
abbrev s__law_move : Stmt := top 70
theorem sc__law_move : FnScope ["_law_row", "_law_here", "_law_moves_here", "_law_number_here"] ["_law_row", "_law_here", "_law_moves_here", "_law_number_here"] (defScope s__law_move) := ⟨rfl, rfl, rfl, by decide +kernel, rfl, by decide +kernel, by decide +kernel⟩
theorem ok_law_move (T : TxB g) (F : Def g "_law_move" s__law_move ["_law_row", "_law_here", "_law_moves_here", "_law_number_here"]) (G__law_mul : Has g CX0 2 "_law_mul" ["_law_one", "_law_other"] (spTimes g.K)) (G__law_add : Has g CX0 2 "_law_add" ["_law_one", "_law_other"] (spPlus g.K)) :
    Has g CX0 3 "_law_move" ["_law_row", "_law_here", "_law_moves_here", "_law_number_here"] (spMove2 g.K) := by
  refine F.ok sc__law_move (fun vs H Q E h => ?_) (fun f cdv A outer s H vs Q E hr h => ?_)
  · obtain ⟨v, w, sl, ml, r, us, ws, ss, ms, q, rfl, _⟩ := h
    rfl
  · obtain ⟨v, w, sl, ml, r, us, ws, ss, ms, q, rfl, hv, hs, ps, hm, hw, hd, hin, hz, zs, k⟩ := h
    refine ⟨_, (pss_cons (ps_if (pt_cmpR op_eq (pe_ix (ix_tupK (K := g.K)) (pv 0) pe_int (fun _ _ => rfl)) pe_str (nomark _)) (pss_one (ps_ret (pv 3))) pss_nil)
      (pss_cons (ps_if (pt_cmpR op_eq (pe_ix (ix_tupK (K := g.K)) (pv 0) pe_int (fun _ _ => rfl)) pe_str (nomark _)) (pss_one (ps_ret (pe_has G__law_mul hr (by decide) pass0 (pa_cons (pe_ix (ix_tupK (K := g.K)) (pv 0) pe_int (fun _ _ => rfl)) (pa_cons (pe_ix (ix_listK (K := g.K)) (pv 2) (pe_ix (ix_tupK (K := g.K)) (pv 0) pe_int (fun _ _ => rfl)) (fun _ _ => rfl)) pa_nil))))) pss_nil)
      (pss_cons (ps_if (pt_cmpR op_eq (pe_ix (ix_tupK (K := g.K)) (pv 0) pe_int (fun _ _ => rfl)) pe_str (nomark _)) (pss_one (ps_ret (pe_has G__law_add hr (by decide) pass0 (pa_cons (pe_ix (ix_listK (K := g.K)) (pv 2) (pe_ix (ix_tupK (K := g.K)) (pv 0) pe_int (fun _ _ => rfl)) (fun _ _ => rfl)) (pa_cons (pe_ix (ix_listK (K := g.K)) (pv 2) (pe_ix (ix_tupK (K := g.K)) (pv 0) pe_int (fun _ _ => rfl)) (fun _ _ => rfl)) pa_nil))))) pss_nil)
      (pss_one (ps_ret (pe_has G__law_mul hr (by decide) pass0 (pa_cons (pe_ix (ix_listK (K := g.K)) (pv 1) (pe_ix (ix_tupK (K := g.K)) (pv 0) pe_int (fun _ _ => rfl)) (fun _ _ => rfl)) (pa_cons (pe_ix (ix_listK (K := g.K)) (pv 2) (pe_ix (ix_tupK (K := g.K)) (pv 0) pe_int (fun _ _ => rfl)) (fun _ _ => rfl)) pa_nil)))))))), ?_⟩
    cases hv with
    | src t hx => refine ⟨_, rfl, _, _, _, _, rfl, rfl, t, rfl, rfl, _, rfl, iteT ⟨_, rfl, k _ _ (Same.refl _) hw⟩⟩
    | @gear a x y s r j t hx hy =>
      obtain ⟨vj, hvj, nj, zj⟩ := hd j (by simp [Row.drives])
      refine ⟨_, rfl, _, _, _, _, rfl, rfl, t, rfl, rfl, _, rfl, iteF ?_⟩
      refine ⟨_, rfl, _, _, _, _, rfl, rfl, t, rfl, rfl, _, rfl, iteT ?_⟩
      exact ⟨_, rfl, _, _, _, _, rfl, rfl, t, rfl, _, rfl, _, rfl, _, _, _, _, rfl, rfl, t, rfl, _, _, _, _, rfl, rfl, hm, atI_nat hvj, y, vj, r, _, rfl, hy, nj, Fit.of hz.2 zj (by decide), fun u H' s1 hu => k u H' s1 hu⟩
    | @adder a x s i j t hx =>
      obtain ⟨vi, hvi, ni, zi⟩ := hd i (by simp [Row.drives])
      obtain ⟨vj, hvj, nj, zj⟩ := hd j (by simp [Row.drives])
      refine ⟨_, rfl, _, _, _, _, rfl, rfl, t, rfl, rfl, _, rfl, iteF ?_⟩
      refine ⟨_, rfl, _, _, _, _, rfl, rfl, t, rfl, rfl, _, rfl, iteF ?_⟩
      refine ⟨_, rfl, _, _, _, _, rfl, rfl, t, rfl, rfl, _, rfl, iteT ?_⟩
      exact ⟨_, rfl, _, rfl, _, _, _, _, rfl, rfl, t, rfl, _, _, _, _, rfl, rfl, hm, atI_nat hvi, _, rfl, _, rfl, _, _, _, _, rfl, rfl, t, rfl, _, _, _, _, rfl, rfl, hm, atI_nat hvj, vi, vj, _, _, rfl, ni, nj, Fit.of zi zj (by decide), fun u H' s1 hu => k u H' s1 hu⟩
    | @disc a x s i j t hx =>
      obtain ⟨vj, hvj, nj, zj⟩ := hd j (by simp [Row.drives])
      obtain ⟨qi, hqi⟩ := ex_at (xs := ss) (i := i) hin.1
      obtain ⟨vi, hvi, ni⟩ := Pd.get ps hqi
      refine ⟨_, rfl, _, _, _, _, rfl, rfl, t, rfl, rfl, _, rfl, iteF ?_⟩
      refine ⟨_, rfl, _, _, _, _, rfl, rfl, t, rfl, rfl, _, rfl, iteF ?_⟩
      refine ⟨_, rfl, _, _, _, _, rfl, rfl, t, rfl, rfl, _, rfl, iteF ?_⟩
      refine ⟨_, rfl, _, rfl, _, _, _, _, rfl, rfl, t, rfl, _, _, _, _, rfl, rfl, hs, atI_nat hvi, _, rfl, _, rfl, _, _, _, _, rfl, rfl, t, rfl, _, _, _, _, rfl, rfl, hm, atI_nat hvj, vi, vj, _, _, rfl, ni, nj, Fit.of (zs _ (List.mem_of_getElem? hqi)) zj (by decide), fun u H' s1 hu => ?_⟩
      refine k u H' s1 ?_
      show Nm g.K H' u (ss.getD i 0 * ms.getD j 0)
      rw [getD_at hqi]
      exact hu
end
end K79
end

section
/-! K79R: the moves, once more, in plain Lean. -/
namespace K79
theorem solveS_keep {rows : List Row} {f : Nat → Row → List Rat → Rat} {j : Nat} : ∀ {st2 : List Nat} (st1 : List Nat), j ∉ st2 → (solveS rows f (st1 ++ st2))[j]? = (solveS rows f st1)[j]?
  | [], st1, _ => by rw [List.append_nil]
  | x :: st2, st1, h => by
    have e : st1 ++ x :: st2 = (st1 ++ [x]) ++ st2 := by simp
    rw [e, solveS_keep (st1 ++ [x]) fun m => h (List.mem_cons_of_mem _ m)]
    cases hr : rows[x]? with
    | none =>
      unfold solveS
      rw [List.foldl_append, List.foldl_cons, List.foldl_nil, hr]
    | some r => rw [solveS_snoc hr, List.getElem?_set_ne fun z => h (by rw [z]; exact List.mem_cons_self)]
theorem outs_leans (outs : List Bool) (stood : List Rat) (q : Rat) : Leans (fun k r ms => if outs.getD k false = true then 0 else moveOf stood q r ms) := by
  intro k r ms ms' h
  show (if _ then _ else _) = (if _ then _ else _)
  have z : moveOf stood q r ms = moveOf stood q r ms' := moveOf_leans stood q k r ms ms' h
  rw [z]
theorem moves_fix {b : B} (h : WF b) {q : Rat} {k : Nat} {r : Row} (hr : b.rows[k]? = some r) (ho : b.outs.getD k false = false) : (b.moves q).getD k 0 = moveOf b.stood q r (b.moves q) := by
  have z := solve_fix (outs_leans b.outs b.stood q) h.m hr
  rw [List.getD_eq_getElem?_getD]
  show (solve b.rows _)[k]?.getD 0 = _
  rw [z, if_neg (by rw [ho]; exact Bool.false_ne_true)]
  rfl
theorem drive_small {b : B} (h : WF b) {q : Rat} (hq : Sz 20 q) {k : Nat} {r : Row} (hr : b.rows[k]? = some r) {j : Nat} (hj : j ∈ r.drives) : Sz 4000 ((b.moves q).getD j 0) := by
  have hk := h.m.mem (List.getElem?_eq_some_iff.mp hr).1
  obtain ⟨i, hi⟩ := List.mem_iff_getElem?.mp hk
  have hp := ord_pre b.rows
  have hji := hp.dr i k hi r hr j hj
  have il : i ≤ 4 := by
    have h1 := (List.getElem?_eq_some_iff.mp hi).1
    have h2 := hp.len
    have := h.n5
    omega
  have e : ord b.rows = (ord b.rows).take i ++ (ord b.rows).drop i := (List.take_append_drop i _).symm
  have nd : j ∉ (ord b.rows).drop i := fun m => by
    have n := hp.nd
    rw [e, List.nodup_append] at n
    exact n.2.2 j hji j m rfl
  have ek : (b.moves q)[j]? = (solveS b.rows (fun k r ms => if b.outs.getD k false = true then 0 else moveOf b.stood q r ms) ((ord b.rows).take i))[j]? := by
    show (solveS b.rows _ (ord b.rows))[j]? = _
    have z := solveS_keep (rows := b.rows) (f := fun k r ms => if b.outs.getD k false = true then 0 else moveOf b.stood q r ms) (st2 := (ord b.rows).drop i) ((ord b.rows).take i) nd
    rw [← e] at z
    exact z
  rw [List.getD_eq_getElem?_getD, ek, ← List.getD_eq_getElem?_getD]
  refine mem_getD (fun x hx => ?_) (sz_zero.mono (by decide))
  refine (moves_sz (b := 20) (by decide) h.zr h.zs hq _ x hx).mono ?_
  have key : ∀ n, n ≤ 4 → bnd 20 n ≤ 4000 := by decide
  refine key _ ?_
  rw [List.length_take]
  omega
end K79
end

section
set_option linter.all false
set_option maxRecDepth 100000
set_option maxHeartbeats 4000000
/-! K79W6: the law's own bench: fresh, its moves. -/
namespace K79
open PySem PySem.Spec PyProof.Rows L2

structure StA where
  rl : Addr
  sl : Addr
  ul : Addr
  ol : Addr
  ll : Addr
/-- the law's own bench in the heap -/
structure StAt (K : PySem.W.Frag) (H : Hp) (s : Addr) (t : StA) (b : B) : Prop where
  ob : H s = some (.lst [.ref t.rl, .ref t.sl, .ref t.ul, .ref t.ol, .ref t.ll, .int (b.past : Int)])
  rows : ∃ vs, H t.rl = some (.lst vs) ∧ Paired (Rw K H) vs b.rows
  stood : ∃ vs, H t.sl = some (.lst vs) ∧ Paired (Nm K H) vs b.stood
  sums : ∃ vs, H t.ul = some (.lst vs) ∧ Paired (Nm K H) vs b.sums
  outs : H t.ol = some (.lst (b.outs.map V.bl))
  lims : ∃ vs, H t.ll = some (.lst vs) ∧ Paired (Lm K H) vs b.lims
def StA.all (t : StA) : List Addr := [t.rl, t.sl, t.ul, t.ol, t.ll]
section
variable {K : PySem.W.Frag} {H H' : Hp} {s : Addr} {t : StA} {b : B}
theorem StAt.fr {F : List Addr} (h : StAt K H s t b) (f : Fr F H H') (n : ∀ x ∈ s :: t.all, x ∉ F) : StAt K H' s t b := by
  have k : ∀ x o, x ∈ s :: t.all → H x = some o → H' x = some o := fun x o m e => f.get e (n x m)
  obtain ⟨v1, r1, p1⟩ := h.rows
  obtain ⟨v2, r2, p2⟩ := h.stood
  obtain ⟨v3, r3, p3⟩ := h.sums
  obtain ⟨v5, r5, p5⟩ := h.lims
  exact ⟨k _ _ (by simp) h.ob, ⟨v1, k _ _ (by simp [StA.all]) r1, p1.mono fun _ _ z => z.fr f⟩, ⟨v2, k _ _ (by simp [StA.all]) r2, p2.mono fun _ _ z => z.fr f⟩, ⟨v3, k _ _ (by simp [StA.all]) r3, p3.mono fun _ _ z => z.fr f⟩, k _ _ (by simp [StA.all]) h.outs,
    ⟨v5, k _ _ (by simp [StA.all]) r5, p5.mono fun _ _ z => z.fr f⟩⟩
theorem StAt.same (h : StAt K H s t b) (f : Same H H') : StAt K H' s t b := h.fr (F := []) (Fr.of f) fun _ _ z => nomatch z
end
section
variable {g : G}
def spFresh (K : PySem.W.Frag) : Sp := fun vs H Q _ => ∃ (m : Addr) (us : List V) (rows : List Row), vs = [.ref m] ∧ H m = some (.lst us) ∧ Paired (Rw K H) us rows ∧ rows.length ≤ 120 ∧
  ∀ s t H', Same H H' → (∀ x ∈ s :: t.all, H x = none) → s ∉ t.all → StAt K H' s t (fresh rows) → Q (.ref s) H'
abbrev s__law_fresh : Stmt := top 69
theorem sc__law_fresh : FnScope ["_law_machine_here", "_law_here", "_law_row"] ["_law_machine_here"] (defScope s__law_fresh) := ⟨rfl, rfl, rfl, by decide +kernel, rfl, by decide +kernel, by decide +kernel⟩
theorem ok_law_fresh (T : TxB g) (F : Def g "_law_fresh" s__law_fresh ["_law_machine_here"]) : Has g CX0 1 "_law_fresh" ["_law_machine_here"] (spFresh g.K) := by
  refine F.ok sc__law_fresh (fun vs H Q E h => ?_) (fun f cdv A outer s H vs Q E hr h => ?_)
  · obtain ⟨m, us, rows, rfl, _⟩ := h
    rfl
  · obtain ⟨m, us, rows, rfl, hm, pm, h120, k⟩ := h
    refine ⟨_, (pss_cons (ps_setLc (i := 1) (own := [("_law_row", 2)]) (g := gName 2) (tt := tYes) rfl sc__law_fresh.nd rfl rfl (sw_true rfl rfl rfl (by decide +kernel)) (pi_list (pv 0)) (blkOk_by (own := [("_law_row", 2)]) (N := ["_law_machine_here", "_law_here", "_law_row"]) (sc := defScope s__law_fresh) (by decide +kernel)) (fun _ _ _ _ _ => (pg_name (i := 2) sc__law_fresh.nd rfl (Or.inl rfl))) (fun _ _ _ _ _ => pts_nil) (fun _ _ _ _ _ => (pe_ix (ix_tupK (K := g.K)) (pv 2) pe_int (fun _ _ => rfl))))
      (pss_one (ps_ret (pe_lst (pa_cons (pe_callTy (call_listK (K := g.K)) (by rfl) T.list (by decide +kernel) (pa_cons (pv 0) pa_nil)) (pa_cons (pv 1) (pa_cons (pe_lc (own := [("_law_row", 2)]) (g := gName 2) (tt := tYes) rfl sc__law_fresh.nd (pi_list (pv 0)) (blkOk_by (own := [("_law_row", 2)]) (N := ["_law_machine_here", "_law_here", "_law_row"]) (sc := defScope s__law_fresh) (by decide +kernel)) (fun _ _ _ _ _ => (pg_name (i := 2) sc__law_fresh.nd rfl (Or.inl rfl))) (fun _ _ _ _ _ => pts_nil) (fun _ _ _ _ _ => (pe_tup (pa_cons pe_int (pa_cons pe_int pa_nil))))) (pa_cons (pe_lc (own := [("_law_row", 2)]) (g := gName 2) (tt := tYes) rfl sc__law_fresh.nd (pi_list (pv 0)) (blkOk_by (own := [("_law_row", 2)]) (N := ["_law_machine_here", "_law_here", "_law_row"]) (sc := defScope s__law_fresh) (by decide +kernel)) (fun _ _ _ _ _ => (pg_name (i := 2) sc__law_fresh.nd rfl (Or.inl rfl))) (fun _ _ _ _ _ => pts_nil) (fun _ _ _ _ _ => pe_bl)) (pa_cons (pe_lc (own := [("_law_row", 2)]) (g := gName 2) (tt := tYes) rfl sc__law_fresh.nd (pi_list (pv 0)) (blkOk_by (own := [("_law_row", 2)]) (N := ["_law_machine_here", "_law_here", "_law_row"]) (sc := defScope s__law_fresh) (by decide +kernel)) (fun _ _ _ _ _ => (pg_name (i := 2) sc__law_fresh.nd rfl (Or.inl rfl))) (fun _ _ _ _ _ => pts_nil) (fun _ _ _ _ _ => (pe_tup (pa_cons pe_non (pa_cons pe_non pa_nil))))) (pa_cons pe_int pa_nil)))))))))), ?_⟩
    have lm := pm.length
    refine ⟨_, rfl, _, rfl, ⟨_, SqL.of hm⟩, lc_map (walk_list (K := g.K) (a := m) (xs := us)) (fun D H y i => ∃ r, rows[i]? = some r ∧ Nm g.K H y r.start) (by omega) (fun D l Ha Hb y i hD hk ⟨r, e, h⟩ => ⟨r, e, h.but hD hk⟩) (fun H' s => SqL.of (s _ _ hm)) ?_ ?_⟩
    · rintro D i w H2 H3 Nx hi hD s2 hl ⟨rfl, hw⟩ kk
      obtain ⟨r, hr2, rw2⟩ := Pd.getV pm hw
      obtain ⟨ar, z, x0, l, rfl, tr, nm⟩ := rw2.start1
      exact ⟨rfl, _, rfl, _, _, _, _, rfl, rfl, Same.tup s2 tr, atI_nat (j := 1) rfl, kk _ _ (Same.refl _) ⟨r, hr2, nm.same s2⟩⟩
    intro p2 y2 H2 hp2 s2 q2 l2 v2
    refine ⟨_, rfl, _, _, rfl, .inl (SqL.of (s2 _ _ hm)), fun p1 hp1 => ?_⟩
    have s1 := s2.trans (same_new (o := .lst us) hp1)
    have q21 := same_new (o := .lst us) hp1 _ _ q2
    refine ⟨_, rfl, _, rfl, _, rfl, ⟨_, SqL.of (s1 _ _ hm)⟩, lc_map (walk_list (K := g.K) (a := m) (xs := us)) (fun D H y i => Nm g.K H y 0) (by omega) (fun D l Ha Hb y i hD hk h => h.but hD hk) (fun H' s => SqL.of (s _ _ (s1 _ _ hm))) ?_ ?_⟩
    · rintro D i w H3 H4 Nx hi hD s3 hl ⟨rfl, hw⟩ kk
      exact ⟨rfl, (by show 2 ≤ sizeLine; decide), fun t ht => kk _ _ (same_new ht) ⟨t, rfl, .inl (.inl upd_same)⟩⟩
    intro p3 y3 H3 hp3 s3 q3 l3 v3
    have s13 := s1.trans s3
    refine ⟨_, rfl, _, rfl, ⟨_, SqL.of (s13 _ _ hm)⟩, lc_map (walk_list (K := g.K) (a := m) (xs := us)) (fun D H y i => y = .bl false) (by omega) (fun D l Ha Hb y i hD hk h => h) (fun H' s => SqL.of (s _ _ (s13 _ _ hm))) ?_ ?_⟩
    · rintro D i w H4 H5 Nx hi hD s4 hl ⟨rfl, hw⟩ kk
      exact ⟨rfl, kk _ _ (Same.refl _) rfl⟩
    intro p4 y4 H4 hp4 s4 q4 l4 v4
    have s14 := s13.trans s4
    refine ⟨_, rfl, _, rfl, ⟨_, SqL.of (s14 _ _ hm)⟩, lc_map (walk_list (K := g.K) (a := m) (xs := us)) (fun D H y i => Lm g.K H y (none, none)) (by omega) (fun D l Ha Hb y i hD hk h => h.but hD hk) (fun H' s => SqL.of (s _ _ (s14 _ _ hm))) ?_ ?_⟩
    · rintro D i w H5 H6 Nx hi hD s5 hl ⟨rfl, hw⟩ kk
      exact ⟨rfl, (by show 2 ≤ sizeLine; decide), fun t ht => kk _ _ (same_new ht) ⟨t, _, _, rfl, .inl (.inl upd_same), rfl, rfl⟩⟩
    intro p5 y5 H5 hp5 s5 q5 l5 v5
    refine ⟨(by show 6 ≤ sizeLine; decide), fun p6 hp6 => ?_⟩
    have s56 := same_new (o := .lst [.ref p1, .ref p2, .ref p3, .ref p4, .ref p5, .int 0]) hp6
    have s15 := s14.trans s5
    have s46 := s5.trans s56
    have s36 := s4.trans s46
    have s26 := s3.trans s36
    have P2 : Paired (Nm g.K H2) y2 (rows.map Row.start) := pd_map (l2.trans lm) v2
    have hz : ∀ {n : Nat} {y : List V}, y.length = us.length → ∀ (i : Nat) (x : V), y[i]? = some x → ∃ r, rows[i]? = some r := fun hl i x hi => ex_at (by have := (List.getElem?_eq_some_iff.mp hi).1; omega)
    have P3 : Paired (Nm g.K H3) y3 (rows.map fun _ => (0 : Rat)) := pd_map (l3.trans lm) fun i y hi => let ⟨r, e⟩ := hz (n := 0) l3 i y hi; ⟨r, e, v3 i y hi⟩
    have P4 : y4 = (rows.map fun _ => false).map V.bl := by
      refine List.ext_getElem? fun i => ?_
      rw [List.map_map, List.getElem?_map]
      by_cases hi : i < y4.length
      · obtain ⟨y, hy⟩ := ex_at hi
        obtain ⟨r, e⟩ := ex_at (xs := rows) (i := i) (by omega)
        rw [hy, e, v4 i y hy]
        rfl
      · rw [List.getElem?_eq_none (by omega), List.getElem?_eq_none (by omega)]
        rfl
    subst P4
    have P5 : Paired (Lm g.K H5) y5 (rows.map fun _ => ((none, none) : Option Rat × Option Rat)) := pd_map (l5.trans lm) fun i y hi => let ⟨r, e⟩ := hz (n := 0) l5 i y hi; ⟨r, e, v5 i y hi⟩
    have e1 := s26 _ _ (upd_same (H := H2) (a := p1) (o := .lst us))
    have e2 := s26 _ _ q21
    have e3 := s36 _ _ q3
    have e4 := s46 _ _ q4
    have e5 := s56 _ _ q5
    have s16 := s15.trans s56
    refine k p6 ⟨p1, p2, p3, p4, p5⟩ _ s16 (fun x hx => ?_) (fun hx => ?_) ⟨upd_same, ⟨us, e1, pm.mono fun _ _ z => z.same s16⟩, ⟨y2, e2, P2.mono fun _ _ z => z.same ((same_new hp1).trans s26)⟩, ⟨y3, e3, P3.mono fun _ _ z => z.same s36⟩, e4, ⟨y5, e5, P5.mono fun _ _ z => Lm.fr (F := []) (Fr.of s56) z⟩⟩
    · simp only [StA.all, List.mem_cons, List.not_mem_nil, or_false] at hx
      rcases hx with rfl | rfl | rfl | rfl | rfl | rfl
      · exact none_of s15 hp6
      · exact none_of s2 hp1
      · exact hp2
      · exact none_of s1 hp3
      · exact none_of s13 hp4
      · exact none_of s14 hp5
    · simp only [StA.all, List.mem_cons, List.not_mem_nil, or_false] at hx
      rcases hx with rfl | rfl | rfl | rfl | rfl
      · have := none_of (s3.trans (s4.trans s5)) hp6
        rw [upd_same] at this
        cases this
      · have := none_of (s3.trans (s4.trans s5)) hp6
        rw [q21] at this
        cases this
      · have := none_of (s4.trans s5) hp6
        rw [q3] at this
        cases this
      · have := none_of s5 hp6
        rw [q4] at this
        cases this
      · rw [q5] at hp6
        cases hp6
def opD : Option Rat → PyData
  | none => .none
  | some q => nmD q
theorem On.dp {K : PySem.W.Frag} {H : Hp} {v : V} {o : Option Rat} (h : On K H v o) : Dp K H v (opD o) := by
  cases o with
  | none =>
    cases (show v = .non from h)
    exact .non
  | some q => exact Nm.dp h
theorem On.but {K : PySem.W.Frag} {D : Addr} {l : List V} {Ha Hb : Hp} {v : V} {o : Option Rat} (hD : Ha D = some (.lst l)) (k : ∀ b o, Ha b = some o → b ≠ D → Hb b = some o) (h : On K Ha v o) : On K Hb v o := by
  cases o with
  | none => exact h
  | some q => exact Nm.but hD k h
theorem On.none_iff {K : PySem.W.Frag} {H : Hp} {v : V} {o : Option Rat} (h : On K H v o) : decide (v = .non) = o.isNone := by
  cases o with
  | none => exact decide_eq_true h
  | some q =>
    obtain ⟨a, rfl, _⟩ := h
    exact decide_eq_false fun z => nomatch z
theorem okD_op (o : Option Rat) : OkD 1 (opD o) := by
  cases o with
  | none => exact okD_none.mono (by decide)
  | some q => exact okD_nm q
theorem any_none : ∀ (os : List (Option Rat)), ((os.map opD).any fun z => PyData.eqv z .none) = os.any Option.isNone
  | [] => rfl
  | o :: os => by
    rw [List.map_cons, List.any_cons, List.any_cons, any_none os]
    cases o <;> rfl
theorem mem_take_le {α : Type} {l : List α} {x : α} {a b : Nat} (h : a ≤ b) (m : x ∈ l.take a) : x ∈ l.take b := by
  obtain ⟨i, hi⟩ := List.mem_iff_getElem?.mp m
  rw [List.getElem?_take] at hi
  split at hi
  · rename_i hia
    exact List.mem_iff_getElem?.mpr ⟨i, by rw [List.getElem?_take, if_pos (by omega)]; exact hi⟩
  · cases hi
/-- moves known so far -/
structure Kn (b : B) (q : Rat) (os : List (Option Rat)) : Prop where
  len : os.length = b.rows.length
  so : ∀ (k : Nat) (x : Rat), os[k]? = some (some x) → x = (b.moves q).getD k 0
def known (os : List (Option Rat)) (k : Nat) : Prop := ∃ x, os[k]? = some (some x)
def spMoves2 (K : PySem.W.Frag) : Sp := fun vs H Q _ => ∃ (s : Addr) (t : StA) (b : B) (w : V) (q : Rat), vs = [.ref s, w] ∧ StAt K H s t b ∧ WF b ∧ (∀ o ∈ b.outs, o = false) ∧ Nm K H w q ∧ Sz 20 q ∧
  ∀ p H' us, Same H H' → H p = none → H' p = some (.lst us) → Paired (Nm K H') us (b.moves q) → Q (.ref p) H'
abbrev s__law_moves : Stmt := top 71
theorem sc__law_moves : FnScope ["_law_state", "_law_number_here", "_law_rows", "_law_here", "_law_outs", "_law_moves_here", "_law_turn", "_law_k", "_law_row", "_law_known", "_law_j"] ["_law_state", "_law_number_here"] (defScope s__law_moves) := ⟨rfl, rfl, rfl, by decide +kernel, rfl, by decide +kernel, by decide +kernel⟩
theorem ok_law_moves (T : TxB g) (F : Def g "_law_moves" s__law_moves ["_law_state", "_law_number_here"]) (G__law_drives : Has g CX0 1 "_law_drives" ["_law_row"] (spDrives2 g.K))
    (G__law_move : Has g CX0 3 "_law_move" ["_law_row", "_law_here", "_law_moves_here", "_law_number_here"] (spMove2 g.K)) : Has g CX0 4 "_law_moves" ["_law_state", "_law_number_here"] (spMoves2 g.K) := by
  refine F.ok sc__law_moves (fun vs H Q E h => ?_) (fun f cdv A outer s H vs Q E hr h => ?_)
  · obtain ⟨s, t, b, w, q, rfl, _⟩ := h
    rfl
  · obtain ⟨s, t, b, w, q, rfl, st, wf, ho, hw, zq, k⟩ := h
    refine ⟨_, (pss_cons (ps_par3 (i := 2) (j := 3) (l := 4) (by rfl) sc__law_moves.nd rfl rfl rfl (by decide) (by decide) (by decide) rfl rfl rfl (pa_cons (pe_ix (ix_listK (K := g.K)) (pv 0) pe_int (fun _ _ => rfl)) (pa_cons (pe_ix (ix_listK (K := g.K)) (pv 0) pe_int (fun _ _ => rfl)) (pa_cons (pe_ix (ix_listK (K := g.K)) (pv 0) pe_int (fun _ _ => rfl)) pa_nil))) (by rfl))
      (pss_cons (ps_set (i := 5) sc__law_moves.nd rfl (Or.inr rfl) (pe_lc (own := [("_law_row", 8)]) (g := gName 8) (tt := tYes) rfl sc__law_moves.nd (pi_list (pv 2)) (blkOk_by (own := [("_law_row", 8)]) (N := ["_law_state", "_law_number_here", "_law_rows", "_law_here", "_law_outs", "_law_moves_here", "_law_turn", "_law_k", "_law_row", "_law_known", "_law_j"]) (sc := defScope s__law_moves) (by decide +kernel)) (fun _ _ _ _ _ => (pg_name (i := 8) sc__law_moves.nd rfl (Or.inl rfl))) (fun _ _ _ _ _ => pts_nil) (fun _ _ _ _ _ => pe_non)))
      (pss_cons (ps_for PassesOwn.never rfl (pi_range1 (by rfl) T.range (pa_cons (pe_callB (call_lenK (K := g.K)) (by rfl) T.len PySem.boot_len (pa_cons (pv 2) pa_nil)) pa_nil)) (pg_name (i := 6) sc__law_moves.nd rfl (Or.inl rfl))
      (pss_one (ps_for PassesOwn.never rfl (pi_enum (by rfl) T.enumerate (pa_cons (pv 2) pa_nil)) (pg_tup rfl (pgs_cons (pg_name (i := 7) sc__law_moves.nd rfl (Or.inl rfl)) (pgs_cons (pg_name (i := 8) sc__law_moves.nd rfl (Or.inl rfl)) pgs_nil)))
      (pss_cons (ps_set (i := 9) sc__law_moves.nd rfl (Or.inl rfl) (pe_or (pe_ix (ix_listK (K := g.K)) (pv 4) (pv 7) (fun _ _ => rfl)) (pe_one (pe_cmpR (op_notInK (K := g.K) (hu65 hr)) pe_non (pe_lc (own := [("_law_j", 10)]) (g := gName 10) (tt := tYes) rfl sc__law_moves.nd (pi_list (pe_has G__law_drives hr (by decide) pass0 (pa_cons (pv 8) pa_nil))) (blkOk_by (own := [("_law_j", 10)]) (N := ["_law_state", "_law_number_here", "_law_rows", "_law_here", "_law_outs", "_law_moves_here", "_law_turn", "_law_k", "_law_row", "_law_known", "_law_j"]) (sc := defScope s__law_moves) (by decide +kernel)) (fun _ _ _ _ _ => (pg_name (i := 10) sc__law_moves.nd rfl (Or.inl rfl))) (fun _ _ _ _ _ => pts_nil) (fun _ _ _ _ _ => (pe_ix (ix_listK (K := g.K)) (pv 5) (pv 10) (fun _ _ => rfl)))) rfl))))
      (pss_one (ps_if (PW.pt (pw_and (pt_cmpR op_isN (pe_ix (ix_listK (K := g.K)) (pv 5) (pv 7) (fun _ _ => rfl)) pe_non (nomark _)) (pw_and1 (pt_val (pv 9))))) (pss_one (ps_asg (pe_ifExp (pt_val (pe_ix (ix_listK (K := g.K)) (pv 4) (pv 7) (fun _ _ => rfl))) (pe_tup (pa_cons pe_int (pa_cons pe_int pa_nil))) (pe_has G__law_move hr (by decide) pass0 (pa_cons (pv 8) (pa_cons (pv 3) (pa_cons (pv 5) (pa_cons (pv 1) pa_nil)))))) (pg_sub (pv 5) (pv 7) set_list))) pss_nil))))))
      (pss_one (ps_ret (pv 5)))))), ?_⟩
    obtain ⟨v1, r1, p1⟩ := st.rows
    obtain ⟨v2, r2, p2⟩ := st.stood
    have l1 := p1.length
    have n5 := wf.n5
    have hord := ord_pre b.rows
    have hoD : ∀ k, b.outs.getD k false = false := fun k => by
      rw [List.getD_eq_getElem?_getD]
      cases e : b.outs[k]? with
      | none => rfl
      | some o => exact ho o (List.mem_of_getElem? e)
    refine ⟨_, rfl, _, _, _, _, rfl, rfl, SqL.of st.ob, rfl, _, rfl, _, _, _, _, rfl, rfl, SqL.of st.ob, rfl, _, rfl, _, _, _, _, rfl, rfl, SqL.of st.ob, rfl, _, _, _, rfl, ?_⟩
    refine ⟨_, rfl, _, rfl, ⟨_, SqL.of r1⟩, lc_map (walk_list (K := g.K) (a := t.rl) (xs := v1)) (fun D H y i => y = .non) (by omega) (fun D l Ha Hb y i hD hk h => h) (fun H' s => SqL.of (s _ _ r1)) ?_ ?_⟩
    · rintro D i x H2 H3 Nx hi hD s2 hl ⟨rfl, hx⟩ kk
      exact ⟨rfl, kk _ _ (Same.refl _) rfl⟩
    intro D y0 H1 hD s1 q0 l0 h0
    have P0 : Paired (On g.K H1) y0 (List.replicate b.rows.length none) := by
      refine pd_of (by rw [List.length_replicate]; omega) fun i y hi => ⟨none, ?_, h0 i y hi⟩
      rw [List.getElem?_replicate, if_pos]
      have := (List.getElem?_eq_some_iff.mp hi).1
      omega
    refine ⟨_, rfl, _, _, rfl, .inl (SqL.of (s1 _ _ r1)), _, rfl, by omega, by omega, for_it (walk_range (lo := 0) (n := _))
      (fun i σ H' => ∃ x6 x7 x8 x9 ws os, σ = [some (.ref s), some w, some (.ref t.rl), some (.ref t.sl), some (.ref t.ol), some (.ref D), x6, x7, x8, x9, none] ∧ Same H H' ∧ H' D = some (.lst ws) ∧ Paired (On g.K H') ws os ∧ Kn b q os ∧ ∀ k ∈ (ord b.rows).take i, known os k)
      ⟨none, none, none, none, y0, _, rfl, s1, q0, P0, ⟨List.length_replicate, fun k x e => ?_⟩, fun k hk => by rw [List.take_zero] at hk; cases hk⟩ (fun _ _ _ _ _ => True.intro) ?_ ?_⟩
    · rw [List.getElem?_replicate] at e
      split at e <;> cases e
    · rintro i x σ H3 H4 hi ⟨x6, x7, x8, x9, ws, os, rfl, s3, q3, p3, kn, al⟩ ⟨rfl, hx⟩
      refine ⟨_, rfl, _, _, rfl, SqL.of (s3 _ _ r1), for_it (walk_enum (K := g.K) (a := t.rl) (xs := v1))
        (fun j σ H' => ∃ x6 x7 x8 x9 ws os, σ = [some (.ref s), some w, some (.ref t.rl), some (.ref t.sl), some (.ref t.ol), some (.ref D), x6, x7, x8, x9, none] ∧ Same H H' ∧ H' D = some (.lst ws) ∧ Paired (On g.K H') ws os ∧ Kn b q os ∧ (∀ k ∈ (ord b.rows).take i, known os k) ∧ ∀ k ∈ (ord b.rows).take (i + 1), k < j → known os k)
        ⟨_, x7, x8, x9, ws, os, rfl, s3, q3, p3, kn, al, fun k _ hk => absurd hk (Nat.not_lt_zero k)⟩ (fun j σ H' _ ⟨_, _, _, _, _, _, _, h, _⟩ => SqL.of (h _ _ r1)) ?_ ?_⟩
      · rintro j x σ H5 H6 hj ⟨x6, x7, x8, x9, ws, os, rfl, s5, q5, p5, kn, al, al2⟩ ⟨T2, u1, u2, rfl, hT2, rfl, hu1, hu2⟩
        cases hu1
        obtain ⟨r, hr1, rw1⟩ := Pd.getV p1 hu2
        have s6 := same_new (o := .tup [.int j, u2]) hT2
        have s56 := s5.trans s6
        have q6 := s6 _ _ q5
        have p6 := p5.mono fun _ _ z => On.fr (F := []) (Fr.of s6) z
        have lw := p6.length
        refine ⟨T2, _, rfl, .inl (.inl upd_same), rfl, _, _, rfl, _, _, rfl, rfl, ?_⟩
        have hjo : j < b.outs.length := by rw [wf.lo]; omega
        refine ⟨_, rfl, _, rfl, _, _, _, _, rfl, rfl, SqL.of (s56 _ _ st.outs), atI_nat (outs_at hjo), _, rfl, ?_⟩
        rw [hoD j, if_neg Bool.false_ne_true]
        refine ⟨_, rfl, _, r, rfl, rw1.same s56, fun pd H7 s7 hpd0 hpd => ?_⟩
        have s57 := s56.trans s7
        have q7 := s7 _ _ q6
        have p7 := p6.mono fun _ _ z => On.fr (F := []) (Fr.of s7) z
        have drl : ∀ d ∈ dr2 r, d < b.rows.length := fun d hd => Row.drives_in (wf.m.inn j r hr1) d ((mem_dr2 r d).mp hd)
        have d2l : (dr2 r).length ≤ 2 := by cases r <;> simp [dr2]
        refine ⟨_, rfl, ⟨_, SqL.of hpd⟩, lc_map (walk_list (K := g.K) (a := pd) (xs := nV (dr2 r))) (fun D H y i => ∃ d, (dr2 r)[i]? = some d ∧ On g.K H y (os.getD d none)) (by rw [nV_len]; omega) (fun D l Ha Hb y i hD hk ⟨d, e, h⟩ => ⟨d, e, h.but hD hk⟩) (fun H' s => SqL.of (s _ _ hpd)) ?_ ?_⟩
        · rintro D2 i2 x H8 H9 Nx hi2 hD2 s8 hl ⟨rfl, hx⟩ kk
          obtain ⟨d, hd, rfl⟩ := nV_get hx
          have hdl := drl d (List.mem_of_getElem? hd)
          obtain ⟨y, hy⟩ := ex_at (xs := ws) (i := d) (by rw [lw, kn.len]; exact hdl)
          obtain ⟨o, ho2, on2⟩ := Pd.getV p7 hy
          exact ⟨rfl, _, rfl, _, rfl, _, _, _, _, rfl, rfl, SqL.of (s8 _ _ q7), atI_nat hy, kk _ _ (Same.refl _) ⟨d, hd, by rw [getD_of ho2]; exact On.fr (F := []) (Fr.of s8) on2⟩⟩
        intro D2 y2 H8 hD2 s8 q8 l8 h8
        rw [nV_len] at l8
        have P8 : Paired (On g.K H8) y2 ((dr2 r).map fun d => os.getD d none) := pd_map l8 h8
        have dp8 : Dp g.K H8 (.ref D2) (.list (((dr2 r).map fun d => os.getD d none).map opD)) := list_dp (fun _ _ z => On.dp z) q8 P8
        refine ⟨.none, _, .non, dp8, rfl, OkD.shaped (okD_map okD_op (by rw [List.length_map]; omega)) (by decide), ?_⟩
        rw [any_none]
        have s58 := s57.trans s8
        have q9 := s8 _ _ q7
        have p9 := p7.mono fun _ _ z => On.fr (F := []) (Fr.of s8) z
        obtain ⟨vk, hvk⟩ := ex_at (xs := ws) (i := j) (by rw [lw, kn.len]; omega)
        obtain ⟨ok, hok, onk⟩ := Pd.getV p9 hvk
        refine ⟨_, rfl, _, rfl, _, _, _, _, rfl, rfl, SqL.of q9, atI_nat hvk, rfl, _, rfl, ?_⟩
        rw [onk.none_iff]
        -- what is not set
        have stay : (known os j ∨ ∃ d ∈ r.drives, ¬ known os d) → ∀ k ∈ (ord b.rows).take (i + 1), k < j + 1 → known os k := fun hor k hk hkj => by
          by_cases e : k = j
          · subst e
            rcases hor with h | ⟨d, hd, hn⟩
            · exact h
            · obtain ⟨z, hz⟩ := List.mem_iff_getElem?.mp hk
              rw [List.getElem?_take] at hz
              split at hz
              · rename_i hzi
                have hd2 := hord.dr z k hz r hr1 d hd
                exact absurd (al d (mem_take_le (by omega) hd2)) hn
              · cases hz
          · exact al2 k hk (by omega)
        cases ok with
        | some x =>
          refine iteF (iteF ⟨_, _, _, _, ws, os, rfl, s58, q9, p9, kn, al, stay (.inl ⟨x, hok⟩)⟩)
        | none =>
          refine iteT ⟨_, rfl, _, rfl, ?_⟩
          cases hany : ((dr2 r).map fun d => os.getD d none).any Option.isNone with
          | true =>
            refine iteF ⟨_, _, _, _, ws, os, rfl, s58, q9, p9, kn, al, stay (.inr ?_)⟩
            obtain ⟨o, ho2, hn⟩ := List.any_eq_true.mp hany
            obtain ⟨d, hd, rfl⟩ := List.mem_map.mp ho2
            refine ⟨d, (mem_dr2 r d).mp hd, fun ⟨x, hx⟩ => ?_⟩
            rw [getD_of hx] at hn
            cases hn
          | false =>
            have kd : ∀ d ∈ r.drives, ∃ x, os[d]? = some (some x) := fun d hd => by
              have hd2 := (mem_dr2 r d).mpr hd
              obtain ⟨o, ho2⟩ := ex_at (xs := os) (i := d) (by rw [kn.len]; exact drl d hd2)
              cases o with
              | some x => exact ⟨x, ho2⟩
              | none =>
                have : ((dr2 r).map fun d => os.getD d none).any Option.isNone = true := List.any_eq_true.mpr ⟨none, List.mem_map.mpr ⟨d, hd2, getD_of ho2⟩, rfl⟩
                rw [this] at hany
                cases hany
            refine iteT ⟨_, rfl, _, rfl, _, _, _, _, rfl, rfl, SqL.of (s58 _ _ st.outs), atI_nat (outs_at hjo), _, rfl, ?_⟩
            rw [hoD j]
            refine iteF ⟨_, rfl, _, rfl, _, rfl, _, rfl, u2, w, t.sl, D, r, v2, ws, b.stood, b.moves q, q, rfl, rw1.same s58, SqL.of (s58 _ _ r2), p2.mono (fun _ _ z => z.same s58), SqL.of q9, hw.same s58, fun d hd => ?_, by rw [wf.ls]; exact wf.m.inn j r hr1, wf.zr r (List.mem_of_getElem? hr1), wf.zs, fun u H10 s10 hu => ?_⟩
            · obtain ⟨x, hx⟩ := kd d hd
              obtain ⟨y, hy, ony⟩ := Pd.get p9 hx
              refine ⟨y, hy, ?_, drive_small wf zq hr1 hd⟩
              rw [← kn.so d x hx]
              exact ony
            · rw [← moves_fix wf hr1 (hoD j)] at hu
              have q10 := s10 _ _ q9
              have fw : Fr [D] H10 (upd H10 D (.lst (ws.set j u))) := Fr.wr q10 nz_lst (by simp)
              refine ⟨_, rfl, _, rfl, _, _, _, _, rfl, rfl, q10, ixN_k (by rw [lw, kn.len]; omega), _, _, _, _, ws.set j u, os.set j (some ((b.moves q).getD j 0)), rfl, fun b' o' e => ?_, upd_same, ?_, ?_, ?_, ?_⟩
              · rw [upd_ne (ne_of_none e (none_of (Same.refl _) hD))]
                exact s10 _ _ (s58 _ _ e)
              · exact Pd.set (p9.mono fun _ _ z => On.fr (F := [D]) ((Fr.of s10).trans fw fun _ m => .inl m) z) (On.fr (q := some _) fw hu) j
              · refine ⟨by rw [List.length_set]; exact kn.len, fun k x e => ?_⟩
                by_cases z : j = k
                · subst z
                  rw [List.getElem?_set_self (List.getElem?_eq_some_iff.mp hok).1] at e
                  cases e
                  rfl
                · rw [List.getElem?_set_ne z] at e
                  exact kn.so k x e
              · intro k hk
                by_cases z : j = k
                · subst z
                  exact ⟨_, List.getElem?_set_self (List.getElem?_eq_some_iff.mp hok).1⟩
                · obtain ⟨x, hx⟩ := al k hk
                  exact ⟨x, by rw [List.getElem?_set_ne z]; exact hx⟩
              · intro k hk hkj
                by_cases z : j = k
                · subst z
                  exact ⟨_, List.getElem?_set_self (List.getElem?_eq_some_iff.mp hok).1⟩
                · obtain ⟨x, hx⟩ := al2 k hk (by omega)
                  exact ⟨x, by rw [List.getElem?_set_ne z]; exact hx⟩
      · rintro σ H5 ⟨x6, x7, x8, x9, ws, os, rfl, s5, q5, p5, kn, al, al2⟩
        exact ⟨_, _, _, _, ws, os, rfl, s5, q5, p5, kn, fun k hk => al2 k hk (by rw [l1]; exact hord.lt k (List.mem_of_mem_take hk))⟩
    · rintro σ H3 ⟨x6, x7, x8, x9, ws, os, rfl, s3, q3, p3, kn, al⟩
      refine ⟨_, rfl, k D H3 ws s3 hD q3 ?_⟩
      refine pd_of (by rw [p3.length, kn.len, moves_len]) fun i y hy => ?_
      obtain ⟨o, ho2, on2⟩ := Pd.getV p3 hy
      have hil : i < b.rows.length := by
        rw [← kn.len]
        exact (List.getElem?_eq_some_iff.mp ho2).1
      have hlen : (v1.length : Int).toNat = (ord b.rows).length := by rw [Int.toNat_natCast, l1, wf.m.full]
      rw [hlen, List.take_length] at al
      obtain ⟨x, hx⟩ := al i (wf.m.mem hil)
      rw [ho2] at hx
      cases hx
      obtain ⟨z, hz⟩ := ex_at (xs := b.moves q) (i := i) (by rw [moves_len]; exact hil)
      refine ⟨z, hz, ?_⟩
      rw [kn.so i x ho2, getD_of hz] at on2
      exact on2
end
end K79
end

section
set_option linter.all false
set_option maxRecDepth 100000
set_option maxHeartbeats 4000000
/-! K79W7: the law's own click; the law's terms. -/
namespace K79
open PySem PySem.Spec PyProof.Rows L2

section
variable {g : G}
def spClicked (K : PySem.W.Frag) : Sp := fun vs H Q _ => ∃ (s : Addr) (t : StA) (b : B) (w : V) (q : Rat), vs = [.ref s, w] ∧ StAt K H s t b ∧ WF b ∧ b.past ≤ 20 ∧ (∀ o ∈ b.outs, o = false) ∧ (∀ l ∈ b.lims, l = (none, none)) ∧ Nm K H w q ∧ Sz 20 q ∧
  ((b.ahead q).any long = true → ∀ v d H', Same H H' → H' v = some (.tup [.ref d, .ref s]) → H' d = some (.tup [.str "TooFar"]) → Q (.ref v) H') ∧
  ((b.ahead q).any long = false → ∀ v d s' t' p us H', H p = none → Same H H' → H' v = some (.tup [.ref d, .ref s']) → H' d = some (.tup [.str "told", .ref p]) → H' p = some (.lst us) → Paired (Nm K H') us (b.moves q) →
    StAt K H' s' t' { b with stood := b.ahead q, sums := adds b.sums (b.moves q), past := b.past + 1 } → (∀ x ∈ s' :: t'.all, x ∈ s :: t.all ∨ H x = none) → Q (.ref v) H')
abbrev s__law_clicked : Stmt := top 72
theorem sc__law_clicked : FnScope ["_law_state", "_law_number_here", "_law_moves_here", "_law_ahead", "_law_k", "_law_sums", "_law_a", "_law_b", "_law_one"] ["_law_state", "_law_number_here"] (defScope s__law_clicked) := ⟨rfl, rfl, rfl, by decide +kernel, rfl, by decide +kernel, by decide +kernel⟩
theorem ok_law_clicked (T : TxB g) (F : Def g "_law_clicked" s__law_clicked ["_law_state", "_law_number_here"]) (G__law_moves : Has g CX0 4 "_law_moves" ["_law_state", "_law_number_here"] (spMoves2 g.K)) (G__law_add : Has g CX0 2 "_law_add" ["_law_one", "_law_other"] (spPlus g.K))
    (G__law_beyond : Has g CX0 2 "_law_beyond" ["_law_limits", "_law_number_here"] (spNoEnds g.K)) (G__law_long : Has g CX0 1 "_law_long" ["_law_number_here"] (spLong g.K)) : Has g CX0 5 "_law_clicked" ["_law_state", "_law_number_here"] (spClicked g.K) := by
  refine F.ok sc__law_clicked (fun vs H Q E h => ?_) (fun f cdv A outer s H vs Q E hr h => ?_)
  · obtain ⟨s, t, b, w, q, rfl, _⟩ := h
    rfl
  · obtain ⟨s, t, b, w, q, rfl, st, wf, hp, ho, hlm, hw, zq, k1, k2⟩ := h
    refine ⟨_, (pss_cons (ps_set (i := 2) sc__law_clicked.nd rfl (Or.inl rfl) (pe_has G__law_moves hr (by decide) pass0 (pa_cons (pv 0) (pa_cons (pv 1) pa_nil))))
      (pss_cons (ps_setLc (i := 3) (own := [("_law_a", 6), ("_law_b", 7)]) (g := gTup g.K 2 (gCons (gName 6) (gCons (gName 7) gNil))) (tt := tYes) rfl sc__law_clicked.nd rfl rfl (sw_true rfl rfl rfl (by decide +kernel)) (pi_zip (by rfl) T.zip (pa_cons (pe_ix (ix_listK (K := g.K)) (pv 0) pe_int (fun _ _ => rfl)) (pa_cons (pv 2) pa_nil))) (blkOk_by (own := [("_law_a", 6), ("_law_b", 7)]) (N := ["_law_state", "_law_number_here", "_law_moves_here", "_law_ahead", "_law_k", "_law_sums", "_law_a", "_law_b", "_law_one"]) (sc := defScope s__law_clicked) (by decide +kernel)) (fun _ _ _ _ _ => (pg_tup rfl (pgs_cons (pg_name (i := 6) sc__law_clicked.nd rfl (Or.inl rfl)) (pgs_cons (pg_name (i := 7) sc__law_clicked.nd rfl (Or.inl rfl)) pgs_nil)))) (fun _ _ _ _ _ => pts_nil) (fun _ _ _ _ _ => (pe_has G__law_add hr (by decide) pass0 (pa_cons (pv 6) (pa_cons (pv 7) pa_nil)))))
      (pss_cons (ps_for PassesOwn.never rfl (pi_range1 (by rfl) T.range (pa_cons (pe_callB (call_lenK (K := g.K)) (by rfl) T.len PySem.boot_len (pa_cons (pv 3) pa_nil)) pa_nil)) (pg_name (i := 4) sc__law_clicked.nd rfl (Or.inl rfl))
      (pss_one (ps_if (pt_val (pe_has G__law_beyond hr (by decide) pass0 (pa_cons (pe_ix (ix_listK (K := g.K)) (pe_ix (ix_listK (K := g.K)) (pv 0) pe_int (fun _ _ => rfl)) (pv 4) (fun _ _ => rfl)) (pa_cons (pe_ix (ix_listK (K := g.K)) (pv 3) (pv 4) (fun _ _ => rfl)) pa_nil)))) (pss_one (ps_ret (pe_tup (pa_cons (pe_tup (pa_cons pe_str (pa_cons (pv 4) pa_nil))) (pa_cons (pv 0) pa_nil))))) pss_nil)))
      (pss_cons (ps_if (pt_val (pe_callB (call_anyK (K := g.K) rfl) (by rfl) T.any (by decide +kernel) (pa_cons (pe_lc (own := [("_law_one", 8)]) (g := gName 8) (tt := tYes) rfl sc__law_clicked.nd (pi_list (pv 3)) (blkOk_by (own := [("_law_one", 8)]) (N := ["_law_state", "_law_number_here", "_law_moves_here", "_law_ahead", "_law_k", "_law_sums", "_law_a", "_law_b", "_law_one"]) (sc := defScope s__law_clicked) (by decide +kernel)) (fun _ _ _ _ _ => (pg_name (i := 8) sc__law_clicked.nd rfl (Or.inl rfl))) (fun _ _ _ _ _ => pts_nil) (fun _ _ _ _ _ => (pe_has G__law_long hr (by decide) pass0 (pa_cons (pv 8) pa_nil)))) pa_nil))) (pss_one (ps_ret (pe_tup (pa_cons (pe_tup (pa_cons pe_str pa_nil)) (pa_cons (pv 0) pa_nil))))) pss_nil)
      (pss_cons (ps_setLc (i := 5) (own := [("_law_a", 6), ("_law_b", 7)]) (g := gTup g.K 2 (gCons (gName 6) (gCons (gName 7) gNil))) (tt := tYes) rfl sc__law_clicked.nd rfl rfl (sw_true rfl rfl rfl (by decide +kernel)) (pi_zip (by rfl) T.zip (pa_cons (pe_ix (ix_listK (K := g.K)) (pv 0) pe_int (fun _ _ => rfl)) (pa_cons (pv 2) pa_nil))) (blkOk_by (own := [("_law_a", 6), ("_law_b", 7)]) (N := ["_law_state", "_law_number_here", "_law_moves_here", "_law_ahead", "_law_k", "_law_sums", "_law_a", "_law_b", "_law_one"]) (sc := defScope s__law_clicked) (by decide +kernel)) (fun _ _ _ _ _ => (pg_tup rfl (pgs_cons (pg_name (i := 6) sc__law_clicked.nd rfl (Or.inl rfl)) (pgs_cons (pg_name (i := 7) sc__law_clicked.nd rfl (Or.inl rfl)) pgs_nil)))) (fun _ _ _ _ _ => pts_nil) (fun _ _ _ _ _ => (pe_has G__law_add hr (by decide) pass0 (pa_cons (pv 6) (pa_cons (pv 7) pa_nil)))))
      (pss_one (ps_ret (pe_tup (pa_cons (pe_tup (pa_cons pe_str (pa_cons (pv 2) pa_nil))) (pa_cons (pe_lst (pa_cons (pe_ix (ix_listK (K := g.K)) (pv 0) pe_int (fun _ _ => rfl)) (pa_cons (pv 3) (pa_cons (pv 5) (pa_cons (pe_ix (ix_listK (K := g.K)) (pv 0) pe_int (fun _ _ => rfl)) (pa_cons (pe_ix (ix_listK (K := g.K)) (pv 0) pe_int (fun _ _ => rfl)) (pa_cons (pe_op op_add (pe_ix (ix_listK (K := g.K)) (pv 0) pe_int (fun _ _ => rfl)) pe_int) pa_nil))))))) pa_nil)))))))))), ?_⟩
    refine ⟨_, rfl, _, rfl, s, t, b, w, q, rfl, st, wf, ho, hw, zq, fun pm H1 ms s1 hpm hms pms => ?_⟩
    have st1 := st.same s1
    obtain ⟨v2, r2, p2⟩ := st1.stood
    obtain ⟨v3, r3, p3⟩ := st1.sums
    obtain ⟨v5, r5, p5⟩ := st1.lims
    have l2 := p2.length
    have lm := pms.length
    rw [moves_len] at lm
    have ls := wf.ls
    have n5 := wf.n5
    have zm := moves_small wf zq
    have lsm : b.stood.length = (b.moves q).length := by rw [moves_len]; exact ls
    refine ⟨_, rfl, _, _, _, _, rfl, rfl, SqL.of st1.ob, rfl, _, rfl, _, _, _, _, rfl, SqL.of r2, SqL.of hms, lc_map (walk_zip (n := b.rows.length) (K := g.K) (a := t.sl) (b := pm) (xs := v2) (ys := ms) (by omega))
      (fun D H y i => ∃ x m, b.stood[i]? = some x ∧ (b.moves q)[i]? = some m ∧ Nm g.K H y (x + m)) (by omega) (fun D l Ha Hb y i hD hk ⟨x, m, h1, h2, h3⟩ => ⟨x, m, h1, h2, h3.but hD hk⟩) (fun H' s => ⟨SqL.of (s _ _ r2), SqL.of (s _ _ hms)⟩) ?_ ?_⟩
    · rintro D i x H2 H3 Nx hi hD s2 hl ⟨t, x1, x2, rfl, ht, rfl, hx1, hx2⟩ kk
      obtain ⟨x, hx, nx⟩ := Pd.getV p2 hx1
      obtain ⟨m, hm, nm⟩ := Pd.getV pms hx2
      have s3 := same_new (o := .tup [x1, x2]) ht
      refine ⟨t, _, rfl, .inl (.inl upd_same), rfl, _, _, rfl, _, _, rfl, rfl, rfl, ?_⟩
      refine ⟨_, rfl, _, rfl, x1, x2, x, m, rfl, nx.same (s2.trans s3), nm.same (s2.trans s3), Fit.of (wf.zs x (List.mem_of_getElem? hx)) (zm m (List.mem_of_getElem? hm)) (by decide), fun u H5 s5 hu => ?_⟩
      exact kk _ _ (s3.trans s5) ⟨x, m, hx, hm, hu⟩
    intro pa ya H2 hpa s2 hya lya hy
    have pya : Paired (Nm g.K H2) ya (b.ahead q) := adds_pd (lya.trans ls.symm) lsm hy
    have la : (b.ahead q).length = b.rows.length := (adds_len lsm).trans ls
    have s12 := s1.trans s2
    have st2 := st1.same s2
    refine ⟨_, rfl, _, _, rfl, .inl (SqL.of hya), _, rfl, by omega, by omega, for_it (walk_range (lo := 0) (n := _))
      (fun i σ H' => ∃ sh, σ = [some (.ref s), some w, some (.ref pm), some (.ref pa), sh, none, none, none, none] ∧ H' = H2) ⟨none, rfl, rfl⟩ (fun _ _ _ _ _ => True.intro) ?_ ?_⟩
    · rintro i x σ H3 H4 hi ⟨sh, rfl, rfl⟩ ⟨rfl, hx⟩
      obtain rfl := range_at hx
      have hil : i < b.rows.length := by
        rw [lya] at hi
        omega
      obtain ⟨x, hx⟩ := ex_at (xs := b.ahead q) (i := i) (by rw [la]; exact hil)
      obtain ⟨vx, hvx, nx⟩ := Pd.get pya hx
      have hll : i < b.lims.length := by rw [wf.ll]; exact hil
      obtain ⟨vl, hvl, lml⟩ := Pd.get p5 (lims_at hll)
      rw [hlm _ (List.mem_of_getElem? (lims_at hll))] at lml
      obtain ⟨al, xl, yl, rfl, tl, h1, h2⟩ := lml
      cases (show xl = .non from h1)
      cases (show yl = .non from h2)
      refine ⟨_, rfl, _, _, _, _, rfl, rfl, SqL.of st2.ob, rfl, _, rfl, _, _, _, _, rfl, rfl, SqL.of (s2 _ _ r5), atI_nat hvl, _, rfl, _, rfl, _, _, _, _, rfl, rfl, SqL.of hya, atI_nat hvx, al, vx, rfl, Same.tup s2 tl, _, rfl, iteF ⟨_, rfl, rfl⟩⟩
    rintro σ H3 ⟨sh, rfl, rfl⟩
    refine ⟨_, rfl, _, rfl, ⟨_, SqL.of hya⟩, lc_map (walk_list (K := g.K) (a := pa) (xs := ya)) (fun D H y i => ∃ x, (b.ahead q)[i]? = some x ∧ y = .bl (long x)) (by omega) (fun _ _ _ _ _ _ _ _ h => h) (fun H' s => SqL.of (s _ _ hya)) ?_ ?_⟩
    · rintro D i x H4 H5 Nx hi hD s4 hl ⟨rfl, hx⟩ kk
      obtain ⟨r, hr2, nr⟩ := Pd.getV pya hx
      exact ⟨rfl, _, rfl, x, r, rfl, nr.same s4, kk _ _ (Same.refl _) ⟨r, hr2, rfl⟩⟩
    intro pb yb H4 hpb s4 hyb lyb hy4
    have eb : yb = ((b.ahead q).map long).map V.bl := by
      refine List.ext_getElem? fun i => ?_
      rw [List.map_map, List.getElem?_map]
      by_cases hi : i < yb.length
      · obtain ⟨y, hyi⟩ := ex_at hi
        obtain ⟨x, e1, e2⟩ := hy4 i y hyi
        rw [hyi, e1, e2]
        rfl
      · rw [List.getElem?_eq_none (by omega), List.getElem?_eq_none (by omega)]
        rfl
    subst eb
    refine ⟨pb, _, rfl, SqL.of hyb, _, rfl, ?_⟩
    have s124 := s12.trans s4
    rw [show ((b.ahead q).map long).any id = (b.ahead q).any long from by rw [List.any_map]; rfl]
    cases hlong : (b.ahead q).any long with
    | true =>
      refine iteT ⟨(by show 1 ≤ sizeLine; decide), fun d hd => ⟨_, rfl, (by show 2 ≤ sizeLine; decide), fun v hv => ?_⟩⟩
      exact k1 hlong v d _ (s124.trans ((same_new hd).trans (same_new hv))) upd_same (same_new hv _ _ upd_same)
    | false =>
      have st4 := st2.same s4
      refine iteF ⟨_, rfl, _, _, _, _, rfl, rfl, SqL.of st4.ob, rfl, _, rfl, _, _, _, _, rfl, SqL.of (s4 _ _ (s2 _ _ r3)), SqL.of (s4 _ _ (s2 _ _ hms)), lc_map (walk_zip (n := b.rows.length) (K := g.K) (a := t.ul) (b := pm) (xs := v3) (ys := ms) (by have := p3.length; have := wf.lu; omega))
        (fun D H y i => ∃ x m, b.sums[i]? = some x ∧ (b.moves q)[i]? = some m ∧ Nm g.K H y (x + m)) (by omega) (fun D l Ha Hb y i hD hk ⟨x, m, h1, h2, h3⟩ => ⟨x, m, h1, h2, h3.but hD hk⟩) (fun H' s => ⟨SqL.of (s _ _ (s4 _ _ (s2 _ _ r3))), SqL.of (s _ _ (s4 _ _ (s2 _ _ hms)))⟩) ?_ ?_⟩
      · rintro D i x H7 H8 Nx hi hD s7 hl ⟨t, x1, x2, rfl, ht, rfl, hx1, hx2⟩ kk
        obtain ⟨x, hx, nx⟩ := Pd.getV p3 hx1
        obtain ⟨m, hm, nm⟩ := Pd.getV pms hx2
        have s8 := same_new (o := .tup [x1, x2]) ht
        obtain ⟨s0, hs0⟩ := ex_at (xs := b.stood) (i := i) (by rw [ls]; exact hi)
        have hsm : (b.ahead q)[i]? = some (s0 + m) := adds_at hs0 hm
        have zz : Sz 401 m := by
          refine move_small (wf.zs _ (List.mem_of_getElem? hs0)) (sz_of_not_long ?_)
          cases z : long (s0 + m) with
          | false => rfl
          | true =>
            have := List.any_eq_true.mpr ⟨_, List.mem_of_getElem? hsm, z⟩
            rw [this] at hlong
            cases hlong
        have s28 := (s2.trans s4).trans (s7.trans s8)
        refine ⟨t, _, rfl, .inl (.inl upd_same), rfl, _, _, rfl, _, _, rfl, rfl, rfl, ?_⟩
        refine ⟨_, rfl, _, rfl, x1, x2, x, m, rfl, nx.same s28, nm.same s28, Fit.of (wf.zu x (List.mem_of_getElem? hx)) zz (by omega), fun u H9 s9 hu => ?_⟩
        exact kk _ _ (s8.trans s9) ⟨x, m, hx, hm, hu⟩
      intro pu yu H7 hpu s7 hyu lyu hy7
      have pyu : Paired (Nm g.K H7) yu (adds b.sums (b.moves q)) := adds_pd (lyu.trans wf.lu.symm) (by rw [moves_len]; exact wf.lu) hy7
      have st7 := st4.same s7
      have s27 := (s2.trans s4).trans s7
      refine ⟨_, rfl, (by show 2 ≤ sizeLine; decide), fun d hd => ?_⟩
      have sd := same_new (o := .tup [.str "told", .ref pm]) hd
      have ob8 := sd _ _ st7.ob
      refine ⟨_, rfl, _, _, _, _, rfl, rfl, SqL.of ob8, rfl, _, rfl, _, rfl, _, rfl, _, _, _, _, rfl, rfl, SqL.of ob8, rfl, _, rfl, _, _, _, _, rfl, rfl, SqL.of ob8, rfl, _, rfl, _, _, _, _, rfl, rfl, SqL.of ob8, rfl, _, _, rfl, rfl, (by show 6 ≤ sizeLine; decide), fun s' hs' => ⟨(by show 2 ≤ sizeLine; decide), fun v hv => ?_⟩⟩
      have se := sd.trans ((same_new (o := .lst [.ref t.rl, .ref pa, .ref pu, .ref t.ol, .ref t.ll, .int ((b.past : Int) + 1)]) hs').trans (same_new (o := .tup [.ref d, .ref s']) hv))
      have st8 := st7.same se
      have s2e := s27.trans se
      refine k2 hlong v d s' ⟨t.rl, pa, pu, t.ol, t.ll⟩ pm ms _ hpm (s1.trans s2e) upd_same (same_new hv _ _ (same_new hs' _ _ upd_same)) (s2e _ _ hms) (pms.mono fun _ _ z => z.same s2e) ⟨?_, st8.rows, ⟨ya, ((s4.trans s7).trans se) _ _ hya, pya.mono fun _ _ z => z.same ((s4.trans s7).trans se)⟩, ⟨yu, se _ _ hyu, pyu.mono fun _ _ z => z.same se⟩, st8.outs, st8.lims⟩ fun x hx => ?_
      · exact same_new hv _ _ upd_same
      · simp only [StA.all, List.mem_cons, List.not_mem_nil, or_false] at hx ⊢
        rcases hx with rfl | rfl | rfl | rfl | rfl | rfl
        · exact .inr (none_of (s1.trans s27) (none_of sd hs'))
        · exact .inl (by simp)
        · exact .inr (none_of s1 hpa)
        · exact .inr (none_of s124 hpu)
        · exact .inl (by simp)
        · exact .inl (by simp)
end
end K79
end

section
set_option linter.all false
set_option maxRecDepth 100000
set_option maxHeartbeats 4000000
/-! K79W8: the law's terms. -/
namespace K79
open PySem PySem.Spec PyProof.Rows L2

section
variable {g : G}
theorem nm_nat {K : PySem.W.Frag} {H : Hp} {p : Addr} (z : Nat) : Nm K (upd H p (.tup [.int (z : Int), .int 1])) (.ref p) ((z : Nat) : Rat) := by
  have := nm_int (K := K) (H := H) (p := p) (z : Int)
  rw [int_cast] at this
  exact this
def spTerm (K : PySem.W.Frag) : Sp := fun vs H Q _ => ∃ (v : V) (fo : Addr) (k : Nat) (r : Row) (ls : List V) (sers : List (List Rat)), vs = [v, .ref fo, .int k] ∧ Rw K H v r ∧ H fo = some (.lst ls) ∧ Paired (Ser K H) ls sers ∧ 0 < k ∧ k < 1000 ∧ TermFit k sers r ∧
  ∀ u H', Same H H' → Nm K H' u (term k sers r) → Q u H'
abbrev s__law_term : Stmt := top 80
theorem sc__law_term : FnScope ["_law_row", "_law_series", "_law_k", "_law_found", "_law_i"] ["_law_row", "_law_series", "_law_k"] (defScope s__law_term) := ⟨rfl, rfl, rfl, by decide +kernel, rfl, by decide +kernel, by decide +kernel⟩
theorem ok_law_term (T : TxB g) (F : Def g "_law_term" s__law_term ["_law_row", "_law_series", "_law_k"]) (G__law_mul : Has g CX0 2 "_law_mul" ["_law_one", "_law_other"] (spTimes g.K)) (G__law_add : Has g CX0 2 "_law_add" ["_law_one", "_law_other"] (spPlus g.K)) :
    Has g CX0 3 "_law_term" ["_law_row", "_law_series", "_law_k"] (spTerm g.K) := by
  refine F.ok sc__law_term (fun vs H Q E h => ?_) (fun f cdv A outer s H vs Q E hr h => ?_)
  · obtain ⟨v, fo, k, r, ls, sers, rfl, _⟩ := h
    rfl
  · obtain ⟨v, fo, k, r, ls, sers, rfl, hv, hfo, ps, hk0, hk, ff, kk⟩ := h
    refine ⟨_, (pss_cons (ps_if (pt_cmpR op_eq (pe_ix (ix_tupK (K := g.K)) (pv 0) pe_int (fun _ _ => rfl)) pe_str (nomark _)) (pss_one (ps_ret (pe_tup (pa_cons (pe_callTy call_int1 (by rfl) T.int (by decide +kernel) (pa_cons (pe_cmpR op_eq (pv 2) pe_int (nomark _)) pa_nil)) (pa_cons pe_int pa_nil))))) pss_nil)
      (pss_cons (ps_if (pt_cmpR op_eq (pe_ix (ix_tupK (K := g.K)) (pv 0) pe_int (fun _ _ => rfl)) pe_str (nomark _)) (pss_one (ps_ret (pe_has G__law_mul hr (by decide) pass0 (pa_cons (pe_tup (pa_cons (pv 2) (pa_cons pe_int pa_nil))) (pa_cons (pe_has G__law_mul hr (by decide) pass0 (pa_cons (pe_ix (ix_tupK (K := g.K)) (pv 0) pe_int (fun _ _ => rfl)) (pa_cons (pe_ix (ix_listK (K := g.K)) (pe_ix (ix_listK (K := g.K)) (pv 1) (pe_ix (ix_tupK (K := g.K)) (pv 0) pe_int (fun _ _ => rfl)) (fun _ _ => rfl)) (pv 2) (fun _ _ => rfl)) pa_nil))) pa_nil))))) pss_nil)
      (pss_cons (ps_if (pt_cmpR op_eq (pe_ix (ix_tupK (K := g.K)) (pv 0) pe_int (fun _ _ => rfl)) pe_str (nomark _)) (pss_one (ps_ret (pe_has G__law_mul hr (by decide) pass0 (pa_cons (pe_tup (pa_cons (pv 2) (pa_cons pe_int pa_nil))) (pa_cons (pe_has G__law_add hr (by decide) pass0 (pa_cons (pe_ix (ix_listK (K := g.K)) (pe_ix (ix_listK (K := g.K)) (pv 1) (pe_ix (ix_tupK (K := g.K)) (pv 0) pe_int (fun _ _ => rfl)) (fun _ _ => rfl)) (pv 2) (fun _ _ => rfl)) (pa_cons (pe_ix (ix_listK (K := g.K)) (pe_ix (ix_listK (K := g.K)) (pv 1) (pe_ix (ix_tupK (K := g.K)) (pv 0) pe_int (fun _ _ => rfl)) (fun _ _ => rfl)) (pv 2) (fun _ _ => rfl)) pa_nil))) pa_nil))))) pss_nil)
      (pss_cons (ps_set (i := 3) sc__law_term.nd rfl (Or.inl rfl) (pe_tup (pa_cons pe_int (pa_cons pe_int pa_nil))))
      (pss_cons (ps_for PassesOwn.never rfl (pi_range1 (by rfl) T.range (pa_cons (pv 2) pa_nil)) (pg_name (i := 4) sc__law_term.nd rfl (Or.inl rfl))
      (pss_one (ps_set (i := 3) sc__law_term.nd rfl (Or.inl rfl) (pe_has G__law_add hr (by decide) pass0 (pa_cons (pv 3) (pa_cons (pe_has G__law_mul hr (by decide) pass0 (pa_cons (pe_tup (pa_cons (pe_op op_sub (pv 2) (pv 4)) (pa_cons pe_int pa_nil))) (pa_cons (pe_has G__law_mul hr (by decide) pass0 (pa_cons (pe_ix (ix_listK (K := g.K)) (pe_ix (ix_listK (K := g.K)) (pv 1) (pe_ix (ix_tupK (K := g.K)) (pv 0) pe_int (fun _ _ => rfl)) (fun _ _ => rfl)) (pv 4) (fun _ _ => rfl)) (pa_cons (pe_ix (ix_listK (K := g.K)) (pe_ix (ix_listK (K := g.K)) (pv 1) (pe_ix (ix_tupK (K := g.K)) (pv 0) pe_int (fun _ _ => rfl)) (fun _ _ => rfl)) (pe_op op_sub (pv 2) (pv 4)) (fun _ _ => rfl)) pa_nil))) pa_nil))) pa_nil))))))
      (pss_one (ps_ret (pv 3)))))))), ?_⟩
    cases hv with
    | src t hx =>
      refine ⟨_, rfl, _, _, _, _, rfl, rfl, t, rfl, rfl, _, rfl, iteT ⟨_, rfl, rfl, .inr ⟨_, rfl, (by show 2 ≤ sizeLine; decide), fun p hp => ?_⟩⟩⟩
      refine kk _ _ (same_new hp) ?_
      show Nm _ _ _ (if k = 1 then 1 else 0)
      by_cases e : k = 1
      · subst e
        exact nm_nat 1
      · rw [if_neg e, decide_eq_false (fun z => e (by cases z; rfl) : ¬ V.int (k : Int) = .int 1)]
        exact nm_nat 0
    | @gear a x y s0 r0 j t hx hy =>
      obtain ⟨⟨ser, hj, hkl⟩, fit, fit2⟩ := ff
      obtain ⟨vj, hvj, l, ws, rfl, hl, pw⟩ := Pd.get ps hj
      obtain ⟨vq, hvq, nq⟩ := ser_get pw hkl
      rw [getD_of hj] at fit fit2
      refine ⟨_, rfl, _, _, _, _, rfl, rfl, t, rfl, rfl, _, rfl, iteF ?_⟩
      refine ⟨_, rfl, _, _, _, _, rfl, rfl, t, rfl, rfl, _, rfl, iteT ?_⟩
      refine ⟨_, rfl, (by show 2 ≤ sizeLine; decide), fun pk hpk => ?_⟩
      have s1 := same_new (o := .tup [.int k, .int 1]) hpk
      refine ⟨_, rfl, _, _, _, _, rfl, rfl, Same.tup s1 t, rfl, _, rfl, _, rfl, _, _, _, _, rfl, rfl, Same.tup s1 t, rfl, _, _, _, _, rfl, rfl, SqL.of (s1 _ _ hfo), atI_nat hvj, _, rfl, _, _, _, _, rfl, rfl, SqL.of (s1 _ _ hl), atI_nat hvq, y, vq, _, _, rfl, hy.same s1, nq.same s1, fit, fun u H' s2 hu => ?_⟩
      refine ⟨.ref pk, u, _, _, rfl, (nm_nat k).same s2, hu, fit2, fun u2 H2 s3 hu2 => kk u2 H2 (s1.trans (s2.trans s3)) ?_⟩
      show Nm g.K H2 u2 ((k : Rat) * (r0 * (sers.getD j []).getD k 0))
      rw [getD_of hj]
      exact hu2
    | @adder a x s0 i j t hx =>
      obtain ⟨⟨seri, hi, hkli⟩, ⟨ser, hj, hkl⟩, fit, fit2⟩ := ff
      obtain ⟨vi, hvi, li, wsi, rfl, hli, pwi⟩ := Pd.get ps hi
      obtain ⟨vqi, hvqi, nqi⟩ := ser_get pwi hkli
      obtain ⟨vj, hvj, l, ws, rfl, hl, pw⟩ := Pd.get ps hj
      obtain ⟨vq, hvq, nq⟩ := ser_get pw hkl
      rw [getD_of hi, getD_of hj] at fit fit2
      refine ⟨_, rfl, _, _, _, _, rfl, rfl, t, rfl, rfl, _, rfl, iteF ?_⟩
      refine ⟨_, rfl, _, _, _, _, rfl, rfl, t, rfl, rfl, _, rfl, iteF ?_⟩
      refine ⟨_, rfl, _, _, _, _, rfl, rfl, t, rfl, rfl, _, rfl, iteT ?_⟩
      refine ⟨_, rfl, (by show 2 ≤ sizeLine; decide), fun pk hpk => ?_⟩
      have s1 := same_new (o := .tup [.int k, .int 1]) hpk
      refine ⟨_, rfl, _, rfl, _, _, _, _, rfl, rfl, Same.tup s1 t, rfl, _, _, _, _, rfl, rfl, SqL.of (s1 _ _ hfo), atI_nat hvi, _, rfl, _, _, _, _, rfl, rfl, SqL.of (s1 _ _ hli), atI_nat hvqi,
        _, rfl, _, rfl, _, _, _, _, rfl, rfl, Same.tup s1 t, rfl, _, _, _, _, rfl, rfl, SqL.of (s1 _ _ hfo), atI_nat hvj, _, rfl, _, _, _, _, rfl, rfl, SqL.of (s1 _ _ hl), atI_nat hvq, vqi, vq, _, _, rfl, nqi.same s1, nq.same s1, fit, fun u H' s2 hu => ?_⟩
      refine ⟨.ref pk, u, _, _, rfl, (nm_nat k).same s2, hu, fit2, fun u2 H2 s3 hu2 => kk u2 H2 (s1.trans (s2.trans s3)) ?_⟩
      show Nm g.K H2 u2 ((k : Rat) * ((sers.getD i []).getD k 0 + (sers.getD j []).getD k 0))
      rw [getD_of hi, getD_of hj]
      exact hu2
    | @disc a x s0 ci ti t hx =>
      obtain ⟨⟨o, hc⟩, ⟨p, ht⟩, cf⟩ := ff
      obtain ⟨vi, hvi, l1, w1, rfl, h1, p1⟩ := Pd.get ps hc
      obtain ⟨vj, hvj, l2, w2, rfl, h2, p2⟩ := Pd.get ps ht
      rw [getD_of hc, getD_of ht] at cf
      refine ⟨_, rfl, _, _, _, _, rfl, rfl, t, rfl, rfl, _, rfl, iteF ?_⟩
      refine ⟨_, rfl, _, _, _, _, rfl, rfl, t, rfl, rfl, _, rfl, iteF ?_⟩
      refine ⟨_, rfl, _, _, _, _, rfl, rfl, t, rfl, rfl, _, rfl, iteF ?_⟩
      refine ⟨(by show 2 ≤ sizeLine; decide), fun p0 hp0 => ?_⟩
      have s0' := same_new (o := .tup [.int 0, .int 1]) hp0
      refine ⟨_, rfl, _, rfl, by omega, by omega, for_it (walk_range (lo := 0) (n := _))
        (fun i σ H' => ∃ sh u, σ = [some (.ref a), some (.ref fo), some (.int k), some u, sh] ∧ Same H H' ∧ Nm g.K H' u (conv k o p i)) ⟨none, _, rfl, s0', nm_nat 0⟩ (fun _ _ _ _ _ => True.intro) ?_ ?_⟩
      · rintro i x σ H3 H4 hi ⟨sh, u, rfl, s3, nu⟩ ⟨rfl, hx⟩
        obtain rfl := range_at hx
        have hik : i < k := by rw [Int.toNat_natCast] at hi; exact hi
        obtain ⟨v1, e1, n1⟩ := ser_get (i := i) p1 (by have := cf.lo; omega)
        obtain ⟨v2, e2, n2⟩ := ser_get (i := k - i) p2 (by have := cf.lp; omega)
        have eki : (k : Int) - (i : Int) = ((k - i : Nat) : Int) := by omega
        refine ⟨_, rfl, _, rfl, _, rfl, _, _, rfl, rfl, (by show 2 ≤ sizeLine; decide), fun pk hpk => ?_⟩
        have s5 := same_new (o := .tup [.int ((k : Int) - (i : Int)), .int 1]) hpk
        have nk : Nm g.K (upd H4 pk (.tup [.int ((k : Int) - (i : Int)), .int 1])) (.ref pk) ((k - i : Nat) : Rat) := by
          rw [eki]
          exact nm_nat _
        have s35 := s3.trans s5
        have t5 := Same.tup s35 t
        refine ⟨_, rfl, _, rfl, _, _, _, _, rfl, rfl, t5, rfl, _, _, _, _, rfl, rfl, SqL.of (s35 _ _ hfo), atI_nat hvi, _, rfl, _, _, _, _, rfl, rfl, SqL.of (s35 _ _ h1), atI_nat e1,
          _, rfl, _, rfl, _, _, _, _, rfl, rfl, t5, rfl, _, _, _, _, rfl, rfl, SqL.of (s35 _ _ hfo), atI_nat hvj, _, rfl, _, rfl, _, _, rfl, rfl, _, _, _, _, rfl, rfl, SqL.of (s35 _ _ h2), by rw [eki]; exact atI_nat e2,
          v1, v2, _, _, rfl, n1.same s35, n2.same s35, cf.a i hik, fun x2 H6 s6 nx2 => ?_⟩
        refine ⟨.ref pk, x2, _, _, rfl, nk.same s6, nx2, cf.b i hik, fun x3 H7 s7 nx3 => ?_⟩
        refine ⟨u, x3, _, _, rfl, (nu.same (s5.trans s6)).same s7, nx3, cf.c i hik, fun x4 H8 s8 nx4 => ?_⟩
        exact ⟨_, _, rfl, s3.trans (s5.trans (s6.trans (s7.trans s8))), nx4⟩
      · rintro σ H3 ⟨sh, u, rfl, s3, nu⟩
        rw [Int.toNat_natCast] at nu
        refine ⟨_, rfl, kk u H3 s3 ?_⟩
        show Nm g.K H3 u (conv k (sers.getD ci []) (sers.getD ti []) k)
        rw [getD_of hc, getD_of ht]
        exact nu
end
end K79
end

section
set_option linter.all false
set_option maxRecDepth 100000
set_option maxHeartbeats 4000000
/-! K79W9: the series are those of the rows. -/
namespace K79
open PySem PySem.Spec PyProof.Rows L2

section
variable {g : G}
theorem all_true {ys : List V} {m : Nat} (h : ∀ (i : Nat) (y : V), ys[i]? = some y → y = .bl true) (hl : ys.length = m) : ys = (List.replicate m true).map V.bl := by
  refine List.ext_getElem? fun i => ?_
  rw [List.map_replicate, List.getElem?_replicate]
  split
  · rename_i hi
    obtain ⟨y, hy⟩ := ex_at (xs := ys) (i := i) (by omega)
    rw [hy, h i y hy]
  · exact List.getElem?_eq_none (by omega)
theorem all_rep (m : Nat) : (List.replicate m true).all id = true := List.all_eq_true.mpr fun b hb => by rw [List.eq_of_mem_replicate hb]; rfl
def spTurnsSo (K : PySem.W.Frag) : Sp := fun vs H Q _ => ∃ (m : Addr) (us : List V) (rows : List Row), vs = [.ref m] ∧ H m = some (.lst us) ∧ Paired (Rw K H) us rows ∧ Mach rows ∧ rows.length ≤ 5 ∧ (∀ r ∈ rows, r.small 200 4) ∧ ∀ H', Same H H' → Q (.bl true) H'
abbrev s__law_turns_so : Stmt := top 81
theorem sc__law_turns_so : FnScope ["_law_machine_here", "_law_told", "_law_own", "_law_row", "_law_due", "_law_one"] ["_law_machine_here"] (defScope s__law_turns_so) := ⟨rfl, rfl, rfl, by decide +kernel, rfl, by decide +kernel, by decide +kernel⟩
theorem pd3 {K : PySem.W.Frag} {H : Hp} {ws : List V} {a b c : Rat} (p : Paired (Nm K H) ws [a, b, c]) : ∃ x y z, ws = [x, y, z] ∧ Nm K H x a ∧ Nm K H y b ∧ Nm K H z c := by
  cases p with
  | cons r1 p =>
    cases p with
    | cons r2 p =>
      cases p with
      | cons r3 p =>
        cases p
        exact ⟨_, _, _, rfl, r1, r2, r3⟩
theorem ok_law_turns_so (T : TxB g) (F : Def g "_law_turns_so" s__law_turns_so ["_law_machine_here"]) (G_series_of : Has g CX0 6 "series_of" ["machine", "many"] (spSeries g.K)) (G__law_term : Has g CX0 3 "_law_term" ["_law_row", "_law_series", "_law_k"] (spTerm g.K))
    (G__law_mul : Has g CX0 2 "_law_mul" ["_law_one", "_law_other"] (spTimes g.K)) (G__law_same : Has g CX0 7 "_law_same" ["_law_one", "_law_other"] (spSame g.K 6)) : Has g CX0 8 "_law_turns_so" ["_law_machine_here"] (spTurnsSo g.K) := by
  refine F.ok sc__law_turns_so (fun vs H Q E h => ?_) (fun f cdv A outer s H vs Q E hr h => ?_)
  · obtain ⟨m, us, rows, rfl, _⟩ := h
    rfl
  · obtain ⟨m, us, rows, rfl, hm, pm, mach, h5, hz, k⟩ := h
    refine ⟨_, (pss_cons (ps_set (i := 1) sc__law_turns_so.nd rfl (Or.inl rfl) (pe_has G_series_of hr (by decide) pass0 (pa_cons (pv 0) (pa_cons pe_int pa_nil))))
      (pss_cons (ps_if (PW.pt (pw_or (pt_not (pt_val (pe_callB (call_isiK' (K := g.K)) (by rfl) T.isinstance (by decide +kernel) (pa_cons (pv 1) (pa_cons (pe_bltn (v := .ty "list") (by rfl) T.list (by decide +kernel) rfl) pa_nil))))) (pw_or (pt_cmpR op_ne (pe_callB (call_lenK (K := g.K)) (by rfl) T.len PySem.boot_len (pa_cons (pv 1) pa_nil)) (pe_callB (call_lenK (K := g.K)) (by rfl) T.len PySem.boot_len (pa_cons (pv 0) pa_nil)) (nomark _)) (pw_or1 (pt_not (pt_val (pe_callB (call_allK (K := g.K) rfl) (by rfl) T.all (by decide +kernel) (pa_cons (pe_lc (own := [("_law_one", 5)]) (g := gName 5) (tt := tYes) rfl sc__law_turns_so.nd (pi_list (pv 1)) (blkOk_by (own := [("_law_one", 5)]) (N := ["_law_machine_here", "_law_told", "_law_own", "_law_row", "_law_due", "_law_one"]) (sc := defScope s__law_turns_so) (by decide +kernel)) (fun _ _ _ _ _ => (pg_name (i := 5) sc__law_turns_so.nd rfl (Or.inl rfl))) (fun _ _ _ _ _ => pts_nil) (fun _ _ _ _ _ => (pe_cmpR op_eq (pe_callB (call_lenK (K := g.K)) (by rfl) T.len PySem.boot_len (pa_cons (pv 5) pa_nil)) pe_int (nomark _)))) pa_nil)))))))) (pss_one (ps_ret pe_bl)) pss_nil)
      (pss_cons (ps_for PassesOwn.never rfl (pi_zip (by rfl) T.zip (pa_cons (pv 1) (pa_cons (pv 0) pa_nil))) (pg_tup rfl (pgs_cons (pg_name (i := 2) sc__law_turns_so.nd rfl (Or.inl rfl)) (pgs_cons (pg_name (i := 3) sc__law_turns_so.nd rfl (Or.inl rfl)) pgs_nil)))
      (pss_cons (ps_set (i := 4) sc__law_turns_so.nd rfl (Or.inl rfl) (pe_lst (pa_cons (pe_ix (ix_tupK (K := g.K)) (pv 3) pe_int (fun _ _ => rfl)) (pa_cons (pe_has G__law_term hr (by decide) pass0 (pa_cons (pv 3) (pa_cons (pv 1) (pa_cons pe_int pa_nil)))) (pa_cons (pe_has G__law_term hr (by decide) pass0 (pa_cons (pv 3) (pa_cons (pv 1) (pa_cons pe_int pa_nil)))) pa_nil)))))
      (pss_one (ps_if (pt_not (pt_val (pe_has G__law_same hr (by decide) pass0 (pa_cons (pe_lst (pa_cons (pe_ix (ix_listK (K := g.K)) (pv 2) pe_int (fun _ _ => rfl)) (pa_cons (pe_ix (ix_listK (K := g.K)) (pv 2) pe_int (fun _ _ => rfl)) (pa_cons (pe_has G__law_mul hr (by decide) pass0 (pa_cons (pe_tup (pa_cons pe_int (pa_cons pe_int pa_nil))) (pa_cons (pe_ix (ix_listK (K := g.K)) (pv 2) pe_int (fun _ _ => rfl)) pa_nil))) pa_nil)))) (pa_cons (pv 4) pa_nil))))) (pss_one (ps_ret pe_bl)) pss_nil))))
      (pss_one (ps_ret pe_bl))))), ?_⟩
    have lm := pm.length
    refine ⟨_, rfl, m, rows, rfl, ⟨us, hm, pm⟩, mach, h5, hz, fun fo H1 ls s1 hfo0 hfo ps => ?_⟩
    have lls := ps.length
    have lp3 : (pre3 rows).length = rows.length := by
      unfold pre3
      rw [List.length_map, List.length_range]
    have hm1 := s1 _ _ hm
    refine ⟨_, rfl, _, _, _, _, _, rfl, .ty "list", tyx_lst (SqL.of hfo), kit_ty (b := "list") (r := true) (by decide +kernel), _, rfl, iteF ?_⟩
    refine ⟨_, rfl, _, _, rfl, .inl (SqL.of hfo), _, rfl, _, _, rfl, .inl (SqL.of hm1), rfl, _, rfl, ?_⟩
    rw [decide_eq_true (show V.int (ls.length : Int) = .int (us.length : Int) by rw [lls, lp3, lm])]
    refine iteF ⟨_, rfl, _, rfl, ⟨_, SqL.of hfo⟩, lc_map (walk_list (K := g.K) (a := fo) (xs := ls)) (fun D H y i => y = .bl true) (by omega) (fun _ _ _ _ _ _ _ _ h => h) (fun H' s => SqL.of (s _ _ hfo)) ?_ ?_⟩
    · rintro D i x H2 H3 Nx hi hD s2 hl ⟨rfl, hx⟩ kk
      obtain ⟨ser, hser, l, ws, rfl, hl2, pw⟩ := Pd.getV ps hx
      have hi5 : i < rows.length := by omega
      rw [pre3_at hi5] at hser
      cases hser
      have l3 := pw.length
      refine ⟨rfl, _, rfl, _, _, rfl, .inl (SqL.of (s2 _ _ hl2)), rfl, kk _ _ (Same.refl _) ?_⟩
      rw [l3]
      exact congrArg V.bl (decide_eq_true rfl)
    intro D ys H2 hD s2 hys hyl hy
    have ey := all_true hy hyl
    rw [ey] at hys
    refine ⟨D, _, rfl, SqL.of hys, _, rfl, ?_⟩
    rw [all_rep]
    refine iteF ?_
    have s12 := s1.trans s2
    refine ⟨_, rfl, _, rfl, _, _, _, _, rfl, SqL.of (s2 _ _ hfo), SqL.of (s12 _ _ hm), for_it (walk_zip (n := rows.length) (K := g.K) (a := fo) (b := m) (xs := ls) (ys := us) (by omega))
      (fun i σ H' => ∃ x2 x3 x4, σ = [some (.ref m), some (.ref fo), x2, x3, x4, none] ∧ Same H1 H') ⟨none, none, none, rfl, s2⟩ (fun i σ H' _ ⟨_, _, _, _, s⟩ => ⟨SqL.of (s _ _ hfo), SqL.of (s _ _ hm1)⟩) ?_ ?_⟩
    · rintro i x σ H3 H4 hi ⟨x2, x3, x4, rfl, s3⟩ ⟨T2, u1, u2, rfl, hT2, rfl, hu1, hu2⟩
      obtain ⟨ser, hser, l, ws, rfl, hl2, pw⟩ := Pd.getV ps hu1
      rw [pre3_at hi] at hser
      cases hser
      obtain ⟨w0, w1, w2, rfl, n0, n1, n2⟩ := pd3 pw
      obtain ⟨r, hr1, rw1⟩ := Pd.getV pm hu2
      obtain ⟨tf1, te1⟩ := term_1 hz h5 mach hr1
      obtain ⟨tf2, te2⟩ := term_2 hz h5 mach hr1
      have s4 := s3.trans (same_new (o := .tup [.ref l, u2]) hT2)
      have rw4 := rw1.same (s1.trans s4)
      obtain ⟨ar, z, x0, l', rfl, tr, nst⟩ := rw4.start1
      refine ⟨T2, _, rfl, .inl (.inl upd_same), rfl, _, _, rfl, _, _, rfl, rfl, ?_⟩
      refine ⟨_, rfl, _, _, _, _, rfl, rfl, tr, atI_nat (j := 1) rfl, _, rfl, _, rfl, .ref ar, fo, 1, r, ls, pre3 rows, rfl, rw4, s4 _ _ hfo, ps.mono (fun _ _ z => z.same s4), by decide, by decide, tf1, fun v1 H5 s5 nv1 => ?_⟩
      have s45 := s4.trans s5
      refine ⟨_, rfl, _, rfl, .ref ar, fo, 2, r, ls, pre3 rows, rfl, rw4.same s5, s45 _ _ hfo, ps.mono (fun _ _ z => z.same s45), by decide, by decide, tf2, fun v2 H6 s6 nv2 => ?_⟩
      have s46 := s45.trans s6
      refine ⟨(by show 3 ≤ sizeLine; decide), fun du hdu => ?_⟩
      have s7 := same_new (o := .lst [x0, v1, v2]) hdu
      have s47 := s46.trans s7
      refine ⟨_, rfl, _, _, _, _, rfl, rfl, SqL.of (s47 _ _ hl2), rfl, _, rfl, _, _, _, _, rfl, rfl, SqL.of (s47 _ _ hl2), rfl, (by show 2 ≤ sizeLine; decide), fun pk hpk => ?_⟩
      have s8 := same_new (o := .tup [.int 2, .int 1]) hpk
      have s48 := s47.trans s8
      refine ⟨_, rfl, _, _, _, _, rfl, rfl, SqL.of (s48 _ _ hl2), rfl, .ref pk, w2, ((2 : Nat) : Rat), _, rfl, nm_nat 2, n2.same s48, (sd_nat (k := 2) (by decide)).fit (t2_all hz h5 mach i) (by decide) (by decide) (by decide), fun v3 H9 s9 nv3 => ?_⟩
      have s49 := s48.trans s9
      refine ⟨(by show 3 ≤ sizeLine; decide), fun ob hob => ?_⟩
      have s10 := same_new (o := .lst [w0, w1, v3]) hob
      have s4a := s49.trans s10
      have s7a := (s8.trans s9).trans s10
      rw [te1] at nv1
      rw [te2] at nv2
      have est : (starts rows).getD i 0 = r.start := starts_at hr1
      rw [est] at n0
      have d1 : Dp g.K (upd H9 ob (.lst [w0, w1, v3])) (.ref ob) (.list ([r.start, (t1 rows).getD i 0, ((2 : Nat) : Rat) * (t2 rows).getD i 0].map nmD)) :=
        list_dp (R := Nm g.K _) (fun _ _ z => z.dp) upd_same (.cons (n0.same s4a) (.cons (n1.same s4a) (.cons (nv3.same s10) .nil)))
      have d2 : Dp g.K (upd H9 ob (.lst [w0, w1, v3])) (.ref du) (.list ([r.start, (t1 rows).getD i 0, ((2 : Nat) : Rat) * (t2 rows).getD i 0].map nmD)) :=
        list_dp (R := Nm g.K _) (fun _ _ z => z.dp) (s7a _ _ upd_same) (.cons ((nst.same (s5.trans s6)).same (s7.trans s7a)) (.cons ((nv1.same s6).same (s7.trans s7a)) (.cons (nv2.same (s7.trans s7a)) .nil)))
      have ok := okD_map (f := nmD) okD_nm (xs := [r.start, (t1 rows).getD i 0, ((2 : Nat) : Rat) * (t2 rows).getD i 0]) (by simp)
      refine ⟨_, rfl, .ref ob, .ref du, _, rfl, d1, d2, ok.cl, ok.sm, Nat.lt_of_le_of_lt ok.dp (by decide), by decide, fun H10 s11 => ⟨_, rfl, iteF ⟨_, _, _, rfl, s4a.trans s11⟩⟩⟩
    · rintro σ H3 ⟨x2, x3, x4, rfl, s3⟩
      exact k H3 (s1.trans s3)
end
end K79
end

section
set_option linter.all false
set_option maxRecDepth 100000
set_option maxHeartbeats 4000000
/-! K79Y1: iterators that come to their end while an exception is handled. -/
namespace K79
open PySem PySem.Spec PyProof.Rows L2 HotX

section
variable {prog : Program} {w : World} {A : Around} {E : Value → Shared → Prop} {s : Shared}
theorem list_end_hot {it l x1 : Addr} {i : Nat} {items : Array Value} {Q : Option Value → Shared → Prop} (hot : HotAt A x1 s.heap) (nx : x1 ≠ it) (hit : s.heap.IsListIter it l i) (hl : s.heap.IsList l items) (hx : items[i]? = none)
    (hQ : ∀ h', Heap.ExtBut it s.heap h' → Q none { s with heap := h' }) : wpAny (model prog w) A (pyNext (.ref it)) Q E s := by
  obtain ⟨hh, ox, vx, gx, dx, cx⟩ := hot
  obtain ⟨o, ho, hc, hd⟩ := id hit
  obtain ⟨lo, hlo, _, n, dl⟩ := hl
  unfold pyNext; refine wpAny_bind (wpAny_attempt (wpAny_callSpecial?_slot (name := Str.ofString "__next__") hit.typeIs slot_listiter_next (wpAny_call_entry slot_listiter_next hit.typeIs entry_listiter_next ?_ (args_listiter_next _))))
  show wpAny _ _ (field (.ref it) 0 >>= _) _ _ s; refine wpAny_bind (wpAny_field ho hd (x := .ref l) rfl ?_)
  show wpAny _ _ (if (Value.ref l == Value.none) = true then _ else _) _ _ s; rw [if_neg (show ¬ ((Value.ref l == Value.none) = true) from Bool.false_ne_true)]
  show wpAny _ _ (field (.ref it) 1 >>= _) _ _ s; refine wpAny_bind (wpAny_field ho hd (x := .int i 0) rfl ?_)
  show wpAny _ _ (seqItems? (.ref l) >>= _) _ _ s; refine wpAny_bind (wpAny_seqItems hlo dl ?_); simp only [Int.toNat_natCast, hx]
  refine wpAny_bind (wpAny_rule (wpAny_bind (wpAny_setField ho hd (by simp) ?_))); show wpAny _ _ (newExc (.type "StopIteration") [] >>= _) _ _ _
  refine wpAny_bind ?_; simp only [newExc, newTuple]; refine wpAny_bind (wpAny_newObj_type ?_ (by size_fits))
  refine wpAny_bind (m := firstArgMember _ _) (wpAny_of_eq (a := Value.none) (by first | rfl | (simp only [firstArgMember]; rfl)) ?_); refine wpAny_newObj_type ?_ (by size_fits)
  have gx2 := (Heap.get?_update_other s.heap (Obj.mapFields (·.setIfInBounds 0 Value.none)) (Ne.symm nx)).trans gx
  refine raiseNew_hot ⟨hh, ox, vx, Heap.get?_push_of_some _ (Heap.get?_push_of_some _ gx2), dx, cx⟩ (Nat.ne_of_lt (Heap.lt_size (Heap.get?_push_of_some _ gx2))) (Heap.get?_push_size _ rfl) rfl (by first | (simp; done) | (simp; omega) | (simp only [Array.size_append]; simp; omega)) ?_
  refine wpAny_bind (wpAny_isInstance (T := "StopIteration") (b := true) ⟨_, Heap.get?_update_self _ (Heap.get?_push_size _ rfl) rfl, rfl⟩ isSubtype_stop ?_); refine wpAny_pure (hQ _ fun b o hb e => ?_)
  have e2 := (Heap.get?_update_other s.heap (Obj.mapFields (·.setIfInBounds 0 Value.none)) (Ne.symm hb)).trans e
  rw [Heap.get?_update_other _ _ (Nat.ne_of_gt (Heap.lt_size (Heap.get?_push_of_some _ e2)))]; exact Heap.get?_push_of_some _ (Heap.get?_push_of_some _ e2)
theorem tuple_end_hot {it t x1 : Addr} {i : Nat} {items : Array Value} {Q : Option Value → Shared → Prop} (hot : HotAt A x1 s.heap) (nx : x1 ≠ it) (hit : IsTupIter s.heap it t i) (ht : IsTup s.heap t items) (hx : items[i]? = none)
    (hQ : ∀ h', Heap.ExtBut it s.heap h' → Q none { s with heap := h' }) : wpAny (model prog w) A (pyNext (.ref it)) Q E s := by
  obtain ⟨hh, ox, vx, gx, dx, cx⟩ := hot
  obtain ⟨o, ho, hc, hd⟩ := id hit
  obtain ⟨lo, hlo, _, n, dl⟩ := ht
  unfold pyNext; refine wpAny_bind (wpAny_attempt (wpAny_callSpecial?_slot (name := Str.ofString "__next__") hit.typeIs slot_tupleiter_next (wpAny_call_entry slot_tupleiter_next hit.typeIs entry_tupleiter_next ?_ (args_tupleiter_next _))))
  show wpAny _ _ (field (.ref it) 0 >>= _) _ _ s; refine wpAny_bind (wpAny_field ho hd (x := .ref t) rfl ?_)
  show wpAny _ _ (if (Value.ref t == Value.none) = true then _ else _) _ _ s; rw [if_neg (show ¬ ((Value.ref t == Value.none) = true) from Bool.false_ne_true)]
  show wpAny _ _ (field (.ref it) 1 >>= _) _ _ s; refine wpAny_bind (wpAny_field ho hd (x := .int i 0) rfl ?_)
  show wpAny _ _ (seqItems? (.ref t) >>= _) _ _ s; refine wpAny_bind (wpAny_seqItems hlo dl ?_); simp only [Int.toNat_natCast, hx]
  refine wpAny_bind (wpAny_rule (wpAny_bind (wpAny_setField ho hd (by simp) ?_))); show wpAny _ _ (newExc (.type "StopIteration") [] >>= _) _ _ _
  refine wpAny_bind ?_; simp only [newExc, newTuple]; refine wpAny_bind (wpAny_newObj_type ?_ (by size_fits))
  refine wpAny_bind (m := firstArgMember _ _) (wpAny_of_eq (a := Value.none) (by first | rfl | (simp only [firstArgMember]; rfl)) ?_); refine wpAny_newObj_type ?_ (by size_fits)
  have gx2 := (Heap.get?_update_other s.heap (Obj.mapFields (·.setIfInBounds 0 Value.none)) (Ne.symm nx)).trans gx
  refine raiseNew_hot ⟨hh, ox, vx, Heap.get?_push_of_some _ (Heap.get?_push_of_some _ gx2), dx, cx⟩ (Nat.ne_of_lt (Heap.lt_size (Heap.get?_push_of_some _ gx2))) (Heap.get?_push_size _ rfl) rfl (by first | (simp; done) | (simp; omega) | (simp only [Array.size_append]; simp; omega)) ?_
  refine wpAny_bind (wpAny_isInstance (T := "StopIteration") (b := true) ⟨_, Heap.get?_update_self _ (Heap.get?_push_size _ rfl) rfl, rfl⟩ isSubtype_stop ?_); refine wpAny_pure (hQ _ fun b o hb e => ?_)
  have e2 := (Heap.get?_update_other s.heap (Obj.mapFields (·.setIfInBounds 0 Value.none)) (Ne.symm hb)).trans e
  rw [Heap.get?_update_other _ _ (Nat.ne_of_gt (Heap.lt_size (Heap.get?_push_of_some _ e2)))]; exact Heap.get?_push_of_some _ (Heap.get?_push_of_some _ e2)
/-- (a, b, ..) = a tuple, while an exception is handled -/
theorem unpack_hot {x1 t : Addr} {items : Array Value} {targets : List (Bool × (Value → Sem Unit))} {Q : Unit → Shared → Prop} (hot : HotAt A x1 s.heap) (ht : IsTup s.heap t items) (hn : targets.length = items.size) (hstar : targets.findIdx? (·.1) = none)
    (h : ∀ h', Heap.ExtBut s.heap.objs.size s.heap h' → wpAny (model prog w) A (assignInOrder (targets.map (·.2)) items.toList) Q E { s with heap := h' }) : wpAny (model prog w) A (unpack (.ref t) targets) Q E s := by
  unfold unpack; rw [hn, hstar]; refine wpAny_bind (wpAny_holding ?_)
  have hlt : t ≠ s.heap.objs.size := by obtain ⟨o, ho, _⟩ := ht; exact Nat.ne_of_lt (Heap.lt_size ho)
  have nx : x1 ≠ s.heap.objs.size := by obtain ⟨_, o, _, e, _⟩ := hot; exact Nat.ne_of_lt (Heap.lt_size e)
  unfold unpackItems; refine wpAny_bind ?_
  · unfold notIterableAtAll; refine wpAny_bind (wpAny_specialOf ht.typeIs slot_tuple_iter.lookup ?_); refine wpAny_pure ?_
    simp only [Bool.false_eq_true, if_false]; refine wpAny_bind (wpAny_holding (iter_tuple ht ?_))
    refine wpAny_bind (wpAny_holding (draw_tuple hlt items.size 0 _ _ ⟨_, Heap.get?_push_size _ rfl, rfl, rfl⟩ (ht.push _) (by omega) fun h₁ hi1 hs1 => ?_))
    have hall : List.take items.size (List.drop 0 items.toList) = items.toList := by rw [List.drop_zero]; exact List.take_of_length_le (by simp)
    rw [hall, if_neg (by simp)]
    have ht1 : IsTup h₁ t items := (ht.push _).extBut hs1.extBut hlt
    have hot1 : HotAt A x1 h₁ := by
      obtain ⟨a, o, vs, e, r⟩ := hot
      exact ⟨a, o, vs, hs1.extBut _ _ nx (Heap.get?_push_of_some _ e), r⟩
    refine wpAny_bind (wpAny_holding (tuple_end_hot hot1 nx hi1 ht1 (by simp) fun h2 he2 => ?_)); simp only [Option.isSome_none, Bool.false_eq_true, if_false]
    exact wpAny_pure (h h2 fun b o hb e => he2 b o hb (hs1.extBut b o hb (Heap.get?_push_of_some _ e)))
theorem assign_tup_hot {env : Env} {elts : List Expr} {k : Nat} {pos : Pos} {x1 t : Addr} {items : Array Value} {Q : Unit → Shared → Prop} (hot : HotAt A x1 s.heap) (ht : IsTup s.heap t items) (hn : (assignEach elts env).length = items.size) (hstar : (assignEach elts env).findIdx? (·.1) = none)
    (h : ∀ h', Heap.ExtBut s.heap.objs.size s.heap h' → wpAny (model prog w) A (assignInOrder ((assignEach elts env).map (·.2)) items.toList) Q E { s with heap := h' }) : wpAny (model prog w) A (assign (.Tuple elts k pos) env (.ref t)) Q E s := by
  rw [assign_Tuple]; exact wpAny_bind (wpAny_standAt (unpack_hot hot ht hn hstar h))
end
end K79
end

section
set_option linter.all false
set_option maxRecDepth 100000
set_option maxHeartbeats 4000000
/-! K79Y2: lists gone through, and their comprehensions, while an exception is handled. -/
namespace K79
open PySem PySem.Spec PyProof.Rows L2 HotX L2H

/-! ### (a, b) = a tuple -/
theorem pg_tupH {X : Cx} {es : List Expr} {k : Nat} {t : TGs} {n : Nat} {pos : Pos} (hc : HotC X) (h : PGs X es t) (hn : (assignEach es X.env).length = n := by rfl) (hst : (assignEach es X.env).findIdx? (·.1) = none := by rfl) :
    PG X (.Tuple es k pos) (gTup X.K n t) := by
  constructor; intro pins s σ H v u Q I r ⟨a, xs, e1, hq, hl, hw⟩; subst e1; cases r
  obtain ⟨its, rv, ht, hz⟩ := I.tuple hq; obtain ⟨x1, hot⟩ := hc.at I
  refine assign_tup_hot hot ht (by simp [hn, ← hl, rv.length]) hst fun h' hx => ?_
  have J : Inv X pins σ H { s with heap := h' } := I.kept (t' := s.toks) fun b o e => hx b o (Nat.ne_of_lt (Heap.lt_size e)) e
  exact h.run pins _ σ H xs _ Q J (by simpa using rv) hw

/-! ### a list's turns -/
theorem turnLH {P : Program} {w : World} {K : PySem.W.Frag} {tg : Expr} (a it : Addr) : TurnH P w K tg (Itl K a) [it] it (fun i h => h.IsListIter it a i) := by
  have T : Turn P w K tg (Itl K a) [it] it (fun i h => h.IsListIter it a i) := turn_list a it
  refine ⟨T.mem, T.obj, T.keep, ?_, ?_, T.self⟩
  · intro X hP hw hK _ i pins s σ H E I hf st ⟨xs, x, hq, hx⟩; subst hP hw hK
    obtain ⟨its, rv, p, hz⟩ := I.list hq; obtain ⟨u, hu, ru⟩ := rv.get hx; obtain ⟨f0, f1, f2, f3, f4, f5⟩ := hf it (by simp)
    refine wpAny_pyNext_list_item st p.isList (x := u) (by simpa using hu) fun h2 st2 sb => ?_
    have J : Inv X pins σ H { s with heap := h2 } := I.turned (t' := s.toks) (fun b o hb e => (sb.2 b hb).trans e) f0 f1 f3 f4 f5
    obtain ⟨o, e, c, d⟩ := id st2; exact ⟨u, rfl, go_of (s := { s with heap := h2 }) e c d (by decide) ⟨x, H, J, ru, ⟨rfl, fun ys hy => by rw [I.list_inj hy hq]; exact hx⟩, st2, fun b hb => (hf b hb).1⟩⟩
  · intro X hP hw hK hc i pins s σ H E I hf st ⟨xs, hq, hx⟩; subst hP hw hK
    obtain ⟨its, rv, p, hz⟩ := I.list hq; obtain ⟨f0, f1, f2, f3, f4, f5⟩ := hf it (by simp)
    have hl := rv.length
    obtain ⟨p1, ⟨hh, v1, e1, c1⟩, hp⟩ := hc
    have g1 := (I.pin p1 (List.mem_append_left _ hp)).1
    exact list_end_hot ⟨hh, p1.2, v1, g1, e1, c1⟩ (f5 p1 (List.mem_append_left _ hp)) st p.isList (by simp; omega) fun h2 eb => ⟨rfl, I.turned (t' := s.toks) (fun b o hb e => eb b o hb e) f0 f1 f3 f4 f5⟩
theorem pi_listH {X : Cx} {tg l : Expr} {tl : TE} (hl : PE X l tl) : PIH X tg l (iList X.K tl) := by
  constructor; intro pins s σ H R I h
  refine thn (hl.run pins s σ H _ I h) fun v s1 ⟨x, H1, I1, r1, a, e, ⟨xs, hq⟩, q⟩ => ?_
  subst e; cases r1; obtain ⟨its, rv, p, hz⟩ := I1.list hq
  refine wpAny_pyIter_list p.isList ⟨s1.heap.objs.size, [s1.heap.objs.size], _, _, H1, rfl, I1.kept (t' := s1.toks) fun b o e => Heap.get?_push_of_some _ e, turnLH a _, ⟨_, Heap.get?_push_size _ rfl, rfl, rfl⟩, fun b hb => ?_, q⟩
  rw [show b = s1.heap.objs.size by simpa using hb]; exact I1.fpOk (Nat.le_refl _) (I1.hok.fresh (Nat.le_refl _))

/-! ### a comprehension's block, the handled exception's object pinned -/
abbrev blkH (X : Cx) (s : Shared) (H : Hp) (scope : Scope) (ce : Env) (fp : List Addr) : Cx := { X.blk s H scope ce fp with pn := X.pn }
theorem hot_blk {X : Cx} {s : Shared} {H : Hp} {scope : Scope} {ce : Env} {fp : List Addr} (h : HotC X) : HotC (blkH X s H scope ce fp) := h
theorem blk_in {X : Cx} {s s' : Shared} {H H' : Hp} {scope : Scope} {ce : Env} {fp : List Addr} {σ : L2.St} (I : Inv (X.blk s H scope ce fp) [] σ H' s')
    (h : ∀ p ∈ X.pn, s'.heap.get? p.1 = some p.2 ∧ H' p.1 = none ∧ p.1 ≠ ce.locals ∧ p.1 ∉ frs X.stack ∧ ∀ v, p.2.data ≠ .cell v) : Inv (blkH X s H scope ce fp) [] σ H' s' :=
  ⟨⟨I.ok.mod, I.ok.kind, I.ok.glob, I.ok.blt, I.ok.above, I.ok.inj, I.ok.has, I.ok.cab, I.ok.hd, I.ok.frames, I.ok.stk, I.ok.exf, I.ok.bs, I.ok.bsz, I.ok.noex, I.ok.exfs, I.ok.funs, I.ok.frf⟩, I.os, I.bare, I.base, I.loc, I.cell, I.free, I.freeC, fun p hp => h p (by simpa using hp), I.hok, I.len⟩
theorem lc_hot {X : Cx} {pins : List (Addr × Obj)} {s : Shared} {σ : L2.St} {H : Hp} {Q : VK} {elt tg iter : Expr} {ifs : List Expr} {scope : Scope} {own : List (Str × Nat)} {pos pos2 : Pos} {wi : TI} {gt : TG} {tt : TT} {te : TE}
    (hc : HotC X) (hN : X.N.Nodup) (I : Inv X pins σ H s) (hi : PIH X tg iter wi) (ok : BlkOk X.N X.env.scope scope own)
    (hg : ∀ (s : Shared) (H : Hp) (C : Addr) (cl : List (Str × Addr)) (fp : List Addr), PG (blkH X s H scope (compEnvC scope cl C X.env) fp) tg gt) (ht : ∀ (s : Shared) (H : Hp) (C : Addr) (cl : List (Str × Addr)) (fp : List Addr), PTs (blkH X s H scope (compEnvC scope cl C X.env) fp) ifs tt)
    (he : ∀ (s : Shared) (H : Hp) (C : Addr) (cl : List (Str × Addr)) (fp : List Addr), PE (blkH X s H scope (compEnvC scope cl C X.env) fp) elt te) (hs : ∀ x, foldedSetIterable iter X.env x = pure x) (h : tLc wi gt tt te (own.map (·.2)) σ H Q) {use : Option (Value → Sem Unit)} {Qf : Value → Shared → Prop}
    (post : ∀ L C s2 m H2, Inv X pins σ H2 s2 → Q (.ref L) H2 → s2.heap.Ns C m → FpOk X pins H2 C → compPost (model X.prog X.w) X.A X.xe use Qf (.ref L) C (.ok .next) s2) :
    wpAny (model X.prog X.w) X.A (comprehension (.ListComp elt [⟨tg, iter, ifs, 0⟩] scope pos) scope X.env pos2 (newList []) false (eval iter X.env) use) Qf X.xe s := by
  have free : ∀ y ∈ scope.names, y.2 = .free → ∃ c, X.env.cells.lookup y.1 = some c := fun y hy e => (ok.free y hy e).elim (fun k => I.ok.has _ (.inl k)) fun k => I.ok.has _ (.inr k)
  refine wpAny_comprehension_free (use := use) rfl hs (closure_ok free) ok.kind (fun y hy e => by rw [ok.uniq y hy, e]) (thn (hi.run pins s σ H _ I h) fun xv s1 hx => thn hx fun itv s2 ⟨it, fp, tn, J, H2, e, I2, T, st2, f2, q⟩ => ?_)
  subst e; refine wpAny_newObj_type (newEnv_comp ?_) (by show 0 ≤ sizeLine; decide)
  generalize hL : s2.heap.objs.size = nl
  obtain ⟨W, ⟨m0, w0⟩, turn⟩ := q nl (I2.hok.fresh (Nat.le_of_eq hL))
  generalize hs3 : ({ s2 with heap := s2.heap.push { cls := .type "list", data := .seq ([] : List Value).toArray } } : Shared) = s3
  have I3 : Inv X pins σ (upd H2 nl (.lst [])) s3 := by
    rw [← hs3]; refine I2.laid (t' := s2.toks) (fun b o e => Heap.get?_push_of_some _ e) (Nat.le_of_eq hL) ⟨Nat.zero_le _, [], 0, .nil, ?_⟩
    rw [← hL]; exact Heap.get?_push_size _ rfl
  have p3 : s3.heap = s2.heap.push { cls := .type "list", data := .seq ([] : List Value).toArray } := by rw [← hs3]
  have f3 : ∀ b ∈ fp, FpOk X pins (upd H2 nl (.lst [])) b ∧ b < s3.heap.objs.size := fun b hb => by
    obtain ⟨o, e, _⟩ := T.obj _ _ st2 b hb
    have lt := Heap.lt_size e
    refine ⟨⟨?_, (f2 b hb).2⟩, by rw [p3, Heap.size_push]; exact Nat.lt_succ_of_lt lt⟩
    rw [upd_ne (by rw [← hL]; exact Nat.ne_of_lt lt)]; exact (f2 b hb).1
  have st3 : tn 0 s3.heap := T.keep _ _ _ st2 fun b _ o e => by rw [p3]; exact Heap.get?_push_of_some _ e
  have I4' := block_start I3 ok hN f3
  have pg := hg s3 (upd H2 nl (.lst [])) s3.heap.objs.size (cellsFrom (s3.heap.objs.size + 1) scope.names (cloFrom X.env.cells scope.names [])) fp; have pt := ht s3 (upd H2 nl (.lst [])) s3.heap.objs.size (cellsFrom (s3.heap.objs.size + 1) scope.names (cloFrom X.env.cells scope.names [])) fp
  have pe := he s3 (upd H2 nl (.lst [])) s3.heap.objs.size (cellsFrom (s3.heap.objs.size + 1) scope.names (cloFrom X.env.cells scope.names [])) fp; have nfp : ∀ b ∈ fp, (upd H2 nl (.lst [])) b = none := fun b hb => (f3 b hb).1.1
  show codeAny _ _ (.compStart (.ListComp elt [⟨tg, iter, ifs, 0⟩] scope pos) 0 (.ref it) (.ref nl) (compEnvC scope (cellsFrom (s3.heap.objs.size + 1) scope.names (cloFrom X.env.cells scope.names [])) s3.heap.objs.size X.env)) (compPost (model X.prog X.w) X.A X.xe use Qf (.ref nl) s3.heap.objs.size) { s3 with heap := pushCells (s3.heap.push { cls := .type "dict", data := .dict #[] }) scope.names }
  generalize hce : compEnvC scope (cellsFrom (s3.heap.objs.size + 1) scope.names (cloFrom X.env.cells scope.names [])) s3.heap.objs.size X.env = ce at I4' pg pt pe ⊢
  have cL : ce.locals = s3.heap.objs.size := by subst hce; rfl
  generalize hH3 : upd H2 nl (.lst []) = H3 at I3 I4' pg pt pe w0 nfp f3
  have pin4 : ∀ p ∈ X.pn, (pushCells (s3.heap.push { cls := .type "dict", data := .dict #[] }) scope.names).get? p.1 = some p.2 ∧ H3 p.1 = none ∧ p.1 ≠ ce.locals ∧ p.1 ∉ frs X.stack ∧ ∀ v, p.2.data ≠ .cell v := fun p hp => by
    obtain ⟨g1, g2, g3, g4, g5⟩ := I3.pin p (List.mem_append_left _ hp)
    refine ⟨pushCells_keeps _ _ _ _ (Heap.get?_push_of_some _ g1), g2, by rw [cL]; exact Nat.ne_of_lt (Heap.lt_size g1), fun hm => (List.mem_cons.mp (I3.stkSub p.1 hm)).elim g3 g4, g5⟩
  have I4 := blk_in I4' pin4
  generalize hs4 : ({ s3 with heap := pushCells (s3.heap.push { cls := .type "dict", data := .dict #[] }) scope.names } : Shared) = s4 at I4 ⊢
  have st4 : tn 0 s4.heap := T.keep _ _ _ st3 fun b _ o e => by rw [← hs4]; exact pushCells_keeps _ _ _ _ (Heap.get?_push_of_some _ e)
  have stat : ∀ {σ' : L2.St} {H' : Hp} {s' : Shared}, Inv (blkH X s3 H3 scope ce fp) [] σ' H' s' → (∀ b ∈ fp, H' b = none) → ∀ b ∈ fp, FpOk (blkH X s3 H3 scope ce fp) [] H' b := fun {σ' H' s'} K1 hn b hb =>
    ⟨hn b hb, (K1.ok.exf b hb).1, K1.ok.exfs b hb, .inl hb, fun x c e => (K1.ok.exf b hb).2 x c e, fun p hp => (f3 b hb).1.2.2.2.2.2 p (List.mem_append_left _ (by simpa using hp))⟩
  have loop : codeAny (model X.prog X.w) X.A (.compLoop (.ListComp elt [⟨tg, iter, ifs, 0⟩] scope pos) 0 (.ref it) (.ref nl) ce) (compPost (model X.prog X.w) X.A X.xe use Qf (.ref nl) s3.heap.objs.size) s4 := by
    refine compLoop_any (fun n s' => ∃ i H', Inv (blkH X s3 H3 scope ce fp) [] (wipe σ (own.map (·.2))) H' s' ∧ tn i s'.heap ∧ (∀ b ∈ fp, H' b = none) ∧ W i n H') ?_ m0 ⟨0, H3, I4, st4, nfp, w0⟩
    rintro n s5 ⟨i, H5, I5, st5, n5, w5⟩
    rcases turn i n H5 w5 with ⟨stop, qq⟩ | ⟨go, Nx, hNx, step⟩
    · refine thnF (T.done (blkH X s3 H3 scope ce fp) rfl rfl rfl (hot_blk hc) i [] s5 _ H5 (fun _ _ => False) I5 (stat I5 n5) st5 stop) fun r s6 ⟨hr, I6⟩ => ?_
      subst hr
      have I7 : Inv X pins σ H5 s6 := I3.call' (ch := fp) I6.os I6.base I6.hok I6.bare fun b hb => ⟨(f3 b hb).1.2.2.2.1, (f3 b hb).1.2.1, (f3 b hb).1.2.2.2.2.1, (f3 b hb).1.2.2.2.2.2⟩
      have nC : H5 s3.heap.objs.size = none := by rw [← cL]; exact I6.free
      obtain ⟨m, hn, _⟩ := I6.loc
      rw [show (blkH X s3 H3 scope ce fp).env.locals = s3.heap.objs.size from cL] at hn
      exact post nl s3.heap.objs.size s6 m H5 I7 qq hn (I3.fpOk (Nat.le_refl _) nC)
    · refine thnF (T.item (blkH X s3 H3 scope ce fp) rfl rfl rfl (hot_blk hc) i [] s5 _ H5 (fun _ _ => False) I5 (stat I5 n5) st5 go) fun r s6 ⟨u, hr, h6⟩ => ?_
      subst hr; refine thnF h6 fun _ s7 ⟨x, H7, I7, r7, y7, st7, n7⟩ => ?_
      refine thnF (pg.run _ s7 _ H7 x u _ (I7.pinned (stat I7 n7) (T.obj _ _ st7)) r7 (step x H7 y7)) fun _ s8 ⟨σ8, H8, I8, hw8, q8⟩ => ?_; refine thnF (pt.run _ s8 σ8 H8 _ I8 q8) fun b s9 ⟨H9, I9, q9⟩ => ?_
      have fin : ∀ {s' : Shared} {H' : Hp}, Inv (blkH X s3 H3 scope ce fp) ([] ++ pinsAt fp s7.heap) σ8 H' s' → Nx H' → ∃ m, m < n ∧ ∃ i H', Inv (blkH X s3 H3 scope ce fp) [] (wipe σ (own.map (·.2))) H' s' ∧ tn i s'.heap ∧ (∀ b ∈ fp, H' b = none) ∧ W i m H' := fun {s' H'} K1 nx => by
        obtain ⟨m', hm, w'⟩ := hNx H' nx
        have pin7 : ∀ b ∈ fp, ∀ o, s7.heap.get? b = some o → s'.heap.get? b = some o ∧ H' b = none := fun b hb o e => ⟨(K1.pin (b, o) (List.mem_append_right _ (List.mem_append_right _ (mem_pinsAt hb e)))).1, (K1.pin (b, o) (List.mem_append_right _ (List.mem_append_right _ (mem_pinsAt hb e)))).2.1⟩
        refine ⟨m', hm, i + 1, H', (K1.unpinned (pins := [])).weak (by rw [← hw8, wipe_length]) (fun j v e => by rw [← hw8] at e; exact (wipe_some e).1), T.keep _ _ _ st7 fun b hb o e => (pin7 b hb o e).1, fun b hb => ?_, w'⟩
        obtain ⟨o, e, _⟩ := T.obj _ _ st7 b hb; exact (pin7 b hb o e).2
      cases b with
      | false => simp only [Bool.false_eq_true, if_false] at q9 ⊢; exact fin I9 q9
      | true =>
        simp only [if_true] at q9 ⊢; refine thnF (pe.run _ s9 σ8 H9 _ I9 q9) fun z s10 ⟨yv, H10, I10, r10, acc, hD10, hz10, nx⟩ => ?_
        exact app_ok (X := blkH X s3 H3 scope ce fp) I10 hD10 hz10 r10 fun s11 I11 => fin I11 nx
  exact codeAny_compStart_list loop (T.self X.A 0 _ _ _ st4 loop)
theorem pe_lcH {X : Cx} {elt tg iter : Expr} {ifs : List Expr} {scope : Scope} {own : List (Str × Nat)} {pos : Pos} {wi : TI} {gt : TG} {tt : TT} {te : TE} (hc : HotC X) (hN : X.N.Nodup) (hi : PIH X tg iter wi) (ok : BlkOk X.N X.env.scope scope own)
    (hg : ∀ (s : Shared) (H : Hp) (C : Addr) (cl : List (Str × Addr)) (fp : List Addr), PG (blkH X s H scope (compEnvC scope cl C X.env) fp) tg gt) (ht : ∀ (s : Shared) (H : Hp) (C : Addr) (cl : List (Str × Addr)) (fp : List Addr), PTs (blkH X s H scope (compEnvC scope cl C X.env) fp) ifs tt)
    (he : ∀ (s : Shared) (H : Hp) (C : Addr) (cl : List (Str × Addr)) (fp : List Addr), PE (blkH X s H scope (compEnvC scope cl C X.env) fp) elt te) (hs : ∀ x, foldedSetIterable iter X.env x = pure x := by intro _; rfl) :
    PE X (.ListComp elt [⟨tg, iter, ifs, 0⟩] scope pos) (tLc wi gt tt te (own.map (·.2))) := by
  constructor; intro pins s σ H Q I h; rw [eval_ListComp]
  refine lc_hot hc hN I hi ok hg ht he hs h fun L C s2 m H2 J q hn ⟨g0, g1, g2, g3, g4, g5⟩ => ⟨m, hn, fun h2 sb => ⟨.ref L, H2, J.turned (t' := s2.toks) (fun b o hb e => (sb.2 b hb).trans e) g0 g1 g3 g4 g5, rfl, q⟩⟩
theorem ps_setLcH {X : Cx} {i : Nat} {y : Str} {py : Pos} {elt tg iter : Expr} {ifs : List Expr} {scope : Scope} {own : List (Str × Nat)} {pos spos : Pos} {wi : TI} {gt : TG} {tt : TT} {te : TE} (hc : HotC X) (hN : X.N.Nodup) (hy : X.N[i]? = some y) (hyl : X.env.scope.names.lookup y = some .local)
    (hsw : swapsWith (.ListComp elt [⟨tg, iter, ifs, 0⟩] scope pos) (some (.Name y py)) spos.line X.env = pure true) (hi : PIH X tg iter wi) (ok : BlkOk X.N X.env.scope scope own)
    (hg : ∀ (s : Shared) (H : Hp) (C : Addr) (cl : List (Str × Addr)) (fp : List Addr), PG (blkH X s H scope (compEnvC scope cl C X.env) fp) tg gt) (ht : ∀ (s : Shared) (H : Hp) (C : Addr) (cl : List (Str × Addr)) (fp : List Addr), PTs (blkH X s H scope (compEnvC scope cl C X.env) fp) ifs tt)
    (he : ∀ (s : Shared) (H : Hp) (C : Addr) (cl : List (Str × Addr)) (fp : List Addr), PE (blkH X s H scope (compEnvC scope cl C X.env) fp) elt te) (hs : ∀ x, foldedSetIterable iter X.env x = pure x := by intro _; rfl) :
    PS X (.Assign [.Name y py] (.ListComp elt [⟨tg, iter, ifs, 0⟩] scope pos) spos) (tAsg (tLc wi gt tt te (own.map (·.2))) (gName i)) := by
  constructor; intro pins s σ H D I h; rw [exec_Assign_Name_used _ _ _ _ hsw]; refine wpAny_bind (wpAny_standAt (wpAny_bind ?_))
  show wpAny _ X.A (do let _ ← comprehension (.ListComp elt [⟨tg, iter, ifs, 0⟩] scope pos) scope X.env (firstIterPos [⟨tg, iter, ifs, 0⟩] pos) (newList []) false (eval iter X.env) (some (assign (.Name y py) X.env))) _ _ s
  have h2 : tLc wi gt tt te (own.map (·.2)) σ H (fun x H1 => gName i x σ H1 D.nx) := h
  refine wpAny_bind (thn (lc_hot (Qf := fun _ s2 => SP X pins D .next s2) hc hN I hi ok hg ht he hs h2 fun L C s2 m H2 J q hn f => ?_) fun _ s2 hq => wpAny_pure (wpAny_pure hq))
  show wpAny _ _ (assign (.Name y py) X.env (.ref L)) _ _ _; refine wpAny_assign_Name (store_ok2 (v := V.ref L) J hN hy (.inl hyl) rfl (fun s4 J4 ⟨a, sb, ha⟩ => ?_) (.inr hyl))
  obtain ⟨g0, g1, g2, g3, g4, g5⟩ := f
  have ne : C ≠ a := ha.elim (fun z => by rw [z]; exact g1) fun z e => g4 y a z e.symm
  exact ⟨m, hn.sameBut sb ne, fun h3 sb3 => ⟨_, H2, J4.turned (t' := s4.toks) (fun b o hb e => (sb3.2 b hb).trans e) g0 g1 g3 g4 g5, q⟩⟩
end K79
end

section
set_option linter.all false
set_option maxRecDepth 100000
set_option maxHeartbeats 4000000
/-! K79Y3: isinstance of a handled own error (with or without a dict of its own), list.count of bools, calls with that error. -/
namespace K79
open PySem PySem.Spec PyProof.Rows L2 HotX L2H
open PySem.Calls in
section
variable {prog : Program} {w : World} {A : Around} {E : Value → Shared → Prop} {s : Shared} {K : PySem.W.Frag} {x D : Addr} {ox : Obj} {od : Option Obj}
theorem find_cls (C : ExcC K D) : PySem.W.findObj K D od "__class__" = some (.bind (.builtin "getset_descriptor.__get__") (.builtin "object.__class__")) := by
  obtain ⟨cd, hc, _⟩ := PySem.W.any_some C.hd
  unfold PySem.W.findObj; rw [hc, Option.bind_some, C.ha, Option.bind_some]; simp [C.hn, C.ht]
theorem class_of_exc (C : ExcC K D) {Q : Option Value → Shared → Prop} (X : K.In s.heap) (I : PySem.W.InstAt s.heap x ox D od) (h : Q (some (.ref D)) { s with toks := s.toks + 1 }) : wpAny (model prog w) A (getAttr? (.ref x) "__class__") Q E s := by
  have hf := find_cls (od := od) C
  obtain ⟨hp, g, d, t, os⟩ := s
  have L0 := I.type (M := model prog w); have L1 := PySem.W.looks_findIn (M := model prog w) X C.hg; have L2 := PySem.W.looks_findIn (M := model prog w) X C.hk; have L3 := PySem.W.looks_find (M := model prog w) X I hf
  have sub : PySem.W.Looks (model prog w) hp (isInstance (.ref x) (.type "BaseException")) true := L0.andThen (PySem.W.looks_subIn X C.hs)
  have b1 : (Value.builtin "BaseException.__getattribute__" == Value.builtin "object.__getattribute__") = false := by decide +kernel
  have b2 : (onTheHeap (Value.ref D) && Value.builtin "BaseException.__getattribute__" == Value.builtin "object.__getattribute__") = false := by rw [b1]; rfl
  unfold getAttr? getAttrBy? getAttrBy; refine wpAny_bind (wpAny_mkText (wpAny_bind (wpAny_attempt (wpAny_holding (wpAny_bind (L0.at (wpAny_bind (L1.at ?_))))))))
  show wpAny _ _ (if (onTheHeap (Value.ref D) && Value.builtin "BaseException.__getattribute__" == Value.builtin "object.__getattribute__") = true then _ else _) _ _ _; rw [b2, if_neg Bool.false_ne_true]
  unfold getAttrByItsOwn hookBefore; refine wpAny_bind ?_; rw [if_pos (show onTheHeap (Value.ref D) = true from rfl)]; refine L2.at ?_
  refine wpAny_bind (wpAny_attempt (wpAny_holding ?_)); unfold callGetattribute; rw [show (false && onTheHeap (Value.builtin "BaseException.__getattribute__")) = false from rfl, if_neg Bool.false_ne_true]
  unfold boundAndCalled; rw [PySem.F.excAttr_ValueError.ga.bind (.ref x)]; refine wpAny_bind (wpAny_pure ?_)
  show wpAny _ _ (call (.builtin "BaseException.__getattribute__") [.ref x, .str "__class__" t]) _ _ _; refine wpAny_call (codeAny_call_builtin PySem.F.excAttr_ValueError.ga.plain PySem.F.entry_bexc_ga ?_)
  refine @PySem.W.check_slot (model prog w) _ _ ⟨hp, g, d, t + 1, os⟩ "BaseException.__getattribute__" "BaseException" "__getattribute__" (.ref x) [.str "__class__" t] [] _ (by decide +kernel) (by decide +kernel) sub (PySem.F.args_bexc_ga (.ref x) (.str "__class__" t)) ?_
  unfold Builtin.«object.__getattribute__»; refine wpAny_bind (wpAny_of_eq (a := ((Value.ref x : Value), [Value.str "__class__" t])) (by first | rfl | (simp only [slotArgs]; rfl)) ?_); refine wpAny_bind (wpAny_pure (wpAny_bind (L0.at (wpAny_bind (L3.at ?_)))))
  show wpAny _ _ (holding [Value.builtin "object.__class__"] (call (.builtin "getset_descriptor.__get__") [.builtin "object.__class__", .ref x, .ref D]) >>= ret) _ _ _
  refine wpAny_bind (wpAny_holding (wpAny_call (PySem.W.class_get (s := ⟨hp, g, d, t + 1, os⟩) (ox := ox) (od := od) X I C.hm ?_))); refine wpAny_pure ?_
  show wpAny _ _ (handedOut (.ref D)) _ _ _; rw [PySem.W.handedOut_of (v := .ref D) rfl]
  first
    | exact wpAny_pure (wpAny_pure h)
    | exact wpAny_pure h
    | exact wpAny_pure (wpAny_bind (wpAny_pure (wpAny_pure h)))
theorem kit_exc (C : ExcC K D) : PySem.W.KitX K (.ref x) (.ref D) (fun h => PySem.W.InstAt h x ox D od) where
  ty := fun _ _ _ I => I.type
  it := fun _ _ X _ => by
    obtain ⟨cd, hc, _⟩ := PySem.W.any_some C.hd
    unfold PySem.W.clsIn at hc
    split at hc
    · rename_i c2 d2 cd2 sl2 ho
      intro A' Q' E' s' k q; unfold isType loadHead; exact wpAny_bind (wpAny_loadPart (k _ _ (X _ _ ho)) (wpAny_pure q))
    · cases hc
  ne := fun h tp dd its n sl X htp => by
    obtain ⟨cd, hc, _⟩ := PySem.W.any_some C.hd
    refine Bool.eq_false_iff.mpr fun q => ?_
    have e : D = tp := Value.ref.inj (beq_iff_eq.mp q)
    subst e; unfold PySem.W.clsIn at hc
    split at hc
    · rename_i c2 d2 cd2 sl2 ho
      have z := (X _ _ ho).symm.trans htp
      cases z
    · cases hc
  ca := fun X I k => class_of_exc C X I k
end
/-- the dict of an own error, if it has one -/
def DictOf (d : Option Addr) (H : Hp) : Prop := d = none ∨ ∃ dd fs, d = some dd ∧ H dd = some (.xd fs)
def rIsP (K : PySem.W.Frag) (D : Addr) (d : Option Addr) (p : Addr × Obj) : List V → Hp → VK → Prop := fun xs H Q => ∃ (c : V) (cv : Value) (b : Bool), xs = [.ref p.1, c] ∧ (∀ u, RelV c u → u = cv) ∧ DictOf d H ∧ PySem.W.kitOne K (.ref D) cv = some b ∧ Q (.bl b) H
theorem call_isP {X : Cx} {D : Addr} {d : Option Addr} {p : Addr × Obj} (hp : p ∈ X.pn) (C : ExcC X.K D) (hz : Zc (.ref D) d p.2) (hf : ∃ vs, p.2.data = .fields vs) : CallR X (.builtin "isinstance") (rIsP X.K D d p) := by
  rintro pins s σ H xs us Q I r ⟨c, cv, b, rfl, hcv, hd, e, q⟩
  obtain ⟨u1, u2, rfl, r1, r2⟩ := r.two
  cases r1; cases hcv _ r2
  obtain ⟨hget, _⟩ := I.pin p (List.mem_append_left _ hp)
  obtain ⟨vs, hv⟩ := hf
  have nc : PySem.W.notCls p.2 = true := by unfold PySem.W.notCls; rw [hv] <;> rfl
  rcases hd with hd | ⟨dd, fs, hd, hH⟩
  · have J : PySem.W.InstAt s.heap p.1 p.2 D none := ⟨hget, hz.1, nc, by rw [hz.2, hd]; trivial⟩
    exact PySem.W.kia_one (kit_exc C) I.kIn J e (fun z => nomatch z) fun tk => ⟨.bl b, H, I.kept (t' := tk) fun _ _ z => z, rfl, q⟩
  · obtain ⟨mA, hns, hr⟩ := (show ObjOk X.prog X.w H s.heap dd (.xd fs) from I.hok dd _ hH)
    obtain ⟨od, ho, hl⟩ := lookIn_ns hns
    have J : PySem.W.InstAt s.heap p.1 p.2 D (some od) := ⟨hget, hz.1, nc, by rw [hz.2, hd]; exact ho⟩
    exact PySem.W.kia_one (kit_exc C) I.kIn J e (fun z => nomatch z) fun tk => ⟨.bl b, H, I.kept (t' := tk) fun _ _ z => z, rfl, q⟩

/-! ### list.count(True) of bools -/
def eqT (v : Value) : Bool := match v with
  | .bool b => b
  | _ => false
def rCntB (K : PySem.W.Frag) : V → List V → Hp → VK → Prop := fun x xs H Q => ∃ (p : Addr) (bs : List Bool), x = .ref p ∧ xs = [.bl true] ∧ SqL K H p (bs.map V.bl) ∧ Q (.int (bs.count true : Nat)) H
theorem bools_of : ∀ {us : List Value} {bs : List Bool}, Vals (bs.map V.bl) us → us = bs.map Value.bool
  | _, [], h => by cases h; rfl
  | _, b :: bs, h => by
    cases h with
    | cons h1 h2 => rw [bools_of h2, show _ = Value.bool b from h1]; rfl
theorem mt_countB {X : Cx} : MtR X "list.count" (rCntB X.K) := by
  rintro pins s σ H x xs v us Q I rx rxs ⟨p, bs, rfl, rfl, hs, q⟩
  cases rx; obtain ⟨u, rfl, ru⟩ := rxs.one; cases (show u = Value.bool true from ru)
  obtain ⟨its, rv, ⟨⟨cls, dd, data, sl⟩, n, ho, hc, hdn, hd⟩, hlen⟩ := I.list hs
  simp only at hc hd; subst hc hd
  have ei := bools_of rv
  refine call_meets PySem.F.slot_list_count ⟨_, ho, rfl⟩ PySem.F.entry_list_count (PySem.F.args_list_count_2 _ _) (SeqAt.list_countAt p its.toArray n dd sl (.bool true) eqT) ⟨ho, fun y hy => ?_, ?_⟩
  · have hy2 : y ∈ its := by simpa using hy
    rw [ei] at hy2; obtain ⟨b, _, rfl⟩ := List.mem_map.mp hy2
    have z := SeqAt.EqAt.bool_bool (A := X.A.in1) (s := s) b true
    cases b <;> exact z
  · have ec : ∀ l : List Bool, (l.map Value.bool).countP eqT = l.count true := fun l => by
      induction l with
      | nil => rfl
      | cons b l ih => rw [List.map_cons, List.countP_cons, List.count_cons, ih]; cases b <;> rfl
    refine ⟨.int (bs.count true : Nat), H, I.tok _, ⟨s.toks, ?_⟩, q⟩
    show Value.int ((its.toArray.toList.countP eqT : Nat) : Int) s.toks = _
    rw [show its.toArray.toList = its from rfl, ei, ec]
end K79
end

section
set_option linter.all false
set_option maxRecDepth 100000
set_option maxHeartbeats 4000000
/-! K79Y4: the law's look at a handled error. -/
namespace K79
open PySem PySem.Spec PyProof.Rows L2 HotX L2H

/-- a def that is called with the handled error (p: where it stands, its object); it lets nothing out -/
structure FnP (P : Program) (w : World) (K : PySem.W.Frag) (mg : Str → Option Value) (base : Heap) (k : Nat) (f : Addr) (fd : FuncData) (ps : List Str) (sp : Addr × Obj → Sp) : Prop where
  len : ∀ p vs H Q E, sp p vs H Q E → vs.length = ps.length
  go : ∀ (p : Addr × Obj) (A : Around) (outer : List Env) (s : Shared) (H : Hp) (args : Args) (us : List Value) (vs : List V) (Q : VK), RoomH k A → Hot1 A p → PinOk outer H s p → Env0 P w K mg base A outer s H → BindsTo s fd args (ps.zip us) → Vals vs us → sp p vs H Q E0 →
    codeAny (model P w) A (.call (.ref f) args) (CR CX0 outer P w H s Q E0) s
theorem fn_ofP {P : Program} {w : World} {K : PySem.W.Frag} {mg : Str → Option Value} {base : Heap} {k : Nat} {f : Addr} {fd : FuncData} {x qual : Str} {params : Arguments} {body : List Stmt} {scope : Scope} {N ps : List Str} {sp : Addr × Obj → Sp}
    (F : FunD K x qual params body scope [] [] f fd) (S : FnScope N ps scope) (len : ∀ p vs H Q E, sp p vs H Q E → vs.length = ps.length)
    (hbody : ∀ (p : Addr × Obj) (cdv : Value) (A : Around) (outer : List Env) (s : Shared) (H : Hp) (vs : List V) (Q : VK), Hot1 A p → RoomH k (A.deeper (envOfC qual scope s.heap.objs.size f cdv)) → sp p vs H Q E0 →
      ∃ t, PSs (cxH CX0 P w K mg base N qual scope f cdv A outer s H E0 p) body t ∧ t { nx := fun _ H' => Q .non H', rt := Q } (L2.start N vs) H) : FnP P w K mg base (k + 1) f fd ps sp := by
  obtain ⟨oc, od, dV, kV, doc, pm, an, cdv, ct, osl, rfl, lk, hcd, _, _⟩ := F.ex
  refine ⟨len, fun p A outer s H args us vs Q hr hot hpin e0 hb r hsp => ?_⟩
  have hl := len _ _ _ _ _ hsp
  have KX : K.In s.heap := e0.mod.kin.keeps fun b o e => (e0.bs b o e).1
  refine codeAny_call_function hr.depth (KX _ _ lk) rfl S.co S.gen rfl (PySem.W.codeRec_of KX hcd) (hb _ _ _ _ ?_)
  refine wpAny_newFunctionEnv_cells S.kind (fun ⟨n, v⟩ hy => (S.par n (List.of_mem_zip hy).1).elim .inl fun q => .inr ⟨q, PySem.W.cellsFrom_some _ _ _ (.inl q)⟩) fun env he s1 x1 => ?_
  subst he; refine ⟨(e0.mod.nolimit.keeps fun b o e => (e0.bs b o e).1).keeps x1.toInCall.keep, codeAny_func ?_⟩
  obtain ⟨t, ht, hq⟩ := hbody p cdv A outer s H vs Q hot (hr.deeper _) hsp
  refine wpAny_mono (ht.run [] s1 (L2.start N vs) H _ (inv_startH S hpin e0 hl r x1) hq) (fun fl s2 hs => ?_) fun e s2 hs => hs
  have fin : ∀ {σ2 : L2.St} {H2 : Hp} {v : V} {u : Value}, Inv (cxH CX0 P w K mg base N qual scope f cdv A outer s H E0 p) [] σ2 H2 s2 → RelV v u → Q v H2 → CE outer P w H s Q u s2 := fun {σ2 H2 v u} J rv q => ⟨v, H2, J.os, J.bare, J.base, J.hok, rv, q⟩
  cases fl with
  | ret u => obtain ⟨v, σ2, H2, J, rv, q⟩ := hs; exact fin J rv q
  | next => obtain ⟨σ2, H2, J, q⟩ := hs; exact fin (v := V.non) (u := Value.none) J rfl q
  | brk => obtain ⟨_, _, _, q⟩ := hs; exact q.elim
  | cont => obtain ⟨_, _, _, q⟩ := hs; exact q.elim
def HasP (g : G) (k : Nat) (x : Str) (ps : List Str) (sp : Addr × Obj → Sp) : Prop := ∃ (f : Addr) (fd : FuncData), FnP g.P g.w g.K g.mg g.base k f fd ps sp ∧ g.mg x = some (.ref f) ∧ PySem.W.keepIn g.K (.ref f) = true ∧ Binds g.K fd ps []
theorem Def.okP {g : G} {x : Str} {st : Stmt} {N ps : List Str} {k : Nat} {sp : Addr × Obj → Sp} (F : Def g x st ps) (S : FnScope N ps (defScope st)) (len : ∀ p vs H Q E, sp p vs H Q E → vs.length = ps.length)
    (hbody : ∀ (f : Addr) (p : Addr × Obj) (cdv : Value) (A : Around) (outer : List Env) (s : Shared) (H : Hp) (vs : List V) (Q : VK), Hot1 A p → RoomH k (A.deeper (envOfC x (defScope st) s.heap.objs.size f cdv)) → sp p vs H Q E0 →
      ∃ t, PSs (cxH CX0 g.P g.w g.K g.mg g.base N x (defScope st) f cdv A outer s H E0 p) (defBody st) t ∧ t { nx := fun _ H' => Q .non H', rt := Q } (L2.start N vs) H) : HasP g (k + 1) x ps sp := by
  obtain ⟨f, fd, F, hm, hb⟩ := F
  exact ⟨f, fd, fn_ofP F S len fun p cdv A outer s H vs Q hot hr h => hbody f p cdv A outer s H vs Q hot hr h, hm, F.kp, hb⟩
def tCallP (sp : Sp) (t : TA) : TE := fun σ H Q => t σ H fun vs H1 => sp vs H1 Q E0
theorem pe_hasP {X : Cx} {j k : Nat} {p : Addr × Obj} {ps : List Str} {sp : Addr × Obj → Sp} {x : Str} {q pos : Pos} {e : Expr} {es : List Expr} {t : TA} (h : HasP (Cx.g X) k x ps sp) (hr : RoomH j X.A) (hk : k ≤ j) (hot : Hot1 X.A p) (hp : p ∈ X.pn) (ha : PA X (e :: es) t) (hg : Gl X x := by rfl)
    (hdb : (x == ("__debug__" : Str)) = false := by decide) (he : starEach (e :: es) X.env = (false, eval e X.env) :: starEach es X.env := by rfl) (hpl : (backTo pos (starEach es X.env)).any (·.1) = false := by rfl) : PE X (.Call (.Name x q) (e :: es) [] pos) (tCallP (sp p) t) := by
  obtain ⟨f, fd, F, hm, hkp, hb⟩ := h
  constructor; intro pins s σ H Q I h; refine wpAny_Call_Name_kw (ld_glob I hg hm ?_ hdb)
  refine PySem.W.callWith_K (h₀ := X.base) I.ok.mod.kin hkp (thn (ha.run pos pins s σ H _ I h) fun us s1 ⟨vs, H1, I1, r, hsp⟩ => ⟨I1.kIn, ?_⟩) he hpl
  have hl : us.length = ps.length := by rw [← r.length]; exact F.len _ _ _ _ _ hsp
  have b := hb s1 us I1.kIn (by rw [List.append_nil]; exact hl)
  rw [List.append_nil] at b
  have P1 := I1.pin p (List.mem_append_left _ hp)
  refine wpAny_call (codeAny_mono (F.go p X.A X.stack s1 H1 ⟨us, []⟩ us vs Q (hr.mono hk) hot ⟨P1.1, P1.2.1, fun hm => (List.mem_cons.mp (I1.stkSub p.1 hm)).elim P1.2.2.1 P1.2.2.2.1, P1.2.2.2.2⟩ I1.env0 b r hsp) fun r2 s2 hq => ?_)
  cases r2 with
  | error e => exact hq.elim
  | ok fl =>
    cases fl with
    | ret u => exact I1.after hq
    | next => exact hq.elim
    | brk => exact hq.elim
    | cont => exact hq.elim

def all17 : List Str := ["NoFraction", "NoSeries", "NoMachine", "Ring", "NoRoom", "NotEven", "NotLean", "Held", "Stopped", "TooFar", "NoGear", "NoDeed", "NoText", "NoSaying", "NoName", "NoBench", "TooMany"]
def raised7 : List Str := ["Held", "NoMachine", "TooFar", "NoGear", "NoDeed", "Ring", "Stopped"]
def raised5 : List Str := ["Held", "NoMachine", "TooFar", "NoGear", "NoDeed"]
/-- what the written part says of the own errors' classes, to isinstance -/
structure TxI (g : G) : Prop where
  cls_NoFraction : g.mg "NoFraction" = some (.ref (He.ga g.K "NoFraction"))
  cls_NoSeries : g.mg "NoSeries" = some (.ref (He.ga g.K "NoSeries"))
  cls_NoMachine : g.mg "NoMachine" = some (.ref (He.ga g.K "NoMachine"))
  cls_Ring : g.mg "Ring" = some (.ref (He.ga g.K "Ring"))
  cls_NoRoom : g.mg "NoRoom" = some (.ref (He.ga g.K "NoRoom"))
  cls_NotEven : g.mg "NotEven" = some (.ref (He.ga g.K "NotEven"))
  cls_NotLean : g.mg "NotLean" = some (.ref (He.ga g.K "NotLean"))
  cls_Held : g.mg "Held" = some (.ref (He.ga g.K "Held"))
  cls_Stopped : g.mg "Stopped" = some (.ref (He.ga g.K "Stopped"))
  cls_TooFar : g.mg "TooFar" = some (.ref (He.ga g.K "TooFar"))
  cls_NoGear : g.mg "NoGear" = some (.ref (He.ga g.K "NoGear"))
  cls_NoDeed : g.mg "NoDeed" = some (.ref (He.ga g.K "NoDeed"))
  cls_NoText : g.mg "NoText" = some (.ref (He.ga g.K "NoText"))
  cls_NoSaying : g.mg "NoSaying" = some (.ref (He.ga g.K "NoSaying"))
  cls_NoName : g.mg "NoName" = some (.ref (He.ga g.K "NoName"))
  cls_NoBench : g.mg "NoBench" = some (.ref (He.ga g.K "NoBench"))
  cls_TooMany : g.mg "TooMany" = some (.ref (He.ga g.K "TooMany"))
  cls_RollError : g.mg "RollError" = some (.ref (He.ga g.K "RollError"))
  exc : ∀ x ∈ raised7, ExcC g.K (He.ga g.K x)
  one : ∀ x ∈ raised7, ∀ y ∈ all17, PySem.W.kitOne g.K (.ref (He.ga g.K x)) (.ref (He.ga g.K y)) = some (decide (x = y))
  ve : ∀ x ∈ raised7, PySem.W.kitOne g.K (.ref (He.ga g.K x)) (.type "ValueError") = some true
  veN : g.mg "ValueError" = none
theorem DictOf.same {d : Option Addr} {H H' : Hp} (s : Same H H') (h : DictOf d H) : DictOf d H' := h.imp id fun ⟨dd, fs, e, h2⟩ => ⟨dd, fs, e, s _ _ h2⟩
section
variable {g : G}
/-- one of the law's seven -/
def spAlone (K : PySem.W.Frag) (p : Addr × Obj) : Sp := fun vs H Q _ => ∃ (x : Str) (d : Option Addr), vs = [.ref p.1] ∧ x ∈ raised7 ∧ Zc (.ref (He.ga K x)) d p.2 ∧ DictOf d H ∧ ∀ H', Same H H' → Q (.bl true) H'
abbrev s__law_alone : Stmt := top 64
theorem sc__law_alone : FnScope ["_law_e", "_law_kinds"] ["_law_e"] (defScope s__law_alone) := ⟨rfl, rfl, rfl, by decide +kernel, rfl, by decide +kernel, by decide +kernel⟩
theorem count_one : ∀ x ∈ raised7, ((all17.map fun y => decide (x = y)).count true : Nat) = 1 := by decide +kernel
theorem ok_law_alone (T : TxB g) (TI : TxI g) (F : Def g "_law_alone" s__law_alone ["_law_e"]) : HasP g 1 "_law_alone" ["_law_e"] (spAlone g.K) := by
  refine F.okP sc__law_alone (fun p vs H Q E h => ?_) (fun f p cdv A outer s H vs Q hot hr h => ?_)
  · obtain ⟨x, d, rfl, _⟩ := h
    rfl
  · obtain ⟨x, d, rfl, hx, hz, hd, k⟩ := h
    have hf : ∃ vs, p.2.data = .fields vs := let ⟨_, vs, e, _⟩ := hot; ⟨vs, e⟩
    refine ⟨_, (pss_cons (ps_set (i := 1) sc__law_alone.nd rfl (Or.inl rfl) (pe_lst (pa_cons (pe_callB (call_isP (p := p) (d := d) List.mem_cons_self (TI.exc x hx) hz hf) (by rfl) T.isinstance (by decide +kernel) (pa_cons (pv 0) (pa_cons (pe_glob rfl (TI.cls_NoFraction) (v := .ref (He.ga g.K "NoFraction")) rfl) pa_nil))) (pa_cons (pe_callB (call_isP (p := p) (d := d) List.mem_cons_self (TI.exc x hx) hz hf) (by rfl) T.isinstance (by decide +kernel) (pa_cons (pv 0) (pa_cons (pe_glob rfl (TI.cls_NoSeries) (v := .ref (He.ga g.K "NoSeries")) rfl) pa_nil))) (pa_cons (pe_callB (call_isP (p := p) (d := d) List.mem_cons_self (TI.exc x hx) hz hf) (by rfl) T.isinstance (by decide +kernel) (pa_cons (pv 0) (pa_cons (pe_glob rfl (TI.cls_NoMachine) (v := .ref (He.ga g.K "NoMachine")) rfl) pa_nil))) (pa_cons (pe_callB (call_isP (p := p) (d := d) List.mem_cons_self (TI.exc x hx) hz hf) (by rfl) T.isinstance (by decide +kernel) (pa_cons (pv 0) (pa_cons (pe_glob rfl (TI.cls_Ring) (v := .ref (He.ga g.K "Ring")) rfl) pa_nil))) pa_nil))))))
      (pss_cons (ps_set (i := 1) sc__law_alone.nd rfl (Or.inl rfl) (pe_op op_cat (pv 1) (pe_lst (pa_cons (pe_callB (call_isP (p := p) (d := d) List.mem_cons_self (TI.exc x hx) hz hf) (by rfl) T.isinstance (by decide +kernel) (pa_cons (pv 0) (pa_cons (pe_glob rfl (TI.cls_NoRoom) (v := .ref (He.ga g.K "NoRoom")) rfl) pa_nil))) (pa_cons (pe_callB (call_isP (p := p) (d := d) List.mem_cons_self (TI.exc x hx) hz hf) (by rfl) T.isinstance (by decide +kernel) (pa_cons (pv 0) (pa_cons (pe_glob rfl (TI.cls_NotEven) (v := .ref (He.ga g.K "NotEven")) rfl) pa_nil))) (pa_cons (pe_callB (call_isP (p := p) (d := d) List.mem_cons_self (TI.exc x hx) hz hf) (by rfl) T.isinstance (by decide +kernel) (pa_cons (pv 0) (pa_cons (pe_glob rfl (TI.cls_NotLean) (v := .ref (He.ga g.K "NotLean")) rfl) pa_nil))) (pa_cons (pe_callB (call_isP (p := p) (d := d) List.mem_cons_self (TI.exc x hx) hz hf) (by rfl) T.isinstance (by decide +kernel) (pa_cons (pv 0) (pa_cons (pe_glob rfl (TI.cls_Held) (v := .ref (He.ga g.K "Held")) rfl) pa_nil))) pa_nil)))))))
      (pss_cons (ps_set (i := 1) sc__law_alone.nd rfl (Or.inl rfl) (pe_op op_cat (pv 1) (pe_lst (pa_cons (pe_callB (call_isP (p := p) (d := d) List.mem_cons_self (TI.exc x hx) hz hf) (by rfl) T.isinstance (by decide +kernel) (pa_cons (pv 0) (pa_cons (pe_glob rfl (TI.cls_Stopped) (v := .ref (He.ga g.K "Stopped")) rfl) pa_nil))) (pa_cons (pe_callB (call_isP (p := p) (d := d) List.mem_cons_self (TI.exc x hx) hz hf) (by rfl) T.isinstance (by decide +kernel) (pa_cons (pv 0) (pa_cons (pe_glob rfl (TI.cls_TooFar) (v := .ref (He.ga g.K "TooFar")) rfl) pa_nil))) (pa_cons (pe_callB (call_isP (p := p) (d := d) List.mem_cons_self (TI.exc x hx) hz hf) (by rfl) T.isinstance (by decide +kernel) (pa_cons (pv 0) (pa_cons (pe_glob rfl (TI.cls_NoGear) (v := .ref (He.ga g.K "NoGear")) rfl) pa_nil))) (pa_cons (pe_callB (call_isP (p := p) (d := d) List.mem_cons_self (TI.exc x hx) hz hf) (by rfl) T.isinstance (by decide +kernel) (pa_cons (pv 0) (pa_cons (pe_glob rfl (TI.cls_NoDeed) (v := .ref (He.ga g.K "NoDeed")) rfl) pa_nil))) pa_nil)))))))
      (pss_cons (ps_set (i := 1) sc__law_alone.nd rfl (Or.inl rfl) (pe_op op_cat (pv 1) (pe_lst (pa_cons (pe_callB (call_isP (p := p) (d := d) List.mem_cons_self (TI.exc x hx) hz hf) (by rfl) T.isinstance (by decide +kernel) (pa_cons (pv 0) (pa_cons (pe_glob rfl (TI.cls_NoText) (v := .ref (He.ga g.K "NoText")) rfl) pa_nil))) (pa_cons (pe_callB (call_isP (p := p) (d := d) List.mem_cons_self (TI.exc x hx) hz hf) (by rfl) T.isinstance (by decide +kernel) (pa_cons (pv 0) (pa_cons (pe_glob rfl (TI.cls_NoSaying) (v := .ref (He.ga g.K "NoSaying")) rfl) pa_nil))) (pa_cons (pe_callB (call_isP (p := p) (d := d) List.mem_cons_self (TI.exc x hx) hz hf) (by rfl) T.isinstance (by decide +kernel) (pa_cons (pv 0) (pa_cons (pe_glob rfl (TI.cls_NoName) (v := .ref (He.ga g.K "NoName")) rfl) pa_nil))) (pa_cons (pe_callB (call_isP (p := p) (d := d) List.mem_cons_self (TI.exc x hx) hz hf) (by rfl) T.isinstance (by decide +kernel) (pa_cons (pv 0) (pa_cons (pe_glob rfl (TI.cls_NoBench) (v := .ref (He.ga g.K "NoBench")) rfl) pa_nil))) pa_nil)))))))
      (pss_cons (ps_set (i := 1) sc__law_alone.nd rfl (Or.inl rfl) (pe_op op_cat (pv 1) (pe_lst (pa_cons (pe_callB (call_isP (p := p) (d := d) List.mem_cons_self (TI.exc x hx) hz hf) (by rfl) T.isinstance (by decide +kernel) (pa_cons (pv 0) (pa_cons (pe_glob rfl (TI.cls_TooMany) (v := .ref (He.ga g.K "TooMany")) rfl) pa_nil))) pa_nil))))
      (pss_one (ps_ret (pe_and (pe_callB (call_isP (p := p) (d := d) List.mem_cons_self (TI.exc x hx) hz hf) (by rfl) T.isinstance (by decide +kernel) (pa_cons (pv 0) (pa_cons (pe_bltn (v := .ty "ValueError") (by rfl) TI.veN (by decide +kernel) rfl) pa_nil))) (pe_one (pe_cmpR op_eq (pe_bm PySem.F.plainAttrs_list PySem.F.slot_list_count PySem.F.type_list_count mt_countB (pv 1) (pa_cons pe_bl pa_nil)) pe_int (nomark _))))))))))), ?_⟩
    refine ⟨_, rfl, _, _, _, rfl, (fun _ h => h), hd, TI.one x hx "NoFraction" (by decide +kernel), _, rfl, _, _, _, rfl, (fun _ h => h), hd, TI.one x hx "NoSeries" (by decide +kernel), _, rfl, _, _, _, rfl, (fun _ h => h), hd, TI.one x hx "NoMachine" (by decide +kernel), _, rfl, _, _, _, rfl, (fun _ h => h), hd, TI.one x hx "Ring" (by decide +kernel), (by show 4 ≤ sizeLine; decide), fun p0 hp0 => ?_⟩
    have s0 := (same_new (o := .lst [.bl (decide (x = "NoFraction")), .bl (decide (x = "NoSeries")), .bl (decide (x = "NoMachine")), .bl (decide (x = "Ring"))]) hp0)
    refine ⟨_, rfl, _, rfl, _, _, _, rfl, (fun _ h => h), (hd.same s0), TI.one x hx "NoRoom" (by decide +kernel), _, rfl, _, _, _, rfl, (fun _ h => h), (hd.same s0), TI.one x hx "NotEven" (by decide +kernel), _, rfl, _, _, _, rfl, (fun _ h => h), (hd.same s0), TI.one x hx "NotLean" (by decide +kernel), _, rfl, _, _, _, rfl, (fun _ h => h), (hd.same s0), TI.one x hx "Held" (by decide +kernel), (by show 4 ≤ sizeLine; decide), fun p1 hp1 => ?_⟩
    have s1 := s0.trans (same_new (o := .lst [.bl (decide (x = "NoRoom")), .bl (decide (x = "NotEven")), .bl (decide (x = "NotLean")), .bl (decide (x = "Held"))]) hp1)
    refine ⟨p0, p1, _, _, rfl, rfl, same_new hp1 _ _ upd_same, upd_same, (by show 8 ≤ sizeLine; decide), fun p2 hp2 => ?_⟩
    have s2 := s1.trans (same_new (o := .lst [.bl (decide (x = "NoFraction")), .bl (decide (x = "NoSeries")), .bl (decide (x = "NoMachine")), .bl (decide (x = "Ring")), .bl (decide (x = "NoRoom")), .bl (decide (x = "NotEven")), .bl (decide (x = "NotLean")), .bl (decide (x = "Held"))]) hp2)
    refine ⟨_, rfl, _, rfl, _, _, _, rfl, (fun _ h => h), (hd.same s2), TI.one x hx "Stopped" (by decide +kernel), _, rfl, _, _, _, rfl, (fun _ h => h), (hd.same s2), TI.one x hx "TooFar" (by decide +kernel), _, rfl, _, _, _, rfl, (fun _ h => h), (hd.same s2), TI.one x hx "NoGear" (by decide +kernel), _, rfl, _, _, _, rfl, (fun _ h => h), (hd.same s2), TI.one x hx "NoDeed" (by decide +kernel), (by show 4 ≤ sizeLine; decide), fun p3 hp3 => ?_⟩
    have s3 := s2.trans (same_new (o := .lst [.bl (decide (x = "Stopped")), .bl (decide (x = "TooFar")), .bl (decide (x = "NoGear")), .bl (decide (x = "NoDeed"))]) hp3)
    refine ⟨p2, p3, _, _, rfl, rfl, same_new hp3 _ _ upd_same, upd_same, (by show 12 ≤ sizeLine; decide), fun p4 hp4 => ?_⟩
    have s4 := s3.trans (same_new (o := .lst [.bl (decide (x = "NoFraction")), .bl (decide (x = "NoSeries")), .bl (decide (x = "NoMachine")), .bl (decide (x = "Ring")), .bl (decide (x = "NoRoom")), .bl (decide (x = "NotEven")), .bl (decide (x = "NotLean")), .bl (decide (x = "Held")), .bl (decide (x = "Stopped")), .bl (decide (x = "TooFar")), .bl (decide (x = "NoGear")), .bl (decide (x = "NoDeed"))]) hp4)
    refine ⟨_, rfl, _, rfl, _, _, _, rfl, (fun _ h => h), (hd.same s4), TI.one x hx "NoText" (by decide +kernel), _, rfl, _, _, _, rfl, (fun _ h => h), (hd.same s4), TI.one x hx "NoSaying" (by decide +kernel), _, rfl, _, _, _, rfl, (fun _ h => h), (hd.same s4), TI.one x hx "NoName" (by decide +kernel), _, rfl, _, _, _, rfl, (fun _ h => h), (hd.same s4), TI.one x hx "NoBench" (by decide +kernel), (by show 4 ≤ sizeLine; decide), fun p5 hp5 => ?_⟩
    have s5 := s4.trans (same_new (o := .lst [.bl (decide (x = "NoText")), .bl (decide (x = "NoSaying")), .bl (decide (x = "NoName")), .bl (decide (x = "NoBench"))]) hp5)
    refine ⟨p4, p5, _, _, rfl, rfl, same_new hp5 _ _ upd_same, upd_same, (by show 16 ≤ sizeLine; decide), fun p6 hp6 => ?_⟩
    have s6 := s5.trans (same_new (o := .lst [.bl (decide (x = "NoFraction")), .bl (decide (x = "NoSeries")), .bl (decide (x = "NoMachine")), .bl (decide (x = "Ring")), .bl (decide (x = "NoRoom")), .bl (decide (x = "NotEven")), .bl (decide (x = "NotLean")), .bl (decide (x = "Held")), .bl (decide (x = "Stopped")), .bl (decide (x = "TooFar")), .bl (decide (x = "NoGear")), .bl (decide (x = "NoDeed")), .bl (decide (x = "NoText")), .bl (decide (x = "NoSaying")), .bl (decide (x = "NoName")), .bl (decide (x = "NoBench"))]) hp6)
    refine ⟨_, rfl, _, rfl, _, _, _, rfl, (fun _ h => h), (hd.same s6), TI.one x hx "TooMany" (by decide +kernel), (by show 1 ≤ sizeLine; decide), fun p7 hp7 => ?_⟩
    have s7 := s6.trans (same_new (o := .lst [.bl (decide (x = "TooMany"))]) hp7)
    refine ⟨p6, p7, _, _, rfl, rfl, same_new hp7 _ _ upd_same, upd_same, (by show 17 ≤ sizeLine; decide), fun p8 hp8 => ?_⟩
    have s8 := s7.trans (same_new (o := .lst [.bl (decide (x = "NoFraction")), .bl (decide (x = "NoSeries")), .bl (decide (x = "NoMachine")), .bl (decide (x = "Ring")), .bl (decide (x = "NoRoom")), .bl (decide (x = "NotEven")), .bl (decide (x = "NotLean")), .bl (decide (x = "Held")), .bl (decide (x = "Stopped")), .bl (decide (x = "TooFar")), .bl (decide (x = "NoGear")), .bl (decide (x = "NoDeed")), .bl (decide (x = "NoText")), .bl (decide (x = "NoSaying")), .bl (decide (x = "NoName")), .bl (decide (x = "NoBench")), .bl (decide (x = "TooMany"))]) hp8)
    refine ⟨_, rfl, _, _, _, rfl, (fun _ h => h), hd.same s8, TI.ve x hx, true, rfl, ?_⟩
    rw [if_pos rfl]
    refine ⟨_, rfl, .inl ⟨rfl, _, .inl (.inl upd_same)⟩, p8, all17.map fun y => decide (x = y), rfl, rfl, SqL.of (by rw [upd_same]; rfl), rfl, ?_⟩
    rw [count_one x hx]
    exact k _ s8
theorem mem5 {x : Str} (h : x ∈ raised5) : x ∈ raised7 := by
  simp only [raised5, raised7, List.mem_cons, List.not_mem_nil, or_false] at h ⊢
  rcases h with h | h | h | h | h <;> simp [h]
end
end K79
end

section
set_option linter.all false
set_option maxRecDepth 100000
set_option maxHeartbeats 4000000
/-! K79Y5: the law's word for a refusal. -/
namespace K79
open PySem PySem.Spec PyProof.Rows L2 HotX L2H

section
variable {g : G}
def spRefusal (K : PySem.W.Frag) (p : Addr × Obj) : Sp := fun vs H Q _ => ∃ (x : Str) (d : Option Addr), vs = [.ref p.1] ∧ x ∈ raised5 ∧ Zc (.ref (He.ga K x)) d p.2 ∧ DictOf d H ∧ ∀ H', Same H H' → Q (.str x) H'
abbrev s__law_refusal : Stmt := top 73
theorem sc__law_refusal : FnScope ["_law_e", "_law_kinds", "_law_names", "_law_name", "_law_is_one"] ["_law_e"] (defScope s__law_refusal) := ⟨rfl, rfl, rfl, by decide +kernel, rfl, by decide +kernel, by decide +kernel⟩
theorem in17 : ∀ y ∈ raised5, y ∈ all17 := by decide +kernel
/-- the words kept -/
def five : List Str := ["Held", "NoMachine", "TooFar", "NoGear", "NoDeed"]
theorem keep_one : ∀ x ∈ raised5, ∃ i, i < 5 ∧ five[i]? = some x ∧ ((List.range 5).filter fun j => decide (some x = five[j]?)) = [i] := by
  intro x hx
  simp only [raised5, List.mem_cons, List.not_mem_nil, or_false] at hx
  rcases hx with rfl | rfl | rfl | rfl | rfl
  · exact ⟨0, by decide, rfl, by decide +kernel⟩
  · exact ⟨1, by decide, rfl, by decide +kernel⟩
  · exact ⟨2, by decide, rfl, by decide +kernel⟩
  · exact ⟨3, by decide, rfl, by decide +kernel⟩
  · exact ⟨4, by decide, rfl, by decide +kernel⟩
theorem ok_law_refusal (T : TxB g) (TI : TxI g) (F : Def g "_law_refusal" s__law_refusal ["_law_e"]) (G__law_alone : HasP g 1 "_law_alone" ["_law_e"] (spAlone g.K)) : HasP g 2 "_law_refusal" ["_law_e"] (spRefusal g.K) := by
  refine F.okP sc__law_refusal (fun p vs H Q E h => ?_) (fun f p cdv A outer s H vs Q hot hr h => ?_)
  · obtain ⟨x, d, rfl, _⟩ := h
    rfl
  · obtain ⟨x, d, rfl, hx5, hz, hd, k⟩ := h
    have hx := mem5 hx5
    have hf : ∃ vs, p.2.data = .fields vs := let ⟨_, vs, e, _⟩ := hot; ⟨vs, e⟩
    refine ⟨_, (pss_cons (ps_set (i := 1) sc__law_refusal.nd rfl (Or.inl rfl) (pe_lst (pa_cons (pe_tup (pa_cons pe_str (pa_cons (pe_callB (call_isP (p := p) (d := d) List.mem_cons_self (TI.exc x hx) hz hf) (by rfl) T.isinstance (by decide +kernel) (pa_cons (pv 0) (pa_cons (pe_glob rfl (TI.cls_Held) (v := .ref (He.ga g.K "Held")) rfl) pa_nil))) pa_nil))) (pa_cons (pe_tup (pa_cons pe_str (pa_cons (pe_callB (call_isP (p := p) (d := d) List.mem_cons_self (TI.exc x hx) hz hf) (by rfl) T.isinstance (by decide +kernel) (pa_cons (pv 0) (pa_cons (pe_glob rfl (TI.cls_NoMachine) (v := .ref (He.ga g.K "NoMachine")) rfl) pa_nil))) pa_nil))) (pa_cons (pe_tup (pa_cons pe_str (pa_cons (pe_callB (call_isP (p := p) (d := d) List.mem_cons_self (TI.exc x hx) hz hf) (by rfl) T.isinstance (by decide +kernel) (pa_cons (pv 0) (pa_cons (pe_glob rfl (TI.cls_TooFar) (v := .ref (He.ga g.K "TooFar")) rfl) pa_nil))) pa_nil))) pa_nil)))))
      (pss_cons (ps_set (i := 1) sc__law_refusal.nd rfl (Or.inl rfl) (pe_op op_cat (pv 1) (pe_lst (pa_cons (pe_tup (pa_cons pe_str (pa_cons (pe_callB (call_isP (p := p) (d := d) List.mem_cons_self (TI.exc x hx) hz hf) (by rfl) T.isinstance (by decide +kernel) (pa_cons (pv 0) (pa_cons (pe_glob rfl (TI.cls_NoGear) (v := .ref (He.ga g.K "NoGear")) rfl) pa_nil))) pa_nil))) (pa_cons (pe_tup (pa_cons pe_str (pa_cons (pe_callB (call_isP (p := p) (d := d) List.mem_cons_self (TI.exc x hx) hz hf) (by rfl) T.isinstance (by decide +kernel) (pa_cons (pv 0) (pa_cons (pe_glob rfl (TI.cls_NoDeed) (v := .ref (He.ga g.K "NoDeed")) rfl) pa_nil))) pa_nil))) pa_nil)))))
      (pss_cons (ps_setLcH (i := 2) (own := [("_law_name", 3), ("_law_is_one", 4)]) (gt := gTup g.K 2 (gCons (gName 3) (gCons (gName 4) gNil)))  ⟨p, hot, List.mem_cons_self⟩ sc__law_refusal.nd rfl rfl (sw_true rfl rfl rfl (by decide +kernel)) (pi_listH (pv 1)) (blkOk_by (own := [("_law_name", 3), ("_law_is_one", 4)]) (N := ["_law_e", "_law_kinds", "_law_names", "_law_name", "_law_is_one"]) (sc := defScope s__law_refusal) (by decide +kernel)) (fun _ _ _ _ _ => (pg_tupH ⟨p, hot, List.mem_cons_self⟩ (pgs_cons (pg_name (i := 3) sc__law_refusal.nd rfl (Or.inl rfl)) (pgs_cons (pg_name (i := 4) sc__law_refusal.nd rfl (Or.inl rfl)) pgs_nil)))) (fun _ _ _ _ _ => (pts_one (PW.pt (pw_and (pt_val (pv 4)) (pw_and1 (pt_val (pe_hasP G__law_alone hr (by decide) hot List.mem_cons_self (pa_cons (pv 0) pa_nil)))))))) (fun _ _ _ _ _ => (pv 3)))
      (pss_one (ps_ret (pe_ix (ix_listK (K := g.K)) (pe_op op_cat (pv 2) (pe_lst (pa_cons pe_str pa_nil))) pe_int (fun _ _ => rfl))))))), ?_⟩
    refine ⟨_, rfl, _, _, _, rfl, (fun _ h => h), hd, TI.one x hx "Held" (by decide +kernel), (by show 2 ≤ sizeLine; decide), fun t1 ht1 => ?_⟩
    have s1 := same_new (o := .tup [.str "Held", .bl (decide (x = "Held"))]) ht1
    refine ⟨_, rfl, _, _, _, rfl, (fun _ h => h), hd.same s1, TI.one x hx "NoMachine" (by decide +kernel), (by show 2 ≤ sizeLine; decide), fun t2 ht2 => ?_⟩
    have s2 := s1.trans (same_new (o := .tup [.str "NoMachine", .bl (decide (x = "NoMachine"))]) ht2)
    refine ⟨_, rfl, _, _, _, rfl, (fun _ h => h), hd.same s2, TI.one x hx "TooFar" (by decide +kernel), (by show 2 ≤ sizeLine; decide), fun t3 ht3 => ?_⟩
    have s3 := s2.trans (same_new (o := .tup [.str "TooFar", .bl (decide (x = "TooFar"))]) ht3)
    refine ⟨(by show 3 ≤ sizeLine; decide), fun la hla => ?_⟩
    have s4 := s3.trans (same_new (o := .lst [.ref t1, .ref t2, .ref t3]) hla)
    refine ⟨_, rfl, _, rfl, _, _, _, rfl, (fun _ h => h), hd.same s4, TI.one x hx "NoGear" (by decide +kernel), (by show 2 ≤ sizeLine; decide), fun t4 ht4 => ?_⟩
    have s5 := s4.trans (same_new (o := .tup [.str "NoGear", .bl (decide (x = "NoGear"))]) ht4)
    refine ⟨_, rfl, _, _, _, rfl, (fun _ h => h), hd.same s5, TI.one x hx "NoDeed" (by decide +kernel), (by show 2 ≤ sizeLine; decide), fun t5 ht5 => ?_⟩
    have s6 := s5.trans (same_new (o := .tup [.str "NoDeed", .bl (decide (x = "NoDeed"))]) ht5)
    refine ⟨(by show 2 ≤ sizeLine; decide), fun lb hlb => ?_⟩
    have q7 := same_new (o := .lst [.ref t4, .ref t5]) hlb
    have s7 := s6.trans q7
    have ea := q7 _ _ (same_new ht5 _ _ (same_new ht4 _ _ (upd_same (H := upd (upd (upd H t1 (.tup [.str "Held", .bl (decide (x = "Held"))])) t2 (.tup [.str "NoMachine", .bl (decide (x = "NoMachine"))])) t3 (.tup [.str "TooFar", .bl (decide (x = "TooFar"))])) (a := la) (o := .lst [.ref t1, .ref t2, .ref t3]))))
    refine ⟨la, lb, _, _, rfl, rfl, ea, upd_same, (by show 5 ≤ sizeLine; decide), fun kl hkl => ?_⟩
    have q8 := same_new (o := .lst ([.ref t1, .ref t2, .ref t3] ++ [.ref t4, .ref t5])) hkl
    have s8 := s7.trans q8
    -- the five, one by one
    have u1 := same_new (o := .tup [.str "NoMachine", .bl (decide (x = "NoMachine"))]) ht2
    have u2 := same_new (o := .tup [.str "TooFar", .bl (decide (x = "TooFar"))]) ht3
    have u3 := same_new (o := .lst [.ref t1, .ref t2, .ref t3]) hla
    have u4 := same_new (o := .tup [.str "NoGear", .bl (decide (x = "NoGear"))]) ht4
    have u5 := same_new (o := .tup [.str "NoDeed", .bl (decide (x = "NoDeed"))]) ht5
    have v1 := (u1.trans (u2.trans (u3.trans (u4.trans (u5.trans (q7.trans q8)))))) _ _ (upd_same (H := H) (a := t1) (o := .tup [.str "Held", .bl (decide (x = "Held"))]))
    have v2 := (u2.trans (u3.trans (u4.trans (u5.trans (q7.trans q8))))) t2 _ upd_same
    have v3 := (u3.trans (u4.trans (u5.trans (q7.trans q8)))) t3 _ upd_same
    have v4 := (u5.trans (q7.trans q8)) t4 _ upd_same
    have v5 := (q7.trans q8) t5 _ upd_same
    have hk : upd (upd (upd (upd (upd (upd (upd (upd H t1 (.tup [.str "Held", .bl (decide (x = "Held"))])) t2 (.tup [.str "NoMachine", .bl (decide (x = "NoMachine"))])) t3 (.tup [.str "TooFar", .bl (decide (x = "TooFar"))])) la (.lst [.ref t1, .ref t2, .ref t3])) t4 (.tup [.str "NoGear", .bl (decide (x = "NoGear"))])) t5 (.tup [.str "NoDeed", .bl (decide (x = "NoDeed"))])) lb (.lst [.ref t4, .ref t5])) kl (.lst ([.ref t1, .ref t2, .ref t3] ++ [.ref t4, .ref t5])) kl = some (.lst [.ref t1, .ref t2, .ref t3, .ref t4, .ref t5]) := upd_same
    have hd8 := hd.same s8
    generalize upd (upd (upd (upd (upd (upd (upd (upd H t1 (.tup [.str "Held", .bl (decide (x = "Held"))])) t2 (.tup [.str "NoMachine", .bl (decide (x = "NoMachine"))])) t3 (.tup [.str "TooFar", .bl (decide (x = "TooFar"))])) la (.lst [.ref t1, .ref t2, .ref t3])) t4 (.tup [.str "NoGear", .bl (decide (x = "NoGear"))])) t5 (.tup [.str "NoDeed", .bl (decide (x = "NoDeed"))])) lb (.lst [.ref t4, .ref t5])) kl (.lst ([.ref t1, .ref t2, .ref t3] ++ [.ref t4, .ref t5])) = H8 at s8 v1 v2 v3 v4 v5 hk hd8 ⊢
    have all : ∀ (i : Nat) (v : V), ([V.ref t1, .ref t2, .ref t3, .ref t4, .ref t5] : List V)[i]? = some v → ∃ t y, v = .ref t ∧ five[i]? = some y ∧ H8 t = some (.tup [.str y, .bl (decide (x = y))]) := fun i v hv => by
      match i, hv with
      | 0, hv => cases hv; exact ⟨t1, "Held", rfl, rfl, v1⟩
      | 1, hv => cases hv; exact ⟨t2, "NoMachine", rfl, rfl, v2⟩
      | 2, hv => cases hv; exact ⟨t3, "TooFar", rfl, rfl, v3⟩
      | 3, hv => cases hv; exact ⟨t4, "NoGear", rfl, rfl, v4⟩
      | 4, hv => cases hv; exact ⟨t5, "NoDeed", rfl, rfl, v5⟩
      | i + 5, hv => simp at hv
    clear u1 u2 u3 u4 u5 q7 q8 v1 v2 v3 v4 v5 s1 s2 s3 s4 s5 s6 s7 ea
    refine ⟨_, rfl, _, rfl, ⟨_, SqL.of hk⟩, lc_filt (walk_list (K := g.K) (a := kl) (xs := [.ref t1, .ref t2, .ref t3, .ref t4, .ref t5])) (fun i => decide (some x = five[i]?)) (fun D H y i => ∃ z, five[i]? = some z ∧ y = .str z) (by show 5 ≤ 1000; decide) (fun _ _ _ _ _ _ _ _ h => h) (fun H' s => SqL.of (s _ _ hk)) ?_ ?_⟩
    · rintro D i v H9 H10 Nx hi hD s9 hl ⟨rfl, hv⟩ k1 k0
      obtain ⟨t, y, rfl, hy, ht⟩ := all i v hv
      refine ⟨t, _, rfl, .inl (.inl (s9 _ _ ht)), rfl, _, _, rfl, _, _, rfl, rfl, rfl, ?_⟩
      refine ⟨_, rfl, _, rfl, ?_⟩
      by_cases e : x = y
      · rw [decide_eq_true e]
        refine iteT ⟨_, rfl, x, d, rfl, hx, hz, hd8.same s9, fun H11 s11 => ⟨_, rfl, iteT ⟨_, rfl, k1 _ _ ?_ s11 ⟨y, hy, rfl⟩⟩⟩⟩
        rw [hy, e]
        exact decide_eq_true rfl
      · rw [decide_eq_false e]
        refine iteF (iteF (k0 _ ?_ (Same.refl _)))
        rw [hy]
        exact decide_eq_false fun z => e (by injection z)
    · intro D ys H9 hD s9 hys pd
      obtain ⟨i, hi5, hix, hflt⟩ := keep_one x hx5
      rw [show [V.ref t1, .ref t2, .ref t3, .ref t4, .ref t5].length = 5 from rfl, hflt] at pd
      have ey : ys = [.str x] := by
        cases pd with
        | cons r pd =>
          cases pd
          obtain ⟨z, h1, h2⟩ := r
          rw [hix] at h1
          cases h1
          rw [h2]
      subst ey
      refine ⟨_, rfl, (by show 1 ≤ sizeLine; decide), fun o1 ho1 => ?_⟩
      have s10 := same_new (o := .lst [.str "other"]) ho1
      refine ⟨D, o1, _, _, rfl, rfl, s10 _ _ hys, upd_same, (by show 2 ≤ sizeLine; decide), fun o2 ho2 => ?_⟩
      have s11 := same_new (o := .lst ([.str x] ++ [.str "other"])) ho2
      exact ⟨_, _, _, _, rfl, rfl, SqL.of upd_same, rfl, k _ ((s8.trans s9).trans (s10.trans s11))⟩
end
end K79
end

section
set_option linter.all false
set_option maxRecDepth 100000
set_option maxHeartbeats 4000000
/-! K79Y6: try with several clauses, each with a name. -/
namespace K79
open PySem PySem.Spec PyProof.Rows L2 HotX L2H

/-- a clause: its class, its name's slot, what its suite asks -/
abbrev Clause := Value × Nat × (Addr → Obj → Value → Option Addr → TS)
/-- the clause's name goes when the suite is left -/
def unname (i : Nat) (D : Ends) : Ends := { nx := fun σ H => D.nx (σ.set i none) H, rt := D.rt, bk := fun σ H => D.bk (σ.set i none) H, ct := fun σ H => D.ct (σ.set i none) H }
/-- what the clauses wish of the body's error -/
def wClauses (K : PySem.W.Frag) (W : WX) (D : Ends) : List Clause → WX
  | [] => W
  | (c, i, ts) :: r => fun cls d σ H => ∃ b, PySem.W.exmOne K cls c = some b ∧ (b = true → ∀ (a : Addr) (oe : Obj), H a = none → L2N.Zn cls d oe → (∃ vs, oe.data = .fields vs) → ts a oe cls d (unname i D) (σ.set i (some (.ref a))) H) ∧ (b = false → wClauses K W D r cls d σ H)
inductive ClausesOk (X : Cx) : List ExceptHandler → List Clause → Prop
  | nil : ClausesOk X [] []
  | cons {x n : Str} {i : Nat} {c : Value} {ts : Addr → Obj → Value → Option Addr → TS} {st : Stmt} {sts : List Stmt} {np hp : Pos} {hds : List ExceptHandler} {l : List Clause} (hi : X.N[i]? = some n) (hln : X.env.kindOf n = some .local) (hc : Names X x c)
      (hsu : ∀ (a : Addr) (oe : Obj) (cls : Value) (d : Option Addr) (pn : List (Addr × Obj)), L2N.Zn cls d oe → (∃ vs, oe.data = .fields vs) → PSs (X.suite a ((a, oe) :: pn)) (st :: sts) (ts a oe cls d)) (r : ClausesOk X hds l) :
      ClausesOk X (.ExceptHandler (some (.Name x np)) (some n) (st :: sts) hp :: hds) ((c, i, ts) :: l)
theorem ps_try_named {X : Cx} {body : List Stmt} {h1 : ExceptHandler} {hds : List ExceptHandler} {l : List Clause} {pos : Pos} {tb : WX → TS} {Wout : WX} (hs : X.stack = X.env :: X.outer) (hf : X.env.frame = some X.env.locals) (hN : X.N.Nodup) (tk : L2N.Takes X Wout)
    (hb : ∀ (W : WX) (pn : List (Addr × Obj)) (xe : Value → Shared → Prop), L2N.Takes (X.tr pn xe) W → PassesOwn (model X.prog X.w) X.A X.env xe → PSs (X.tr pn xe) body (tb W)) (hh : ClausesOk X (h1 :: hds) l) :
    PS X (.Try body (h1 :: hds) [] [] pos) (fun D σ H => tb (wClauses X.K Wout D l) D σ H) := by
  constructor; intro pins s σ H D I h
  have ok := I.ok
  have hfr : X.A.frames = some (X.env :: X.outer) := by rw [ok.frames, hs]
  refine wpAny_Try_except (wpAny_mono ((hb (wClauses X.K Wout D l) (X.pn ++ pins) (fun e s₁ => wpAny (model X.prog X.w) X.A (noteFrame e X.env) (fun _ s₂ => wpAny (model X.prog X.w) X.A (setFlight e none) (fun _ s₃ =>
    wpAny (model X.prog X.w) X.A (handleBy e X.env (h1 :: hds)) (SP X pins D) X.xe s₃) X.xe s₂) X.xe s₁) (fun u sx xx => ?_) PassesOwn.looking).run [] s σ H D (I.toTry _) h) (fun f s1 hsp => ?_) fun e s1 he => he)
  · obtain ⟨a, B, sI, pins2, σ2, H2, cls, d, rfl, J2, nb, up, sky, na, os, ag, w⟩ := xx
    have J : Inv X pins σ2 H2 sI := J2.ofTry ok
    have sky2 : Sky B (X.env :: X.outer) a (L2N.Zn cls d) X.env.locals sx.heap := by rw [← hs]; exact sky
    show wpAny (model X.prog X.w) X.A (noteFrame (.ref a) X.env) _ _ _; refine L2N.Sky.land L2N.Zn.steady hfr hf sky2 fun h3 fl3 up3 => ?_
    have J3 : Inv X pins σ2 H2 { sx with heap := h3 } := J.landed nb fl3.1 (up.trans up3) os ag
    obtain ⟨oe3, vs3, he3, hz3, hd3⟩ := fl3.there
    have nfr : a ∉ frs (X.env :: X.outer) := fun hm => by
      obtain ⟨_, o2, e2, hnf⟩ := fl3.2.2.1.mem hm
      rw [he3] at e2; cases e2; exact hnf _ hd3
    have nL : a ≠ X.env.locals := fun z => nfr (List.mem_filterMap.mpr ⟨X.env, List.mem_cons_self, by rw [hf, z]⟩)
    have nF : a ∉ X.fs := fun hm => let ⟨e, he, q⟩ := List.mem_filterMap.mp hm; nfr (List.mem_filterMap.mpr ⟨e, List.mem_cons_of_mem _ he, q⟩)
    have S3 := J3.suite he3 hd3 na nL nF
    suffices go : ∀ {hs2 : List ExceptHandler} {l2 : List Clause}, ClausesOk X hs2 l2 → wClauses X.K Wout D l2 cls d σ2 H2 → wpAny (model X.prog X.w) X.A (handleBy (.ref a) X.env hs2) (SP X pins D) X.xe { sx with heap := h3 } from go hh w
    intro hs2 l2 hk
    induction hk with
    | nil =>
      intro w2; refine wpAny_handleBy_nil ?_
      obtain ⟨k1, k2, k3, oe, vs, T, oT, ts, he, hz, hd, h1v, hr⟩ := id fl3
      unfold PySem.passOn; refine wpAny_bind (wpAny_field he hd h1v ?_); rw [if_neg (show ¬ ((Value.ref T == Value.none) = true) from by simp)]
      have fin : wpAny (model X.prog X.w) X.A (setFlight (.ref a) X.env.frame) (fun _ s4 => wpAny (model X.prog X.w) X.A (throw (.ref a) : Sem Flow) (SP X pins D) X.xe s4) X.xe { sx with heap := h3 } := by
        rw [hf]; exact HandSPX.setFlight_upZ fl3 fun h4 hh4 up4 => wpAny_throw (tk _ _ ⟨a, B, sI, pins, σ2, H2, cls, d, rfl, J, nb, (up.trans up3).trans up4, .inr (.inr (by rw [hs]; exact hh4)), na, os, ag, w2⟩)
      first
        | exact wpAny_bind (wpAny_pure (wpAny_bind fin))
        | exact wpAny_bind fin
    | @cons x n i c ts st sts np hp hds2 l3 hi hln hc hsu r ih =>
      rintro ⟨b, hb1, hyes, hno⟩
      refine wpAny_handleBy_cons (codeAny_handlers_test ?_) (by intro q; cases q)
      have LT : PySem.W.Looks (model X.prog X.w) h3 (typeOf (.ref a)) cls := fun A Q E s k q => wpAny_typeOf_ref (k _ _ he3) (by rw [hz3.1]; exact q)
      have LM := PySem.W.exm_one (M := model X.prog X.w) J3.kIn LT hb1
      have test : ∀ {Q : Value → Shared → Prop} {E : Value → Shared → Prop}, Q c { sx with heap := h3 } → wpAny (model X.prog X.w) (X.A.mark (some (.ref a))) (eval (.Name x np) X.env) Q E { sx with heap := h3 } := fun {Q E} q => by
        obtain ⟨hg, hdb, hm | ⟨hm, hv, hnn⟩⟩ := hc
        · exact ld_glob (X := X.suite a ((a, oe3) :: (X.pn ++ pins))) S3 hg hm q hdb
        · exact ld_blt (X := X.suite a ((a, oe3) :: (X.pn ++ pins))) S3 hg hm hv q hnn hdb
      refine test (LM.here ?_)
      cases b with
      | false => show wpAny _ X.A (handleBy (.ref a) X.env hds2) _ _ _; exact ih (hno rfl)
      | true =>
        refine codeAny_handlers_suite_as (HandSPX.lands_againZ fl3 fun h4 fl4 up4 => ?_)
        have J4 : Inv X pins σ2 H2 { sx with heap := h4 } := J.landed nb fl4.1 ((up.trans up3).trans up4) os ag
        obtain ⟨oe4, vs4, he4, hz4, hd4⟩ := fl4.there
        have S4 := J4.suite he4 hd4 na nL nF
        refine store_ok (X := X.suite a ((a, oe4) :: (X.pn ++ pins))) (v := .ref a) S4 hN hi (.inl hln) rfl (fun s5 S5 => ?_) (.inr hln)
        refine wpAny_mono ((hsu a oe4 cls d (X.pn ++ pins) hz4 ⟨_, hd4⟩).run [] s5 _ H2 _ S5 (hyes rfl a oe4 na hz4 ⟨_, hd4⟩)) (fun f s6 hsp => ?_) fun _ _ z => z.elim
        have close : ∀ {σ6 : L2.St} {H6 : Hp} {Q : Shared → Prop}, Inv (X.suite a ((a, oe4) :: (X.pn ++ pins))) [] σ6 H6 s6 → (∀ s7, Inv X pins (σ6.set i none) H6 s7 → Q s7) → wpAny (model X.prog X.w) X.A (do bindName X.env n .none; unbindBehindTheSuite X.env n hp) (fun _ s7 => Q s7) X.xe s6 :=
          fun {σ6 H6 Q} S6 hq => gone_ok (S6.unsuite ok) hN hi hln hq
        cases f with
        | next => obtain ⟨σ6, H6, S6, q6⟩ := hsp; exact close S6 fun s7 J7 => ⟨_, _, J7, q6⟩
        | brk => obtain ⟨σ6, H6, S6, q6⟩ := hsp; exact close S6 fun s7 J7 => ⟨_, _, J7, q6⟩
        | cont => obtain ⟨σ6, H6, S6, q6⟩ := hsp; exact close S6 fun s7 J7 => ⟨_, _, J7, q6⟩
        | ret u => obtain ⟨v6, σ6, H6, S6, r6, q6⟩ := hsp; exact close S6 fun s7 J7 => ⟨_, _, _, J7, r6, q6⟩
  · cases f with
    | next => obtain ⟨σ2, H2, J2, q⟩ := hsp; exact wpAny_execs_nil ⟨σ2, H2, J2.ofTry ok, q⟩
    | brk => obtain ⟨σ2, H2, J2, q⟩ := hsp; exact ⟨σ2, H2, J2.ofTry ok, q⟩
    | cont => obtain ⟨σ2, H2, J2, q⟩ := hsp; exact ⟨σ2, H2, J2.ofTry ok, q⟩
    | ret u => obtain ⟨v, σ2, H2, J2, r, q⟩ := hsp; exact ⟨v, σ2, H2, J2.ofTry ok, r, q⟩
theorem takes_noneN {X : Cx} : L2N.Takes X (fun _ _ _ _ => False) := fun _ _ ⟨_, _, _, _, _, _, _, _, _, _, _, _, _, _, _, _, w⟩ => w.elim
theorem passAtN {X : Cx} {W : WX} (tk : L2N.Takes X W) (σ : L2.St) : PassesAt (L2N.CX X.prog X.w) X σ (WE W σ) := fun _ _ _ e s2 I c => tk e s2 (L2N.XE.of_call I (fun _ _ _ h => h) c)
theorem pe_hasS {X : Cx} {j k : Nat} {ps : List Str} {sp : Sp} {W : WX} {x : Str} {p pos : Pos} {e : Expr} {es : List Expr} {t : TA} (h : Has (Cx.g X) (L2N.CX X.prog X.w) k x ps sp) (hr : Room j X.A) (hk : k ≤ j) (tk : L2N.Takes X W) (ha : PA X (e :: es) t) (hg : Gl X x := by rfl) (hdb : (x == ("__debug__" : Str)) = false := by decide)
    (he : starEach (e :: es) X.env = (false, eval e X.env) :: starEach es X.env := by rfl) (hpl : (backTo pos (starEach es X.env)).any (·.1) = false := by rfl) : PE X (.Call (.Name x p) (e :: es) [] pos) (tCallS sp (WE W) t) := by
  obtain ⟨f, fd, F, hm, hkp, hb⟩ := h
  exact pe_callS F (hr.mono hk) hg hm hkp hb (fun σ => passAtN tk σ) ha hdb he hpl
end K79
end

section
set_option linter.all false
set_option maxRecDepth 100000
set_option maxHeartbeats 4000000
/-! K79Y7: a deed said, and what came of it. -/
namespace K79
open PySem PySem.Spec PyProof.Rows L2 HotX L2H

inductive Deed where
  | click (q : Rat)
  | out (k : Nat)
  | into (k : Nat)
  | put (k : Nat) (q : Rat)
  | wire (k : Nat) (r : Row)
  | gear (k : Nat) (q : Rat)
  | ends (k : Nat) (l : Option Rat × Option Rat)
  | undo
def Deed.run (b : B) : Deed → Res
  | .click q => b.click q
  | .out k => b.out k
  | .into k => b.into k
  | .put k q => b.put k q
  | .wire k r => b.wire k r
  | .gear k q => b.gear k q
  | .ends k l => b.ends k l
  | .undo => .no "NoDeed"
/-- a deed as the law may ask for -/
def Deed.Ok (b : B) : Deed → Prop
  | .click q => Sz 20 q
  | .out k => k < b.rows.length
  | .into k => k < b.rows.length
  | .put k q => k < b.rows.length ∧ Sz 200 q
  | .wire k r => k < b.rows.length ∧ r.In b.rows.length ∧ r.small 200 4
  | .gear k q => k < b.rows.length ∧ Sz 4 q
  | .ends k l => k < b.rows.length ∧ ∀ q, (l.1 = some q ∨ l.2 = some q) → Sz 200 q
  | .undo => b.past = 0
/-- the deed as the law writes it -/
inductive DeedAt (K : PySem.W.Frag) (H : Hp) (a : Addr) : Deed → Prop
  | click {w : V} {q : Rat} (t : SqT K H a [.str "click", w]) (h : Nm K H w q) : DeedAt K H a (.click q)
  | out {k : Nat} (t : SqT K H a [.str "out", .int k]) : DeedAt K H a (.out k)
  | into {k : Nat} (t : SqT K H a [.str "into", .int k]) : DeedAt K H a (.into k)
  | put {k : Nat} {w : V} {q : Rat} (t : SqT K H a [.str "put", .int k, w]) (h : Nm K H w q) : DeedAt K H a (.put k q)
  | wire {k : Nat} {w : V} {r : Row} (t : SqT K H a [.str "wire", .int k, w]) (h : Rw K H w r) : DeedAt K H a (.wire k r)
  | gear {k : Nat} {w : V} {q : Rat} (t : SqT K H a [.str "gear", .int k, w]) (h : Nm K H w q) : DeedAt K H a (.gear k q)
  | ends {k : Nat} {x y : V} {l : Option Rat × Option Rat} (t : SqT K H a [.str "ends", .int k, x, y]) (h1 : On K H x l.1) (h2 : On K H y l.2) : DeedAt K H a (.ends k l)
  | undo (t : SqT K H a [.str "undo"]) : DeedAt K H a .undo
def after (b : B) : Res → B
  | .ok _ b' => b'
  | _ => b
theorem Deed.wf {b b' : B} {e : Deed} {ms : Option (List Rat)} (h : WF b) (ho : e.Ok b) (hr : e.run b = .ok ms b') : WF b' := by
  cases e with
  | click q => exact h.click hr
  | out k => exact h.out hr
  | into k => exact h.into hr
  | put k q => exact h.put ho.2 hr
  | wire k r => exact h.wire ho.2.1 ho.2.2 hr
  | gear k q => exact h.gear ho.2 hr
  | ends k l => exact h.ends ho.2 hr
  | undo => cases hr
theorem Deed.past {b b' : B} {e : Deed} {ms : Option (List Rat)} (hr : e.run b = .ok ms b') : b'.past = b.past + 1 ∧ b'.rows.length = b.rows.length := by
  cases e with
  | click q => simp only [Deed.run, B.click] at hr; split at hr <;> (try split at hr) <;> cases hr <;> exact ⟨rfl, rfl⟩
  | out k => simp only [Deed.run, B.out] at hr; split at hr <;> cases hr <;> exact ⟨rfl, rfl⟩
  | into k => simp only [Deed.run, B.into] at hr; split at hr <;> cases hr <;> exact ⟨rfl, rfl⟩
  | put k q => simp only [Deed.run, B.put] at hr; split at hr <;> (try split at hr) <;> cases hr <;> exact ⟨rfl, rfl⟩
  | wire k r => simp only [Deed.run, B.wire] at hr; split at hr <;> (try split at hr) <;> (try split at hr) <;> cases hr <;> exact ⟨rfl, List.length_set⟩
  | gear k q => simp only [Deed.run, B.gear] at hr; split at hr <;> cases hr <;> exact ⟨rfl, List.length_set⟩
  | ends k l => simp only [Deed.run, B.ends] at hr; split at hr <;> cases hr <;> exact ⟨rfl, rfl⟩
  | undo => cases hr
theorem Deed.no {b : B} {e : Deed} {x : String} (hr : e.run b = .no x) : (x : Str) ∈ raised5 := by
  have h1 : ("TooFar" : Str) ∈ raised5 := by decide +kernel
  have h2 : ("Held" : Str) ∈ raised5 := by decide +kernel
  have h3 : ("NoMachine" : Str) ∈ raised5 := by decide +kernel
  have h4 : ("NoGear" : Str) ∈ raised5 := by decide +kernel
  have h5 : ("NoDeed" : Str) ∈ raised5 := by decide +kernel
  cases e with
  | click q => simp only [Deed.run, B.click] at hr; split at hr <;> (try split at hr) <;> cases hr <;> assumption
  | out k => simp only [Deed.run, B.out] at hr; split at hr <;> cases hr <;> assumption
  | into k => simp only [Deed.run, B.into] at hr; split at hr <;> cases hr <;> assumption
  | put k q => simp only [Deed.run, B.put] at hr; split at hr <;> (try split at hr) <;> cases hr <;> assumption
  | wire k r => simp only [Deed.run, B.wire] at hr; split at hr <;> (try split at hr) <;> (try split at hr) <;> cases hr <;> assumption
  | gear k q => simp only [Deed.run, B.gear] at hr; split at hr <;> cases hr <;> assumption
  | ends k l => simp only [Deed.run, B.ends] at hr; split at hr <;> cases hr <;> assumption
  | undo => cases hr; assumption
section
variable {g : G}
def spSaid (K : PySem.W.Frag) : Sp := fun vs H Q E => ∃ (a : Ad) (b : B) (t : Addr) (e : Deed), vs = [.ref a.p, .ref t] ∧ BenchAt K H a b ∧ WF b ∧ b.past ≤ 20 ∧ DeedAt K H t e ∧ e.Ok b ∧ Outcome K H a (e.run b) Q E
abbrev s__law_said : Stmt := top 74
theorem sc__law_said : FnScope ["_law_bench", "_law_deed"] ["_law_bench", "_law_deed"] (defScope s__law_said) := ⟨rfl, rfl, rfl, by decide +kernel, rfl, by decide +kernel, by decide +kernel⟩
theorem ok_law_said (T : TxB g) (F : Def g "_law_said" s__law_said ["_law_bench", "_law_deed"]) (G_Bench_click : HasM g (CXN g) 6 (BC g) "click" ["self", "number"] (spClick g.K)) (G_Bench_out : HasM g (CXN g) 2 (BC g) "out" ["self", "shaft"] (spOut g.K B.out)) (G_Bench_into : HasM g (CXN g) 2 (BC g) "into" ["self", "shaft"] (spOut g.K B.into))
    (G_Bench_put : HasM g (CXN g) 3 (BC g) "put" ["self", "shaft", "number"] (spPut g.K)) (G_Bench_wire : HasM g (CXN g) 6 (BC g) "wire" ["self", "shaft", "thing"] (spWire g.K)) (G_Bench_gear : HasM g (CXN g) 2 (BC g) "gear" ["self", "shaft", "ratio"] (spGear g.K))
    (G_Bench_ends : HasM g (CXN g) 3 (BC g) "ends" ["self", "shaft", "least", "greatest"] (spEnds g.K)) (G_Bench_undo : HasM g (CXN g) 1 (BC g) "undo" ["self"] (spUndo g.K)) : Has g (CXN g) 7 "_law_said" ["_law_bench", "_law_deed"] (spSaid g.K) := by
  refine F.okX sc__law_said (fun vs H Q E h => ?_) (fun f cdv A outer s H vs Q E hr h => ?_)
  · obtain ⟨a, b, t, e, rfl, _⟩ := h
    rfl
  · obtain ⟨a, b, t, e, rfl, hb, wf, hp, he, ho, k⟩ := h
    have k := k.before (E := E) (Q := Q) hb (Same.refl _)
    refine ⟨_, (pss_cons (ps_if (pt_cmpR op_eq (pe_ix (ix_tupK (K := g.K)) (pv 1) pe_int (fun _ _ => rfl)) pe_str (nomark _)) (pss_one (ps_ret (pe_hasM G_Bench_click (pv 0) T.bench hr (by decide) (L2N.passes_call (E := E) (L2N.takes_of rfl rfl rfl rfl) (fun _ _ _ _ h => h)) (pa_cons (pe_ix (ix_tupK (K := g.K)) (pv 1) pe_int (fun _ _ => rfl)) pa_nil)))) pss_nil)
      (pss_cons (ps_if (pt_cmpR op_eq (pe_ix (ix_tupK (K := g.K)) (pv 1) pe_int (fun _ _ => rfl)) pe_str (nomark _)) (pss_one (ps_ret (pe_hasM G_Bench_out (pv 0) T.bench hr (by decide) (L2N.passes_call (E := E) (L2N.takes_of rfl rfl rfl rfl) (fun _ _ _ _ h => h)) (pa_cons (pe_ix (ix_tupK (K := g.K)) (pv 1) pe_int (fun _ _ => rfl)) pa_nil)))) pss_nil)
      (pss_cons (ps_if (pt_cmpR op_eq (pe_ix (ix_tupK (K := g.K)) (pv 1) pe_int (fun _ _ => rfl)) pe_str (nomark _)) (pss_one (ps_ret (pe_hasM G_Bench_into (pv 0) T.bench hr (by decide) (L2N.passes_call (E := E) (L2N.takes_of rfl rfl rfl rfl) (fun _ _ _ _ h => h)) (pa_cons (pe_ix (ix_tupK (K := g.K)) (pv 1) pe_int (fun _ _ => rfl)) pa_nil)))) pss_nil)
      (pss_cons (ps_if (pt_cmpR op_eq (pe_ix (ix_tupK (K := g.K)) (pv 1) pe_int (fun _ _ => rfl)) pe_str (nomark _)) (pss_one (ps_ret (pe_hasM G_Bench_put (pv 0) T.bench hr (by decide) (L2N.passes_call (E := E) (L2N.takes_of rfl rfl rfl rfl) (fun _ _ _ _ h => h)) (pa_cons (pe_ix (ix_tupK (K := g.K)) (pv 1) pe_int (fun _ _ => rfl)) (pa_cons (pe_ix (ix_tupK (K := g.K)) (pv 1) pe_int (fun _ _ => rfl)) pa_nil))))) pss_nil)
      (pss_cons (ps_if (pt_cmpR op_eq (pe_ix (ix_tupK (K := g.K)) (pv 1) pe_int (fun _ _ => rfl)) pe_str (nomark _)) (pss_one (ps_ret (pe_hasM G_Bench_wire (pv 0) T.bench hr (by decide) (L2N.passes_call (E := E) (L2N.takes_of rfl rfl rfl rfl) (fun _ _ _ _ h => h)) (pa_cons (pe_ix (ix_tupK (K := g.K)) (pv 1) pe_int (fun _ _ => rfl)) (pa_cons (pe_ix (ix_tupK (K := g.K)) (pv 1) pe_int (fun _ _ => rfl)) pa_nil))))) pss_nil)
      (pss_cons (ps_if (pt_cmpR op_eq (pe_ix (ix_tupK (K := g.K)) (pv 1) pe_int (fun _ _ => rfl)) pe_str (nomark _)) (pss_one (ps_ret (pe_hasM G_Bench_gear (pv 0) T.bench hr (by decide) (L2N.passes_call (E := E) (L2N.takes_of rfl rfl rfl rfl) (fun _ _ _ _ h => h)) (pa_cons (pe_ix (ix_tupK (K := g.K)) (pv 1) pe_int (fun _ _ => rfl)) (pa_cons (pe_ix (ix_tupK (K := g.K)) (pv 1) pe_int (fun _ _ => rfl)) pa_nil))))) pss_nil)
      (pss_cons (ps_if (pt_cmpR op_eq (pe_ix (ix_tupK (K := g.K)) (pv 1) pe_int (fun _ _ => rfl)) pe_str (nomark _)) (pss_one (ps_ret (pe_hasM G_Bench_ends (pv 0) T.bench hr (by decide) (L2N.passes_call (E := E) (L2N.takes_of rfl rfl rfl rfl) (fun _ _ _ _ h => h)) (pa_cons (pe_ix (ix_tupK (K := g.K)) (pv 1) pe_int (fun _ _ => rfl)) (pa_cons (pe_ix (ix_tupK (K := g.K)) (pv 1) pe_int (fun _ _ => rfl)) (pa_cons (pe_ix (ix_tupK (K := g.K)) (pv 1) pe_int (fun _ _ => rfl)) pa_nil)))))) pss_nil)
      (pss_one (ps_ret (pe_hasM0 G_Bench_undo (pv 0) T.bench hr (by decide) (L2N.passes_call (E := E) (L2N.takes_of rfl rfl rfl rfl) (fun _ _ _ _ h => h)))))))))))), ?_⟩
    cases he with
    | click t1 hw =>
      refine ⟨_, rfl, _, _, _, _, rfl, rfl, t1, rfl, rfl, _, rfl, iteT ?_⟩
      exact ⟨_, rfl, _, _, _, rfl, hb.ob, rfl, _, rfl, _, _, _, _, rfl, rfl, t1, rfl, a, b, _, _, rfl, hb, wf, hp, hw, ho, k⟩
    | out t1 =>
      refine ⟨_, rfl, _, _, _, _, rfl, rfl, t1, rfl, rfl, _, rfl, iteF ?_⟩
      refine ⟨_, rfl, _, _, _, _, rfl, rfl, t1, rfl, rfl, _, rfl, iteT ?_⟩
      exact ⟨_, rfl, _, _, _, rfl, hb.ob, rfl, _, rfl, _, _, _, _, rfl, rfl, t1, rfl, a, b, _, rfl, hb, by rw [wf.lo]; exact ho, by omega, k⟩
    | into t1 =>
      refine ⟨_, rfl, _, _, _, _, rfl, rfl, t1, rfl, rfl, _, rfl, iteF ?_⟩
      refine ⟨_, rfl, _, _, _, _, rfl, rfl, t1, rfl, rfl, _, rfl, iteF ?_⟩
      refine ⟨_, rfl, _, _, _, _, rfl, rfl, t1, rfl, rfl, _, rfl, iteT ?_⟩
      exact ⟨_, rfl, _, _, _, rfl, hb.ob, rfl, _, rfl, _, _, _, _, rfl, rfl, t1, rfl, a, b, _, rfl, hb, by rw [wf.lo]; exact ho, by omega, k⟩
    | put t1 hw =>
      refine ⟨_, rfl, _, _, _, _, rfl, rfl, t1, rfl, rfl, _, rfl, iteF ?_⟩
      refine ⟨_, rfl, _, _, _, _, rfl, rfl, t1, rfl, rfl, _, rfl, iteF ?_⟩
      refine ⟨_, rfl, _, _, _, _, rfl, rfl, t1, rfl, rfl, _, rfl, iteF ?_⟩
      refine ⟨_, rfl, _, _, _, _, rfl, rfl, t1, rfl, rfl, _, rfl, iteT ?_⟩
      exact ⟨_, rfl, _, _, _, rfl, hb.ob, rfl, _, rfl, _, _, _, _, rfl, rfl, t1, rfl, _, rfl, _, _, _, _, rfl, rfl, t1, rfl, a, b, _, _, _, rfl, hb, wf, ho.1, by omega, hw, ho.2, k⟩
    | wire t1 hw =>
      refine ⟨_, rfl, _, _, _, _, rfl, rfl, t1, rfl, rfl, _, rfl, iteF ?_⟩
      refine ⟨_, rfl, _, _, _, _, rfl, rfl, t1, rfl, rfl, _, rfl, iteF ?_⟩
      refine ⟨_, rfl, _, _, _, _, rfl, rfl, t1, rfl, rfl, _, rfl, iteF ?_⟩
      refine ⟨_, rfl, _, _, _, _, rfl, rfl, t1, rfl, rfl, _, rfl, iteF ?_⟩
      refine ⟨_, rfl, _, _, _, _, rfl, rfl, t1, rfl, rfl, _, rfl, iteT ?_⟩
      exact ⟨_, rfl, _, _, _, rfl, hb.ob, rfl, _, rfl, _, _, _, _, rfl, rfl, t1, rfl, _, rfl, _, _, _, _, rfl, rfl, t1, rfl, a, b, _, _, _, rfl, hb, wf, ho.1, by omega, hw, ho.2.1, k⟩
    | gear t1 hw =>
      refine ⟨_, rfl, _, _, _, _, rfl, rfl, t1, rfl, rfl, _, rfl, iteF ?_⟩
      refine ⟨_, rfl, _, _, _, _, rfl, rfl, t1, rfl, rfl, _, rfl, iteF ?_⟩
      refine ⟨_, rfl, _, _, _, _, rfl, rfl, t1, rfl, rfl, _, rfl, iteF ?_⟩
      refine ⟨_, rfl, _, _, _, _, rfl, rfl, t1, rfl, rfl, _, rfl, iteF ?_⟩
      refine ⟨_, rfl, _, _, _, _, rfl, rfl, t1, rfl, rfl, _, rfl, iteF ?_⟩
      refine ⟨_, rfl, _, _, _, _, rfl, rfl, t1, rfl, rfl, _, rfl, iteT ?_⟩
      exact ⟨_, rfl, _, _, _, rfl, hb.ob, rfl, _, rfl, _, _, _, _, rfl, rfl, t1, rfl, _, rfl, _, _, _, _, rfl, rfl, t1, rfl, a, b, _, _, _, rfl, hb, ho.1, by omega, hw, k⟩
    | ends t1 h1 h2 =>
      refine ⟨_, rfl, _, _, _, _, rfl, rfl, t1, rfl, rfl, _, rfl, iteF ?_⟩
      refine ⟨_, rfl, _, _, _, _, rfl, rfl, t1, rfl, rfl, _, rfl, iteF ?_⟩
      refine ⟨_, rfl, _, _, _, _, rfl, rfl, t1, rfl, rfl, _, rfl, iteF ?_⟩
      refine ⟨_, rfl, _, _, _, _, rfl, rfl, t1, rfl, rfl, _, rfl, iteF ?_⟩
      refine ⟨_, rfl, _, _, _, _, rfl, rfl, t1, rfl, rfl, _, rfl, iteF ?_⟩
      refine ⟨_, rfl, _, _, _, _, rfl, rfl, t1, rfl, rfl, _, rfl, iteF ?_⟩
      refine ⟨_, rfl, _, _, _, _, rfl, rfl, t1, rfl, rfl, _, rfl, iteT ?_⟩
      exact ⟨_, rfl, _, _, _, rfl, hb.ob, rfl, _, rfl, _, _, _, _, rfl, rfl, t1, rfl, _, rfl, _, _, _, _, rfl, rfl, t1, rfl, _, rfl, _, _, _, _, rfl, rfl, t1, rfl, a, b, _, _, _, _, rfl, hb, wf, ho.1, by omega, h1, h2, ho.2, k⟩
    | undo t1 =>
      refine ⟨_, rfl, _, _, _, _, rfl, rfl, t1, rfl, rfl, _, rfl, iteF ?_⟩
      refine ⟨_, rfl, _, _, _, _, rfl, rfl, t1, rfl, rfl, _, rfl, iteF ?_⟩
      refine ⟨_, rfl, _, _, _, _, rfl, rfl, t1, rfl, rfl, _, rfl, iteF ?_⟩
      refine ⟨_, rfl, _, _, _, _, rfl, rfl, t1, rfl, rfl, _, rfl, iteF ?_⟩
      refine ⟨_, rfl, _, _, _, _, rfl, rfl, t1, rfl, rfl, _, rfl, iteF ?_⟩
      refine ⟨_, rfl, _, _, _, _, rfl, rfl, t1, rfl, rfl, _, rfl, iteF ?_⟩
      refine ⟨_, rfl, _, _, _, _, rfl, rfl, t1, rfl, rfl, _, rfl, iteF ?_⟩
      exact ⟨_, rfl, _, _, _, rfl, hb.ob, rfl, a, b, rfl, hb, ho, k⟩

end
end K79
end

section
set_option linter.all false
set_option maxRecDepth 100000
set_option maxHeartbeats 4000000
/-! K79Y8: what came of a deed. -/
namespace K79
open PySem PySem.Spec PyProof.Rows L2 HotX L2H

/-- what the written part says of the own errors, to an except clause -/
structure TxS (g : G) : Prop where
  s : ∀ x ∈ raised7, PySem.W.exmOne g.K (.ref (He.ga g.K x)) (.ref (He.ga g.K "Stopped")) = some (decide (x = "Stopped"))
  r : ∀ x ∈ raised7, PySem.W.exmOne g.K (.ref (He.ga g.K x)) (.ref (He.ga g.K "Ring")) = some (decide (x = "Ring"))
  e : ∀ x ∈ raised7, PySem.W.exmOne g.K (.ref (He.ga g.K x)) (.ref (He.ga g.K "RollError")) = some true
theorem xf_of {K : PySem.W.Frag} {C : Addr} (h : ExcC K C) : XfC K C := ⟨h.hg, h.hk, h.hs, h.hd⟩
theorem room_mark {X : Cx} {k : Nat} {a : Addr} {pn : List (Addr × Obj)} (h : Room k X.A) : RoomH k (X.suite a pn).A := ⟨(roomH_of h).dp, (roomH_of h).un⟩
theorem hot_mark {X : Cx} {a : Addr} {oe : Obj} {cls : Value} {d : Option Addr} {pn : List (Addr × Obj)} (hz : L2N.Zn cls d oe) (hf : ∃ vs, oe.data = .fields vs) : Hot1 (X.suite a ((a, oe) :: pn)).A (a, oe) := let ⟨vs, e⟩ := hf; ⟨rfl, vs, e, hz.2.2 vs e⟩
/-- what is told of a deed -/
def ResD : Res → PyData → Prop
  | .ok none _, D => D = .tuple [.str "told", .none]
  | .ok (some ms) _, D => D = .tuple [.str "told", .list (ms.map nmD)]
  | .stopped k, D => D = .tuple [.str "Stopped", .int (k : Int)]
  | .ring, D => ∃ ys : List Int, D = .tuple [.str "Ring", .list (ys.map PyData.int)]
  | .no x, D => D = .tuple [.str x]
section
variable {g : G}
def spGot (K : PySem.W.Frag) : Sp := fun vs H Q _ => ∃ (a : Ad) (b : B) (t : Addr) (e : Deed), vs = [.ref a.p, .ref t] ∧ BenchAt K H a b ∧ WF b ∧ b.past ≤ 20 ∧ DeedAt K H t e ∧ e.Ok b ∧
  ∀ a' H' v D, Moved K H a H' a' (after b (e.run b)) → Dp K H' v D → ResD (e.run b) D → Q v H'
abbrev s__law_got : Stmt := top 75
theorem sc__law_got : FnScope ["_law_bench", "_law_deed", "_law_told", "_law_e", "far", "_law_one"] ["_law_bench", "_law_deed"] (defScope s__law_got) := ⟨rfl, rfl, rfl, by decide +kernel, rfl, by decide +kernel, by decide +kernel⟩
theorem ok_law_got (T : TxB g) (TI : TxI g) (TS : TxS g) (X_Stopped : ExI g "Stopped" "shaft") (X_Ring : ExI g "Ring" "ring") (F : Def g "_law_got" s__law_got ["_law_bench", "_law_deed"]) (G__law_said : Has g (CXN g) 7 "_law_said" ["_law_bench", "_law_deed"] (spSaid g.K))
    (G__law_alone : HasP g 1 "_law_alone" ["_law_e"] (spAlone g.K)) (G__law_refusal : HasP g 2 "_law_refusal" ["_law_e"] (spRefusal g.K)) : Has g CX0 8 "_law_got" ["_law_bench", "_law_deed"] (spGot g.K) := by
  refine F.ok sc__law_got (fun vs H Q E h => ?_) (fun f cdv A outer s H vs Q E hr h => ?_)
  · obtain ⟨a, b, t, e, rfl, _⟩ := h
    rfl
  · obtain ⟨a, b, t, e, rfl, hb, wf, hp, he, ho, k⟩ := h
    have r7S : ("Stopped" : Str) ∈ raised7 := by decide +kernel
    have r7R : ("Ring" : Str) ∈ raised7 := by decide +kernel
    refine ⟨_, pss_cons (ps_try_named rfl rfl sc__law_got.nd takes_noneN (fun W pn xe tk po => pss_one (ps_set (i := 2) sc__law_got.nd rfl (Or.inl rfl) (pe_hasS G__law_said hr (by decide) tk (pa_cons (pv 0) (pa_cons (pv 1) pa_nil)))))
      (.cons (i := 3) rfl rfl ⟨rfl, by decide, .inl TI.cls_Stopped⟩ (fun a oe cls d pn hz hf => pss_one (ps_ret (pe_ifExp (pt_val (pe_hasP G__law_alone (room_mark hr) (by decide) (hot_mark hz hf) List.mem_cons_self (pa_cons (pv 3) pa_nil)))
          (pe_tup (pa_cons pe_str (pa_cons (pe_xf (xf_of (TI.exc "Stopped" r7S)) X_Stopped.noat hz.zc hf (pv 3)) pa_nil))) (pe_tup (pa_cons pe_str pa_nil)))))
      (.cons (i := 4) rfl rfl ⟨rfl, by decide, .inl TI.cls_Ring⟩ (fun a oe cls d pn hz hf => pss_one (ps_ret (pe_ifExp (pt_val (pe_hasP G__law_alone (room_mark hr) (by decide) (hot_mark hz hf) List.mem_cons_self (pa_cons (pv 4) pa_nil)))
          (pe_tup (pa_cons pe_str (pa_cons (pe_xf (xf_of (TI.exc "Ring" r7R)) X_Ring.noat hz.zc hf (pv 4)) pa_nil))) (pe_tup (pa_cons pe_str pa_nil)))))
      (.cons (i := 5) rfl rfl ⟨rfl, by decide, .inl TI.cls_RollError⟩ (fun a oe cls d pn hz hf => pss_one (ps_ret (pe_tup (pa_cons (pe_hasP G__law_refusal (room_mark hr) (by decide) (hot_mark hz hf) List.mem_cons_self (pa_cons (pv 5) pa_nil)) pa_nil)))) .nil))))
      (pss_one (ps_ret (pe_tup (pa_cons pe_str (pa_cons (pv 2) pa_nil))))), ?_⟩
    refine ⟨_, rfl, _, rfl, a, b, t, e, rfl, hb, wf, hp, he, ho, ?_⟩
    generalize hR : e.run b = R at k
    unfold Outcome
    cases R with
    | ok ms b' =>
      cases ms with
      | none =>
        intro a' H' m
        refine ⟨_, rfl, (by show 2 ≤ sizeLine; decide), fun v hv => ?_⟩
        have s1 := same_new (o := .tup [.str "told", .non]) hv
        exact k a' _ (.ref v) _ (m.trans (Moved.of m.bench s1)) (.tup (.inl (.inl upd_same)) (.cons (.str _) (.cons .non .nil))) rfl
      | some ms =>
        intro a' H' p vs m hpv pvs hpa hp0
        refine ⟨_, rfl, (by show 2 ≤ sizeLine; decide), fun v hv => ?_⟩
        have s1 := same_new (o := .tup [.str "told", .ref p]) hv
        exact k a' _ (.ref v) _ (m.trans (Moved.of m.bench s1)) (.tup (.inl (.inl upd_same)) (.cons (.str _) (.cons (list_dp (R := Nm g.K _) (fun _ _ z => z.dp) (s1 _ _ hpv) (pvs.mono fun _ _ z => z.same s1)) .nil))) rfl
    | stopped j =>
      intro d H' s1 hd0 hd
      refine ⟨true, TS.s "Stopped" r7S, fun _ x oe hx hz hf => ?_, (fun z => nomatch z)⟩
      refine ⟨_, rfl, "Stopped", some d, rfl, r7S, hz.zc, .inr ⟨d, _, rfl, hd⟩, fun H2 s2 => ⟨_, rfl, iteT ?_⟩⟩
      refine ⟨_, rfl, rfl, rfl, d, _, _, rfl, s2 _ _ hd, rfl, (by show 2 ≤ sizeLine; decide), fun v hv => ?_⟩
      exact k a _ (.ref v) _ (Moved.of hb ((s1.trans s2).trans (same_new hv))) (.tup (.inl (.inl upd_same)) (.cons (.str _) (.cons (.int _) .nil))) rfl
    | ring =>
      intro d p ys H' s1 hd hpl
      refine ⟨false, TS.s "Ring" r7R, (fun z => nomatch z), fun _ => ⟨true, TS.r "Ring" r7R, fun _ x oe hx hz hf => ?_, (fun z => nomatch z)⟩⟩
      refine ⟨_, rfl, "Ring", some d, rfl, r7R, hz.zc, .inr ⟨d, _, rfl, hd⟩, fun H2 s2 => ⟨_, rfl, iteT ?_⟩⟩
      refine ⟨_, rfl, rfl, rfl, d, _, _, rfl, s2 _ _ hd, rfl, (by show 2 ≤ sizeLine; decide), fun v hv => ?_⟩
      have s3 := same_new (o := .tup [.str "Ring", .ref p]) hv
      exact k a _ (.ref v) _ (Moved.of hb ((s1.trans s2).trans s3)) (.tup (.inl (.inl upd_same)) (.cons (.str _) (.cons (dp_ints (SqL.of (s3 _ _ (s2 _ _ hpl)))) .nil))) ⟨ys, rfl⟩
    | no x =>
      intro H' s1
      have hx5 := Deed.no hR
      have hx7 := mem5 hx5
      have n1 : decide ((x : Str) = "Stopped") = false := by
        have key : ∀ y ∈ raised5, decide (y = "Stopped") = false := by decide +kernel
        exact key _ hx5
      have n2 : decide ((x : Str) = "Ring") = false := by
        have key : ∀ y ∈ raised5, decide (y = "Ring") = false := by decide +kernel
        exact key _ hx5
      have e1 := TS.s x hx7
      have e2 := TS.r x hx7
      rw [n1] at e1
      rw [n2] at e2
      refine ⟨false, e1, (fun z => nomatch z), fun _ => ⟨false, e2, (fun z => nomatch z), fun _ => ⟨true, TS.e x hx7, fun _ y oe hy hz hf => ?_, (fun z => nomatch z)⟩⟩⟩
      refine ⟨_, rfl, x, none, rfl, hx5, hz.zc, .inl rfl, fun H2 s2 => ⟨(by show 1 ≤ sizeLine; decide), fun v hv => ?_⟩⟩
      exact k a _ (.ref v) _ (Moved.of hb ((s1.trans s2).trans (same_new hv))) (.tup (.inl (.inl upd_same)) (.cons (.str _) .nil)) rfl
end
end K79
end

section
set_option linter.all false
set_option maxRecDepth 100000
set_option maxHeartbeats 4000000
/-! K79V1: a bench stands as it should. -/
namespace K79
open PySem PySem.Spec PyProof.Rows L2

/-- row[:1] + (one,) + row[2:] -/
theorem cut1 (x y : V) (r : List V) : cutV (x :: y :: r) none (some 1) = [x] := by
  unfold cutV
  rw [show (1 : Int) = ((1 : Nat) : Int) from rfl, HT.sIx_nat, HT.sIx_none, Nat.min_eq_left (by simp)]
  rfl
theorem cut1_in (x y : V) (r : List V) : ¬ (HT.sIx (x :: y :: r).length 0 none = 0 ∧ HT.sIx (x :: y :: r).length (x :: y :: r).length (some 1) = (x :: y :: r).length) := by
  rw [show (1 : Int) = ((1 : Nat) : Int) from rfl, HT.sIx_nat, Nat.min_eq_left (by simp)]
  intro z
  have := z.2
  simp at this
section
variable {g : G}
/-- the rows with these starts -/
def ats (rows : List Row) (ss : List Rat) : List Row := List.zipWith (fun (r : Row) (h : Rat) => r.at_ h) rows ss
theorem ats_at {rows : List Row} {ss : List Rat} {i : Nat} {r : Row} {q : Rat} (h1 : rows[i]? = some r) (h2 : ss[i]? = some q) : (ats rows ss)[i]? = some (r.at_ q) := by
  unfold ats
  rw [List.getElem?_zipWith, h1, h2]
def spStandsAs (K : PySem.W.Frag) : Sp := fun vs H Q _ => ∃ (a : Ad) (b : B) (s rl sl ul : Addr) (x y : V) (v1 v2 v3 : List V) (rows : List Row), vs = [.ref a.p, .ref s] ∧ BenchAt K H a b ∧ WF b ∧ H s = some (.lst [.ref rl, .ref sl, .ref ul, x, y, .int (b.past : Int)]) ∧
  H rl = some (.lst v1) ∧ Paired (Rw K H) v1 rows ∧ H sl = some (.lst v2) ∧ Paired (Nm K H) v2 b.stood ∧ H ul = some (.lst v3) ∧ Paired (Nm K H) v3 b.sums ∧ rows.length = b.rows.length ∧ ats rows b.stood = b.told ∧ ∀ H', Same H H' → Q (.bl true) H'
abbrev s__law_stands : Stmt := top 76
theorem sc__law_stands : FnScope ["_law_bench", "_law_state", "_law_rows", "_law_here", "_law_sums", "_law_told", "_law_due", "_law_k", "_law_row", "_law_one"] ["_law_bench", "_law_state"] (defScope s__law_stands) := ⟨rfl, rfl, rfl, by decide +kernel, rfl, by decide +kernel, by decide +kernel⟩
theorem ok_law_stands (T : TxB g) (F : Def g "_law_stands" s__law_stands ["_law_bench", "_law_state"]) (G_Bench_stands : HasM g CX0 1 (BC g) "stands" ["self"] (spStands g.K)) (G_Bench_stand : HasM g CX0 1 (BC g) "stand" ["self", "shaft"] (spStand g.K)) (G_Bench_machine : HasM g CX0 1 (BC g) "machine" ["self"] (spMachine g.K))
    (G_Bench_moved : HasM g CX0 1 (BC g) "moved" ["self", "shaft"] (spMoved g.K)) (G_Bench_deeds : HasM g CX0 1 (BC g) "deeds" ["self"] (spDeeds g.K)) (G__law_same : Has g CX0 7 "_law_same" ["_law_one", "_law_other"] (spSame g.K 6)) : Has g CX0 8 "_law_stands" ["_law_bench", "_law_state"] (spStandsAs g.K) := by
  refine F.ok sc__law_stands (fun vs H Q E h => ?_) (fun f cdv A outer s H vs Q E hr h => ?_)
  · obtain ⟨a, b, s, rl, sl, ul, x, y, v1, v2, v3, rows, rfl, _⟩ := h
    rfl
  · obtain ⟨a, b, s, rl, sl, ul, x, y, v1, v2, v3, rows, rfl, hb, wf, hs, h1, p1, h2, p2, h3, p3, hlen, hats, k⟩ := h
    refine ⟨_, (pss_cons (ps_par3 (i := 2) (j := 3) (l := 4) (by rfl) sc__law_stands.nd rfl rfl rfl (by decide) (by decide) (by decide) rfl rfl rfl (pa_cons (pe_ix (ix_listK (K := g.K)) (pv 1) pe_int (fun _ _ => rfl)) (pa_cons (pe_ix (ix_listK (K := g.K)) (pv 1) pe_int (fun _ _ => rfl)) (pa_cons (pe_ix (ix_listK (K := g.K)) (pv 1) pe_int (fun _ _ => rfl)) pa_nil))) (by rfl))
      (pss_cons (ps_set (i := 5) sc__law_stands.nd rfl (Or.inl rfl) (pe_lst (pa_cons (pe_hasM0 G_Bench_stands (pv 0) T.bench hr (by decide) pass0) (pa_cons (pe_lc (own := [("_law_k", 7)]) (g := gName 7) (tt := tYes) rfl sc__law_stands.nd (pi_range1 (by rfl) T.range (pa_cons (pe_callB (call_lenK (K := g.K)) (by rfl) T.len PySem.boot_len (pa_cons (pv 2) pa_nil)) pa_nil)) (blkOk_by (own := [("_law_k", 7)]) (N := ["_law_bench", "_law_state", "_law_rows", "_law_here", "_law_sums", "_law_told", "_law_due", "_law_k", "_law_row", "_law_one"]) (sc := defScope s__law_stands) (by decide +kernel)) (fun _ _ _ _ _ => (pg_name (i := 7) sc__law_stands.nd rfl (Or.inl rfl))) (fun _ _ _ _ _ => pts_nil) (fun _ _ _ _ _ => (pe_hasM G_Bench_stand (pv 0) T.bench hr (by decide) pass0 (pa_cons (pv 7) pa_nil)))) (pa_cons (pe_hasM0 G_Bench_machine (pv 0) T.bench hr (by decide) pass0) pa_nil)))))
      (pss_cons (ps_expr (pe_bm PySem.F.plainAttrs_list PySem.F.slot_list_append PySem.F.type_list_append mt_append (pv 5) (pa_cons (pe_lc (own := [("_law_k", 7)]) (g := gName 7) (tt := tYes) rfl sc__law_stands.nd (pi_range1 (by rfl) T.range (pa_cons (pe_callB (call_lenK (K := g.K)) (by rfl) T.len PySem.boot_len (pa_cons (pv 2) pa_nil)) pa_nil)) (blkOk_by (own := [("_law_k", 7)]) (N := ["_law_bench", "_law_state", "_law_rows", "_law_here", "_law_sums", "_law_told", "_law_due", "_law_k", "_law_row", "_law_one"]) (sc := defScope s__law_stands) (by decide +kernel)) (fun _ _ _ _ _ => (pg_name (i := 7) sc__law_stands.nd rfl (Or.inl rfl))) (fun _ _ _ _ _ => pts_nil) (fun _ _ _ _ _ => (pe_hasM G_Bench_moved (pv 0) T.bench hr (by decide) pass0 (pa_cons (pv 7) pa_nil)))) pa_nil)))
      (pss_cons (ps_set (i := 6) sc__law_stands.nd rfl (Or.inl rfl) (pe_lst (pa_cons (pv 3) (pa_cons (pv 3) (pa_cons (pe_lc (own := [("_law_row", 8), ("_law_one", 9)]) (g := gTup g.K 2 (gCons (gName 8) (gCons (gName 9) gNil))) (tt := tYes) rfl sc__law_stands.nd (pi_zip (by rfl) T.zip (pa_cons (pv 2) (pa_cons (pv 3) pa_nil))) (blkOk_by (own := [("_law_row", 8), ("_law_one", 9)]) (N := ["_law_bench", "_law_state", "_law_rows", "_law_here", "_law_sums", "_law_told", "_law_due", "_law_k", "_law_row", "_law_one"]) (sc := defScope s__law_stands) (by decide +kernel)) (fun _ _ _ _ _ => (pg_tup rfl (pgs_cons (pg_name (i := 8) sc__law_stands.nd rfl (Or.inl rfl)) (pgs_cons (pg_name (i := 9) sc__law_stands.nd rfl (Or.inl rfl)) pgs_nil)))) (fun _ _ _ _ _ => pts_nil) (fun _ _ _ _ _ => (pe_op (op_catK (K := g.K)) (pe_op (op_catK (K := g.K)) (pe_slice (sl_tupK (K := g.K)) (pv 8) po_none (po_some pe_int)) (pe_tup (pa_cons (pv 9) pa_nil))) (pe_slice (sl_tupK (K := g.K)) (pv 8) (po_some pe_int) po_none)))) (pa_cons (pv 4) pa_nil))))))
      (pss_one (ps_ret (pe_and (pe_has G__law_same hr (by decide) pass0 (pa_cons (pv 5) (pa_cons (pv 6) pa_nil))) (pe_one (pe_has G__law_same hr (by decide) pass0 (pa_cons (pe_hasM0 G_Bench_deeds (pv 0) T.bench hr (by decide) pass0) (pa_cons (pe_ix (ix_listK (K := g.K)) (pv 1) pe_int (fun _ _ => rfl)) pa_nil))))))))))), ?_⟩
    have l1 := p1.length
    have l2 := p2.length
    have l3 := p3.length
    have n5 := wf.n5
    have ls := wf.ls
    have lu := wf.lu
    refine ⟨_, rfl, _, _, _, _, rfl, rfl, SqL.of hs, rfl, _, rfl, _, _, _, _, rfl, rfl, SqL.of hs, rfl, _, rfl, _, _, _, _, rfl, rfl, SqL.of hs, rfl, _, _, _, rfl, ?_⟩
    -- stands
    refine ⟨_, rfl, _, _, _, rfl, hb.ob, rfl, a, b, rfl, hb, fun t1 H1 u1 s1 ht10 ht1 pu1 => ?_⟩
    have hb1 := hb.same s1
    refine ⟨_, rfl, _, _, rfl, .inl (SqL.of (s1 _ _ h1)), _, rfl, by omega, by omega, lc_map (walk_range (lo := 0) (n := _)) (fun D H y i => ∃ q, b.stood[i]? = some q ∧ Nm g.K H y q) (by omega) (fun D l Ha Hb y i hD hk ⟨q, e, h⟩ => ⟨q, e, h.but hD hk⟩) (fun _ _ => True.intro) ?_ ?_⟩
    · rintro D i x H2 H3 Nx hi hD s2 hl ⟨rfl, hx⟩ kk
      obtain rfl := range_at hx
      obtain ⟨q, hq⟩ := ex_at (xs := b.stood) (i := i) (by rw [Int.toNat_natCast] at hi; omega)
      have hb2 := hb1.same s2
      exact ⟨rfl, _, rfl, _, _, _, rfl, hb2.ob, rfl, _, rfl, a, b, i, q, rfl, hb2, hq, fun v nv => kk v _ (Same.refl _) ⟨q, hq, nv⟩⟩
    intro t2 u2 H2 ht20 s2 ht2 lu2 hy2
    rw [Int.toNat_natCast] at lu2
    have pu2 : Paired (Nm g.K H2) u2 b.stood := pd_of (by omega) fun i y hi => let ⟨q, e, n⟩ := hy2 i y hi; ⟨q, e, n⟩
    have s12 := s1.trans s2
    have hb2 := hb.same s12
    -- the machine
    refine ⟨_, rfl, _, _, _, rfl, hb2.ob, rfl, a, b, rfl, hb2, wf, fun t3 H3 u3 s3 ht30 ht3 pu3 => ?_⟩
    have s13 := s12.trans s3
    refine ⟨(by show 3 ≤ sizeLine; decide), fun tl htl => ?_⟩
    have s4 := same_new (o := .lst [.ref t1, .ref t2, .ref t3]) htl
    have s14 := s13.trans s4
    have hb4 := hb.same s14
    refine ⟨_, rfl, .inl ⟨rfl, _, .inl (.inl upd_same)⟩, ?_⟩
    refine ⟨_, rfl, _, _, rfl, .inl (SqL.of (s14 _ _ h1)), _, rfl, by omega, by omega, lc_map (walk_range (lo := 0) (n := _)) (fun D H y i => ∃ q, b.sums[i]? = some q ∧ Nm g.K H y q) (by omega) (fun D l Ha Hb y i hD hk ⟨q, e, h⟩ => ⟨q, e, h.but hD hk⟩) (fun _ _ => True.intro) ?_ ?_⟩
    · rintro D i x H5 H6 Nx hi hD s5 hl ⟨rfl, hx⟩ kk
      obtain rfl := range_at hx
      obtain ⟨q, hq⟩ := ex_at (xs := b.sums) (i := i) (by rw [Int.toNat_natCast] at hi; omega)
      have hb5 := hb4.same s5
      exact ⟨rfl, _, rfl, _, _, _, rfl, hb5.ob, rfl, _, rfl, a, b, i, q, rfl, hb5, hq, fun v nv => kk v _ (Same.refl _) ⟨q, hq, nv⟩⟩
    intro t4 u4 H4 ht40 s5 ht4 lu4 hy4
    rw [Int.toNat_natCast] at lu4
    have pu4 : Paired (Nm g.K H4) u4 b.sums := pd_of (by omega) fun i y hi => let ⟨q, e, n⟩ := hy4 i y hi; ⟨q, e, n⟩
    have etl := s5 _ _ (upd_same (H := H3) (a := tl) (o := .lst [.ref t1, .ref t2, .ref t3]))
    refine ⟨tl, _, _, rfl, rfl, etl, by show 3 < sizeLine; decide, ?_⟩
    -- from here on the list of four stands
    have s15 := s14.trans s5
    have htl0 : H tl = none := none_of s13 htl
    have keep : Same H (upd H4 tl (.lst ([.ref t1, .ref t2, .ref t3] ++ [.ref t4]))) := fun b o e => by
      rw [upd_ne (ne_of_none e htl0)]
      exact s15 _ _ e
    have ntl : ∀ {t : Addr} {o : HO}, H3 t = some o → t ≠ tl := fun e z => by
      rw [z, htl] at e
      cases e
    have f1 := ((s2.trans s3).trans (s4.trans s5)) _ _ ht1
    have f2 := (s3.trans (s4.trans s5)) _ _ ht2
    have f3 := (s4.trans s5) _ _ ht3
    have k1 : t1 ≠ tl := ntl ((s2.trans s3) _ _ ht1)
    have k2 : t2 ≠ tl := ntl (s3 _ _ ht2)
    have k3 : t3 ≠ tl := ntl ht3
    have k4 : t4 ≠ tl := fun z => by
      rw [z, upd_same] at ht40
      cases ht40
    have fr : Fr [tl] H4 (upd H4 tl (.lst ([.ref t1, .ref t2, .ref t3] ++ [.ref t4]))) := Fr.wr etl nz_lst (by simp)
    have g1 := fr.get f1 (by simpa using k1)
    have g2 := fr.get f2 (by simpa using k2)
    have g3 := fr.get f3 (by simpa using k3)
    have g4 := fr.get ht4 (by simpa using k4)
    have q1 := pu1.mono fun _ _ z => (z.same ((s2.trans s3).trans (s4.trans s5))).fr fr
    have q2 := pu2.mono fun _ _ z => (z.same (s3.trans (s4.trans s5))).fr fr
    have q3 := pu3.mono fun _ _ z => (Rw.same (s4.trans s5) z).fr fr
    have q4 := pu4.mono fun _ _ z => z.fr fr
    have gl : upd H4 tl (.lst ([.ref t1, .ref t2, .ref t3] ++ [.ref t4])) tl = some (.lst [.ref t1, .ref t2, .ref t3, .ref t4]) := upd_same
    generalize upd H4 tl (.lst ([.ref t1, .ref t2, .ref t3] ++ [.ref t4])) = H5 at keep g1 g2 g3 g4 q1 q2 q3 q4 gl ⊢
    clear f1 f2 f3 fr
    -- what is due
    refine ⟨_, rfl, _, rfl, _, rfl, _, rfl, _, _, _, _, rfl, SqL.of (keep _ _ h1), SqL.of (keep _ _ h2), lc_map (walk_zip (n := b.rows.length) (K := g.K) (a := rl) (b := sl) (xs := v1) (ys := v2) (by omega))
      (fun D H y i => ∃ r q, rows[i]? = some r ∧ b.stood[i]? = some q ∧ Rw g.K H y (r.at_ q)) (by omega) (fun D l Ha Hb y i hD hk ⟨r, q, h1, h2, h3⟩ => ⟨r, q, h1, h2, h3.but hD hk⟩) (fun H' s => ⟨SqL.of (s _ _ (keep _ _ h1)), SqL.of (s _ _ (keep _ _ h2))⟩) ?_ ?_⟩
    · rintro D i x H6 H7 Nx hi hD s6 hl ⟨t, x1, x2, rfl, ht, rfl, hx1, hx2⟩ kk
      obtain ⟨r, hr2, rw2⟩ := Pd.getV p1 hx1
      obtain ⟨q, hq2, nm2⟩ := Pd.getV p2 hx2
      have s7 := same_new (o := .tup [x1, x2]) ht
      have s67 := keep.trans (s6.trans s7)
      obtain ⟨ar, z, x0, l, rfl, tr, l4, mk⟩ := (rw2.same s67).cut
      refine ⟨t, _, rfl, .inl (.inl upd_same), rfl, _, _, rfl, _, _, rfl, rfl, rfl, ?_⟩
      refine ⟨_, rfl, _, rfl, ar, _, rfl, tr, (fun z => absurd z (cut1_in _ _ _)), fun _ c hc => ?_⟩
      rw [cut1]
      have s8 := same_new (o := .tup [.str z]) hc
      refine ⟨_, rfl, (by show 1 ≤ sizeLine; decide), fun c2 hc2 => ?_⟩
      have s9 := same_new (o := .tup [x2]) hc2
      refine ⟨c, c2, [.str z], [x2], rfl, rfl, .inl (.inl (s9 _ _ upd_same)), .inl (.inl upd_same), (by show 2 ≤ sizeLine; decide), (fun z => nomatch z), (fun _ z => nomatch z), fun _ _ c3 hc3 => ?_⟩
      have s10 := same_new (o := .tup ([.str z] ++ [x2])) hc3
      have s8a := s8.trans (s9.trans s10)
      refine ⟨_, rfl, _, rfl, cat_two (u := .str z) (w := x2) (.inl (.inl upd_same)) (Same.tup s8a tr) l4 fun q3 H11 s11 t11 => ?_⟩
      exact kk _ _ (s7.trans (s8a.trans s11)) ⟨r, q, hr2, hq2, mk q3 H11 x2 q (s8a.trans s11) t11 (nm2.same (s67.trans (s8a.trans s11)))⟩
    intro t5 u5 H6 ht50 s6 ht5 lu5 hy5
    have q5 : Paired (Rw g.K H6) u5 b.told := pd_of (by rw [wf.toldLen]; exact lu5) fun i y hi => by
      obtain ⟨r, q, e1, e2, rw⟩ := hy5 i y hi
      refine ⟨_, ?_, rw⟩
      rw [← hats]
      exact ats_at e1 e2
    have s06 := keep.trans s6
    refine ⟨_, rfl, (by show 4 ≤ sizeLine; decide), fun du hdu => ?_⟩
    have s7 := same_new (o := .lst [.ref sl, .ref sl, .ref t5, .ref ul]) hdu
    have s57 := s6.trans s7
    have s07 := keep.trans s57
    have dA : Dp g.K (upd H6 du (.lst [.ref sl, .ref sl, .ref t5, .ref ul])) (.ref tl) (.list [.list (b.stood.map nmD), .list (b.stood.map nmD), .list (b.told.map rowD), .list (b.sums.map nmD)]) :=
      .lst (SqL.of (s57 _ _ gl)) (.cons (list_dp (R := Nm g.K _) (fun _ _ z => z.dp) (s57 _ _ g1) (q1.mono fun _ _ z => z.same s57)) (.cons (list_dp (R := Nm g.K _) (fun _ _ z => z.dp) (s57 _ _ g2) (q2.mono fun _ _ z => z.same s57)) (.cons (list_dp (R := Rw g.K _) (fun _ _ z => z.dp) (s57 _ _ g3) (q3.mono fun _ _ z => Rw.same s57 z))
        (.cons (list_dp (R := Nm g.K _) (fun _ _ z => z.dp) (s57 _ _ g4) (q4.mono fun _ _ z => z.same s57)) .nil))))
    have dH := list_dp (R := Nm g.K _) (K := g.K) (fun _ _ z => z.dp) (s07 _ _ h2) (p2.mono fun _ _ z => z.same s07)
    have dB : Dp g.K (upd H6 du (.lst [.ref sl, .ref sl, .ref t5, .ref ul])) (.ref du) (.list [.list (b.stood.map nmD), .list (b.stood.map nmD), .list (b.told.map rowD), .list (b.sums.map nmD)]) :=
      .lst (SqL.of upd_same) (.cons dH (.cons dH (.cons (list_dp (R := Rw g.K _) (fun _ _ z => z.dp) (s7 _ _ ht5) (q5.mono fun _ _ z => Rw.same s7 z)) (.cons (list_dp (R := Nm g.K _) (fun _ _ z => z.dp) (s07 _ _ h3) (p3.mono fun _ _ z => z.same s07)) .nil))))
    have ok : OkD 4 (.list [.list (b.stood.map nmD), .list (b.stood.map nmD), .list (b.told.map rowD), .list (b.sums.map nmD)]) := OkD.list (fun d hd => by
      simp only [List.mem_cons, List.not_mem_nil, or_false] at hd
      rcases hd with rfl | rfl | rfl | rfl
      · exact (okD_map okD_nm (by omega)).mono (by decide)
      · exact (okD_map okD_nm (by omega)).mono (by decide)
      · exact okD_map okD_row (by rw [wf.toldLen]; omega)
      · exact (okD_map okD_nm (by omega)).mono (by decide)) (by simp)
    refine ⟨_, rfl, _, rfl, .ref tl, .ref du, _, rfl, dA, dB, ok.cl, ok.sm, Nat.lt_of_le_of_lt ok.dp (by decide), by decide, fun H8 s8 => ⟨true, rfl, ?_⟩⟩
    rw [if_pos rfl]
    have s08 := s07.trans s8
    have hb8 := hb.same s08
    refine ⟨_, rfl, _, _, _, rfl, hb8.ob, rfl, a, b, rfl, hb8, ?_⟩
    refine ⟨_, rfl, _, _, _, _, rfl, rfl, SqL.of (s08 _ _ hs), rfl, .int b.past, .int b.past, .int (b.past : Int), rfl, .int _, .int _, rfl, rfl, by show 0 < 6; decide, by decide, fun H9 s9 => k H9 (s08.trans s9)⟩
end
end K79
end

section
set_option linter.all false
set_option maxRecDepth 100000
set_option maxHeartbeats 4000000
/-! K79V2: any row, any deed. -/
namespace K79
open PySem PySem.Spec PyProof.Rows L2

section
variable {g : G}
theorem Rw.frs {K : PySem.W.Frag} {F : List Addr} {H H' : Hp} {v : V} {r : Row} (s : Fr F H H') (h : Rw K H v r) : Rw K H' v r := Rw.fr s h
def spAnyRow (K : PySem.W.Frag) : Sp := fun vs H Q _ => ∃ (p : Addr) (n k : Nat) (w : V) (q : Rat), vs = [.ref p, .int n, w] ∧ 0 < n ∧ n ≤ 5 ∧ Bag H p k ∧ k ≤ 99900 ∧ Nm K H w q ∧ Sz 4 q ∧ ∀ v r H', Fr [p] H H' → Bag H' p (k + 10) → Rw K H' v r → r.In n → r.small 200 4 → Q v H'
abbrev s__law_any_row : Stmt := top 77
theorem sc__law_any_row : FnScope ["_law_bag_here", "_law_many", "_law_number_here", "_law_one", "_law_other", "_law_ratio", "_law_rows"] ["_law_bag_here", "_law_many", "_law_number_here"] (defScope s__law_any_row) := ⟨rfl, rfl, rfl, by decide +kernel, rfl, by decide +kernel, by decide +kernel⟩
theorem ok_law_any_row (T : TxB g) (F : Def g "_law_any_row" s__law_any_row ["_law_bag_here", "_law_many", "_law_number_here"]) (G__law_take : Has g CX0 1 "_law_take" ["_law_bag_here", "_law_many"] (spTake g.K)) (G__law_number : Has g CX0 2 "_law_number" ["_law_bag_here", "_law_kind"] (spNumber g.K)) :
    Has g CX0 3 "_law_any_row" ["_law_bag_here", "_law_many", "_law_number_here"] (spAnyRow g.K) := by
  refine F.ok sc__law_any_row (fun vs H Q E h => ?_) (fun f cdv A outer s H vs Q E hr h => ?_)
  · obtain ⟨p, n, k, w, q, rfl, _⟩ := h
    rfl
  · obtain ⟨p, n, k, w, q, rfl, hn, hn5, hb, hk, hw, zq, kk⟩ := h
    refine ⟨_, (pss_cons (ps_par (i := 3) (j := 4) (by rfl) sc__law_any_row.nd rfl rfl (by decide) rfl rfl (pa_cons (pe_has G__law_take hr (by decide) pass0 (pa_cons (pv 0) (pa_cons (pv 1) pa_nil))) (pa_cons (pe_has G__law_take hr (by decide) pass0 (pa_cons (pv 0) (pa_cons (pv 1) pa_nil))) pa_nil)) (by rfl))
      (pss_cons (ps_set (i := 5) sc__law_any_row.nd rfl (Or.inl rfl) (pe_has G__law_number hr (by decide) pass0 (pa_cons (pv 0) (pa_cons pe_int pa_nil))))
      (pss_cons (ps_set (i := 6) sc__law_any_row.nd rfl (Or.inl rfl) (pe_lst (pa_cons (pe_tup (pa_cons pe_str (pa_cons (pv 2) (pa_cons (pv 5) (pa_cons (pv 3) pa_nil))))) (pa_cons (pe_tup (pa_cons pe_str (pa_cons (pv 2) (pa_cons (pv 3) (pa_cons (pv 4) pa_nil))))) (pa_cons (pe_tup (pa_cons pe_str (pa_cons (pv 2) (pa_cons (pv 3) (pa_cons (pv 4) pa_nil))))) pa_nil)))))
      (pss_one (ps_ret (pe_ix (ix_listK (K := g.K)) (pe_op op_cat (pe_op op_cat (pv 6) (pv 6)) (pe_lst (pa_cons (pe_tup (pa_cons pe_str (pa_cons (pv 2) pa_nil))) pa_nil))) (pe_has G__law_take hr (by decide) pass0 (pa_cons (pv 0) (pa_cons pe_int pa_nil))) (fun _ _ => rfl))))))), ?_⟩
    refine ⟨_, rfl, _, rfl, p, n, k, rfl, hb, hn, by omega, by omega, fun r1 H1 hr1 f1 b1 => ?_⟩
    refine ⟨_, rfl, _, rfl, p, n, _, rfl, b1, hn, by omega, by omega, fun r2 H2 hr2 f2 b2 => ⟨_, _, rfl, ?_⟩⟩
    refine ⟨_, rfl, p, 1, _, rfl, .inr (.inl rfl), b2, by omega, fun v3 q3 H3 f3 b3 nm3 z3 => ?_⟩
    have f03 := fr_two (fr_two f1 f2) f3
    have hw3 := hw.fr f03
    have z200 : Sz 200 q := zq.mono (by decide)
    refine ⟨_, rfl, _, rfl, _, rfl, (by show 4 ≤ sizeLine; decide), fun t1 ht1 => ?_⟩
    have s1 := same_new (o := .tup [.str "gear", w, v3, .int r1]) ht1
    refine ⟨_, rfl, _, rfl, _, rfl, (by show 4 ≤ sizeLine; decide), fun t2 ht2 => ?_⟩
    have s2 := same_new (o := .tup [.str "adder", w, .int r1, .int r2]) ht2
    refine ⟨_, rfl, _, rfl, _, rfl, (by show 4 ≤ sizeLine; decide), fun t3 ht3 => ?_⟩
    have s3 := same_new (o := .tup [.str "disc", w, .int r1, .int r2]) ht3
    refine ⟨(by show 3 ≤ sizeLine; decide), fun l1 hl1 => ?_⟩
    have s4 := same_new (o := .lst [.ref t1, .ref t2, .ref t3]) hl1
    refine ⟨_, rfl, _, rfl, l1, l1, _, _, rfl, rfl, upd_same, upd_same, (by show 6 ≤ sizeLine; decide), fun l2 hl2 => ?_⟩
    have s5 := same_new (o := .lst ([.ref t1, .ref t2, .ref t3] ++ [.ref t1, .ref t2, .ref t3])) hl2
    refine ⟨_, rfl, (by show 2 ≤ sizeLine; decide), fun t4 ht4 => ⟨(by show 1 ≤ sizeLine; decide), fun l3 hl3 => ?_⟩⟩
    have s6 := same_new (o := .tup [.str "source", w]) ht4
    have s7 := same_new (o := .lst [.ref t4]) hl3
    refine ⟨l2, l3, _, _, rfl, rfl, s7 _ _ (s6 _ _ upd_same), upd_same, (by show 7 ≤ sizeLine; decide), fun l4 hl4 => ?_⟩
    have s8 := same_new (o := .lst (([.ref t1, .ref t2, .ref t3] ++ [.ref t1, .ref t2, .ref t3]) ++ [.ref t4])) hl4
    have sA := s1.trans (s2.trans (s3.trans (s4.trans (s5.trans (s6.trans (s7.trans s8))))))
    have w1 : Rw g.K _ (.ref t1) (.gear q q3 r1) := .gear (.inl (.inl ((s2.trans (s3.trans (s4.trans (s5.trans (s6.trans (s7.trans s8)))))) _ _ upd_same))) (hw3.same sA) (nm3.same sA)
    have w2 : Rw g.K _ (.ref t2) (.adder q r1 r2) := .adder (.inl (.inl ((s3.trans (s4.trans (s5.trans (s6.trans (s7.trans s8))))) _ _ upd_same))) (hw3.same sA)
    have w3 : Rw g.K _ (.ref t3) (.disc q r1 r2) := .disc (.inl (.inl ((s4.trans (s5.trans (s6.trans (s7.trans s8)))) _ _ upd_same))) (hw3.same sA)
    have w4 : Rw g.K _ (.ref t4) (.src q) := .src (.inl (.inl ((s7.trans s8) _ _ upd_same))) (hw3.same sA)
    have bA := b3.same sA
    have fA : Fr [p] H _ := fr_bag f03 sA
    have gl := upd_same (H := upd (upd (upd (upd (upd (upd (upd H3 t1 (.tup [.str "gear", w, v3, .int r1])) t2 (.tup [.str "adder", w, .int r1, .int r2])) t3 (.tup [.str "disc", w, .int r1, .int r2])) l1 (.lst [.ref t1, .ref t2, .ref t3])) l2 (.lst ([.ref t1, .ref t2, .ref t3] ++ [.ref t1, .ref t2, .ref t3]))) t4 (.tup [.str "source", w])) l3 (.lst [.ref t4])) (a := l4) (o := .lst (([.ref t1, .ref t2, .ref t3] ++ [.ref t1, .ref t2, .ref t3]) ++ [.ref t4]))
    refine ⟨_, rfl, p, 7, _, rfl, bA, by decide, by decide, by omega, fun r9 H9 hr9 f9 b9 => ?_⟩
    have np : l4 ≠ p := fun z => by
      obtain ⟨_, _, _, e, _⟩ := b3.same (s1.trans (s2.trans (s3.trans (s4.trans (s5.trans (s6.trans s7))))))
      rw [z] at hl4
      rw [hl4] at e
      cases e
    have gl9 := f9.get gl (by simpa using np)
    have fin : ∀ (v : V) (r : Row), Rw g.K _ v r → r.In n → r.small 200 4 → atI ([V.ref t1, .ref t2, .ref t3] ++ [.ref t1, .ref t2, .ref t3] ++ [.ref t4]) (r9 : Int) = some v → _ := fun v r hrw hin hsm hat => (⟨_, _, _, _, rfl, rfl, SqL.of gl9, hat, kk v r H9 (fr_two fA f9) (b9.mono (by omega)) (hrw.fr f9) hin hsm⟩ : rIxL g.K (.ref l4) (.int (r9 : Int)) H9 Q)
    have z4 : Sz 4 q3 := z3
    rcases (show r9 = 0 ∨ r9 = 1 ∨ r9 = 2 ∨ r9 = 3 ∨ r9 = 4 ∨ r9 = 5 ∨ r9 = 6 by omega) with e | e | e | e | e | e | e <;> subst e
    · exact fin _ _ w1 hr1 ⟨z200, z4⟩ rfl
    · exact fin _ _ w2 ⟨hr1, hr2⟩ z200 rfl
    · exact fin _ _ w3 ⟨hr1, hr2⟩ z200 rfl
    · exact fin _ _ w1 hr1 ⟨z200, z4⟩ rfl
    · exact fin _ _ w2 ⟨hr1, hr2⟩ z200 rfl
    · exact fin _ _ w3 ⟨hr1, hr2⟩ z200 rfl
    · exact fin _ _ w4 True.intro z200 rfl
/-- a deed as the law draws it, on n shafts -/
def Deed.Drawn (n : Nat) : Deed → Prop
  | .click q => Sz 20 q
  | .out k => k < n
  | .into k => k < n
  | .put k q => k < n ∧ Sz 200 q
  | .wire k r => k < n ∧ r.In n ∧ r.small 200 4
  | .gear k q => k < n ∧ Sz 4 q
  | .ends k l => k < n ∧ ∀ q, (l.1 = some q ∨ l.2 = some q) → Sz 200 q
  | .undo => False
theorem Deed.Drawn.ok {n : Nat} {e : Deed} {b : B} (h : e.Drawn n) (hn : b.rows.length = n) : e.Ok b := by
  subst hn
  cases e with
  | undo => exact h.elim
  | _ => exact h
theorem sz_nat6 {r : Nat} (h : r < 64) : Sz 200 ((r : Nat) : Rat) := by
  have := sz_int (z := (r : Int)) (n := 200) (Nat.lt_of_lt_of_le (show (r : Int).natAbs < 2 ^ 6 by rw [Int.natAbs_natCast]; exact h) (Nat.pow_le_pow_right (by decide) (by decide))) (by decide)
  rw [int_cast] at this
  exact this
/-- [None, v][r] -/
theorem pick {K : PySem.W.Frag} (r : Nat) (hr : r < 2) (t : Addr) (q : Rat) (H : Hp) (h : Nm K H (.ref t) q) (hz : Sz 200 q) : ∃ (x : V) (o : Option Rat), atI [V.non, .ref t] (r : Int) = some x ∧ On K H x o ∧ ∀ z, o = some z → Sz 200 z := by
  rcases (show r = 0 ∨ r = 1 by omega) with e | e <;> subst e
  · exact ⟨.non, none, rfl, rfl, fun z e => nomatch e⟩
  · exact ⟨.ref t, some q, rfl, h, fun z e => by cases e; exact hz⟩
def spAnyDeed (K : PySem.W.Frag) : Sp := fun vs H Q _ => ∃ (p ol : Addr) (n k : Nat) (os : List Nat), vs = [.ref p, .int n, .ref ol] ∧ 0 < n ∧ n ≤ 5 ∧ Bag H p k ∧ k ≤ 99000 ∧ H ol = some (.lst (nV os)) ∧ (∀ o ∈ os, o < n) ∧ os.length ≤ 1000 ∧ ol ≠ p ∧
  ∀ t e H', Fr [p] H H' → Bag H' p (k + 30) → DeedAt K H' t e → e.Drawn n → Q (.ref t) H'
abbrev s__law_any_deed : Stmt := top 78
theorem sc__law_any_deed : FnScope ["_law_bag_here", "_law_many", "_law_outs", "_law_way", "_law_shaft", "_law_number_here", "_law_least", "_law_greatest"] ["_law_bag_here", "_law_many", "_law_outs"] (defScope s__law_any_deed) := ⟨rfl, rfl, rfl, by decide +kernel, rfl, by decide +kernel, by decide +kernel⟩
theorem ok_law_any_deed (T : TxB g) (F : Def g "_law_any_deed" s__law_any_deed ["_law_bag_here", "_law_many", "_law_outs"]) (G__law_take : Has g CX0 1 "_law_take" ["_law_bag_here", "_law_many"] (spTake g.K)) (G__law_number : Has g CX0 2 "_law_number" ["_law_bag_here", "_law_kind"] (spNumber g.K))
    (G__law_any_row : Has g CX0 3 "_law_any_row" ["_law_bag_here", "_law_many", "_law_number_here"] (spAnyRow g.K)) : Has g CX0 4 "_law_any_deed" ["_law_bag_here", "_law_many", "_law_outs"] (spAnyDeed g.K) := by
  refine F.ok sc__law_any_deed (fun vs H Q E h => ?_) (fun f cdv A outer s H vs Q E hr h => ?_)
  · obtain ⟨p, ol, n, k, os, rfl, _⟩ := h
    rfl
  · obtain ⟨p, ol, n, k, os, rfl, hn, hn5, hb, hk, hol, hos, hlen, np, kk⟩ := h
    refine ⟨_, (pss_cons (ps_par (i := 3) (j := 4) (by rfl) sc__law_any_deed.nd rfl rfl (by decide) rfl rfl (pa_cons (pe_has G__law_take hr (by decide) pass0 (pa_cons (pv 0) (pa_cons pe_int pa_nil))) (pa_cons (pe_has G__law_take hr (by decide) pass0 (pa_cons (pv 0) (pa_cons (pv 1) pa_nil))) pa_nil)) (by rfl))
      (pss_cons (ps_if (PW.pt (pw_and (pt_cmpR (op_neK (K := g.K) hr.units) (pv 2) (pe_lst pa_nil) (nomark _)) (pw_and1 (pt_cmpR op_gt (pv 3) pe_int (nomark _))))) (pss_one (ps_set (i := 4) sc__law_any_deed.nd rfl (Or.inl rfl) (pe_ix (ix_listK (K := g.K)) (pv 2) (pe_has G__law_take hr (by decide) pass0 (pa_cons (pv 0) (pa_cons (pe_callB (call_lenK (K := g.K)) (by rfl) T.len PySem.boot_len (pa_cons (pv 2) pa_nil)) pa_nil))) (fun _ _ => rfl)))) pss_nil)
      (pss_cons (ps_set (i := 5) sc__law_any_deed.nd rfl (Or.inl rfl) (pe_has G__law_number hr (by decide) pass0 (pa_cons (pv 0) (pa_cons (pe_ix (ix_listK (K := g.K)) (pe_lst (pa_cons pe_int (pa_cons pe_int (pa_cons pe_int pa_nil)))) (pe_has G__law_take hr (by decide) pass0 (pa_cons (pv 0) (pa_cons pe_int pa_nil))) (fun _ _ => rfl)) pa_nil))))
      (pss_cons (ps_if (pt_cmpR op_lt (pv 3) pe_int (nomark _)) (pss_one (ps_ret (pe_tup (pa_cons pe_str (pa_cons (pv 5) pa_nil))))) pss_nil)
      (pss_cons (ps_if (pt_cmpR op_lt (pv 3) pe_int (nomark _)) (pss_one (ps_ret (pe_tup (pa_cons pe_str (pa_cons (pv 4) pa_nil))))) pss_nil)
      (pss_cons (ps_if (pt_cmpR op_eq (pv 3) pe_int (nomark _)) (pss_one (ps_ret (pe_tup (pa_cons pe_str (pa_cons (pv 4) (pa_cons (pv 5) pa_nil)))))) pss_nil)
      (pss_cons (ps_if (pt_cmpR op_lt (pv 3) pe_int (nomark _)) (pss_one (ps_ret (pe_tup (pa_cons pe_str (pa_cons (pv 4) (pa_cons (pv 5) pa_nil)))))) pss_nil)
      (pss_cons (ps_if (pt_cmpR op_lt (pv 3) pe_int (nomark _)) (pss_one (ps_ret (pe_tup (pa_cons pe_str (pa_cons (pv 4) (pa_cons (pe_has G__law_any_row hr (by decide) pass0 (pa_cons (pv 0) (pa_cons (pv 1) (pa_cons (pv 5) pa_nil)))) pa_nil)))))) pss_nil)
      (pss_cons (ps_if (pt_cmpR op_eq (pv 3) pe_int (nomark _)) (pss_one (ps_ret (pe_tup (pa_cons pe_str (pa_cons (pv 4) pa_nil))))) pss_nil)
      (pss_cons (ps_par (i := 6) (j := 7) (by rfl) sc__law_any_deed.nd rfl rfl (by decide) rfl rfl (pa_cons (pe_tup (pa_cons (pe_op op_sub pe_int (pe_has G__law_take hr (by decide) pass0 (pa_cons (pv 0) (pa_cons pe_int pa_nil)))) (pa_cons pe_int pa_nil))) (pa_cons (pe_tup (pa_cons (pe_has G__law_take hr (by decide) pass0 (pa_cons (pv 0) (pa_cons pe_int pa_nil))) (pa_cons pe_int pa_nil))) pa_nil)) (by rfl))
      (pss_one (ps_ret (pe_tup (pa_cons pe_str (pa_cons (pv 4) (pa_cons (pe_ix (ix_listK (K := g.K)) (pe_lst (pa_cons pe_non (pa_cons (pv 6) pa_nil))) (pe_has G__law_take hr (by decide) pass0 (pa_cons (pv 0) (pa_cons pe_int pa_nil))) (fun _ _ => rfl)) (pa_cons (pe_ix (ix_listK (K := g.K)) (pe_lst (pa_cons pe_non (pa_cons (pv 7) pa_nil))) (pe_has G__law_take hr (by decide) pass0 (pa_cons (pv 0) (pa_cons pe_int pa_nil))) (fun _ _ => rfl)) pa_nil))))))))))))))))), ?_⟩
    refine ⟨_, rfl, p, 14, k, rfl, hb, by decide, by decide, by omega, fun way H1 hway f1 b1 => ?_⟩
    refine ⟨_, rfl, _, rfl, p, n, _, rfl, b1, hn, by omega, by omega, fun sh0 H2 hsh0 f2 b2 => ⟨_, _, rfl, ?_⟩⟩
    have f02 := fr_two f1 f2
    have pl : ol ∉ [p] := by simpa using np
    have hol2 := f02.get hol pl
    have kinds : ∀ r : Nat, r < 3 → ∃ kd : Nat, atI [V.int 0, .int 1, .int 3] (r : Int) = some (.int (kd : Int)) ∧ (kd = 0 ∨ kd = 1 ∨ kd = 3) := fun r hr => by
      rcases (show r = 0 ∨ r = 1 ∨ r = 2 by omega) with e | e | e <;> subst e
      · exact ⟨0, rfl, .inl rfl⟩
      · exact ⟨1, rfl, .inr (.inl rfl)⟩
      · exact ⟨3, rfl, .inr (.inr rfl)⟩
    have nof : ∀ {Hx : Hp} {l : Addr} {j : Nat}, Bag Hx p j → Hx l = none → l ∉ [p] := fun b h z => by
      obtain ⟨_, _, _, e, _⟩ := b
      rw [← List.mem_singleton.mp z, h] at e
      cases e
    refine ⟨_, rfl, (by show 0 ≤ sizeLine; decide), fun l0 hl0 => ?_⟩
    have s3 := same_new (o := .lst []) hl0
    refine ⟨_, _, dp_ints (l := os.map fun j : Nat => (j : Int)) (SqL.of (by rw [← nV_ints]; exact s3 _ _ hol2)), .lst (SqL.of upd_same) .nil, shaped_ints _, rfl, _, rfl, ?_⟩
    rw [eqv_nil]
    have f03 := fr_bag f02 s3
    have b3 := b2.same s3
    have hol3 := s3 _ _ hol2
    generalize upd H2 l0 (.lst []) = H3 at f03 b3 hol3 ⊢
    cases hos0 : ((os.map fun j : Nat => (j : Int)).map PyData.int).isEmpty with
    | true =>
      refine iteF (iteF ?_)
      refine ⟨_, rfl, (by show 3 ≤ sizeLine; decide), fun l1 hl1 => ?_⟩
      have s4 := same_new (o := .lst [.int 0, .int 1, .int 3]) hl1
      have pl1 := nof b3 hl1
      refine ⟨_, rfl, p, 3, k + 4, rfl, (b3.same s4).mono (by omega), by decide, by decide, by omega, fun r5 H5 hr5 f5 b5 => ?_⟩
      obtain ⟨kd, hat, hkd⟩ := kinds r5 hr5
      refine ⟨_, _, _, _, rfl, rfl, SqL.of (f5.get upd_same pl1), hat, p, kd, _, rfl, hkd, b5, by omega, fun v6 q6 H6 f6 b6 nm6 z6 => ?_⟩
      have f06 := fr_two (fr_two (fr_bag f03 s4) f5) f6
      have z20 : Sz 20 q6 := z6.mono (by decide)
      have z200 : Sz 200 q6 := z6.mono (by decide)
      refine ⟨_, rfl, _, _, rfl, rfl, _, rfl, ?_⟩
      by_cases w4 : (way : Int) < 4
      · rw [decide_eq_true w4]
        exact iteT ⟨_, rfl, (by show 2 ≤ sizeLine; decide), fun t ht => kk t (.click q6) _ (fr_bag f06 (same_new ht)) ((b6.same (same_new ht)).mono (by omega)) (.click (.inl (.inl upd_same)) (nm6.same (same_new ht))) z20⟩
      rw [decide_eq_false w4]
      refine iteF ⟨_, rfl, _, _, rfl, rfl, _, rfl, ?_⟩
      by_cases w6 : (way : Int) < 6
      · rw [decide_eq_true w6]
        exact iteT ⟨_, rfl, (by show 2 ≤ sizeLine; decide), fun t ht => kk t (.out sh0) _ (fr_bag f06 (same_new ht)) ((b6.same (same_new ht)).mono (by omega)) (.out (.inl (.inl upd_same))) hsh0⟩
      rw [decide_eq_false w6]
      refine iteF ⟨_, rfl, rfl, _, rfl, ?_⟩
      by_cases w7 : (way : Int) = 6
      · rw [decide_eq_true (by rw [w7] : V.int (way : Int) = .int 6)]
        exact iteT ⟨_, rfl, _, rfl, (by show 3 ≤ sizeLine; decide), fun t ht => kk t (.gear sh0 q6) _ (fr_bag f06 (same_new ht)) ((b6.same (same_new ht)).mono (by omega)) (.gear (.inl (.inl upd_same)) (nm6.same (same_new ht))) ⟨hsh0, z6⟩⟩
      rw [decide_eq_false (show ¬ V.int (way : Int) = .int 6 from fun z => by injection z with z; omega)]
      refine iteF ⟨_, rfl, _, _, rfl, rfl, _, rfl, ?_⟩
      by_cases w9 : (way : Int) < 9
      · rw [decide_eq_true w9]
        exact iteT ⟨_, rfl, _, rfl, (by show 3 ≤ sizeLine; decide), fun t ht => kk t (.put sh0 q6) _ (fr_bag f06 (same_new ht)) ((b6.same (same_new ht)).mono (by omega)) (.put (.inl (.inl upd_same)) (nm6.same (same_new ht))) ⟨hsh0, z200⟩⟩
      rw [decide_eq_false w9]
      refine iteF ⟨_, rfl, _, _, rfl, rfl, _, rfl, ?_⟩
      by_cases w11 : (way : Int) < 11
      · rw [decide_eq_true w11]
        refine iteT ⟨_, rfl, _, rfl, _, rfl, _, rfl, p, n, _, _, q6, rfl, hn, hn5, b6, by omega, nm6, z6, fun v7 r7 H7 f7 b7 rw7 in7 sm7 => ⟨(by show 3 ≤ sizeLine; decide), fun t ht => ?_⟩⟩
        exact kk t (.wire sh0 r7) _ (fr_bag (fr_two f06 f7) (same_new ht)) ((b7.same (same_new ht)).mono (by omega)) (.wire (.inl (.inl upd_same)) (rw7.same (same_new ht))) ⟨hsh0, in7, sm7⟩
      rw [decide_eq_false w11]
      refine iteF ⟨_, rfl, rfl, _, rfl, ?_⟩
      by_cases w12 : (way : Int) = 11
      · rw [decide_eq_true (by rw [w12] : V.int (way : Int) = .int 11)]
        exact iteT ⟨_, rfl, (by show 2 ≤ sizeLine; decide), fun t ht => kk t (.into sh0) _ (fr_bag f06 (same_new ht)) ((b6.same (same_new ht)).mono (by omega)) (.into (.inl (.inl upd_same))) hsh0⟩
      rw [decide_eq_false (show ¬ V.int (way : Int) = .int 11 from fun z => by injection z with z; omega)]
      refine iteF ⟨_, rfl, p, 40, _, rfl, b6, by decide, by decide, by omega, fun r7 H7 hr7 f7 b7 => ⟨_, _, rfl, rfl, (by show 2 ≤ sizeLine; decide), fun t7 ht7 => ?_⟩⟩
      have s7 := same_new (o := .tup [.int (0 - (r7 : Int)), .int 1]) ht7
      refine ⟨_, rfl, p, 40, _, rfl, b7.same s7, by decide, by decide, by omega, fun r8 H8 hr8 f8 b8 => ⟨(by show 2 ≤ sizeLine; decide), fun t8 ht8 => ⟨_, _, rfl, ?_⟩⟩⟩
      have s8 := same_new (o := .tup [.int (r8 : Int), .int 1]) ht8
      have n7 := ((nm_int (K := g.K) (H := H7) (p := t7) (0 - (r7 : Int))).fr f8).same s8
      have n8 := nm_nat (K := g.K) (H := H8) (p := t8) r8
      refine ⟨_, rfl, _, rfl, (by show 2 ≤ sizeLine; decide), fun l9 hl9 => ?_⟩
      have s9 := same_new (o := .lst [.non, .ref t7]) hl9
      have pl9 := nof (b8.same s8) hl9
      refine ⟨_, rfl, p, 2, _, rfl, (b8.same s8).same s9, by decide, by decide, by omega, fun r9 H9 hr9 f9 b9 => ?_⟩
      obtain ⟨x9, l1', e9, o9, z9⟩ := pick r9 hr9 t7 _ _ ((n7.same s9).fr f9) (sz_int (show (0 - (r7 : Int)).natAbs < 2 ^ 200 from Nat.lt_of_lt_of_le (show (0 - (r7 : Int)).natAbs < 2 ^ 6 by show _ < 64; omega) (Nat.pow_le_pow_right (by decide) (by decide))) (by decide))
      refine ⟨_, _, _, _, rfl, rfl, SqL.of (f9.get upd_same pl9), e9, _, rfl, (by show 2 ≤ sizeLine; decide), fun l10 hl10 => ?_⟩
      have s10 := same_new (o := .lst [.non, .ref t8]) hl10
      have pl10 := nof b9 hl10
      refine ⟨_, rfl, p, 2, _, rfl, b9.same s10, by decide, by decide, by omega, fun r10 H10 hr10 f10 b10 => ?_⟩
      obtain ⟨x10, l2', e10, o10, z10⟩ := pick r10 hr10 t8 _ _ ((((n8.same s9).fr f9).same s10).fr f10) (sz_nat6 (by omega))
      refine ⟨_, _, _, _, rfl, rfl, SqL.of (f10.get upd_same pl10), e10, (by show 4 ≤ sizeLine; decide), fun t ht => ?_⟩
      have f9a : Fr [p] H9 H10 := (Fr.of s10).trans f10 fun _ m => .inl m
      have fA : Fr [p] H H10 := fr_two (fr_two (fr_bag (fr_bag (fr_two (fr_bag (fr_two f06 f7) s7) f8) s8) s9) f9) f9a
      exact kk t (.ends sh0 (l1', l2')) _ (fr_bag fA (same_new ht)) ((b10.same (same_new ht)).mono (by omega)) (.ends (l := (l1', l2')) (.inl (.inl upd_same)) (On.fr (F := []) (Fr.of (same_new ht)) (o9.fr f9a)) (On.fr (F := []) (Fr.of (same_new ht)) o10)) ⟨hsh0, fun q hq => hq.elim (z9 q) (z10 q)⟩
    | false =>
      refine iteT ⟨_, rfl, _, _, rfl, rfl, _, rfl, ?_⟩
      by_cases w6' : (6 : Int) < (way : Int)
      · rw [decide_eq_true w6']
        have ne : 0 < os.length := by
          cases os with
          | nil => cases hos0
          | cons _ _ => exact Nat.succ_pos _
        refine iteT ⟨_, rfl, _, rfl, _, rfl, _, _, rfl, .inl (SqL.of hol3), p, os.length, k + 2, by rw [nV_len]; rfl, b3.mono (by omega), ne, by omega, by omega, fun r3 H3b hr3 f3 b3b => ?_⟩
        obtain ⟨sh1, hsh1e⟩ := ex_at hr3
        have hsh1 := hos sh1 (List.mem_of_getElem? hsh1e)
        refine ⟨_, _, _, _, rfl, rfl, SqL.of (f3.get hol3 pl), atI_nat (nV_at hsh1e), ?_⟩
        have f03b := fr_two f03 f3
        refine ⟨_, rfl, (by show 3 ≤ sizeLine; decide), fun l1 hl1 => ?_⟩
        have s4 := same_new (o := .lst [.int 0, .int 1, .int 3]) hl1
        have pl1 := nof b3b hl1
        refine ⟨_, rfl, p, 3, k + 4, rfl, (b3b.same s4).mono (by omega), by decide, by decide, by omega, fun r5 H5 hr5 f5 b5 => ?_⟩
        obtain ⟨kd, hat, hkd⟩ := kinds r5 hr5
        refine ⟨_, _, _, _, rfl, rfl, SqL.of (f5.get upd_same pl1), hat, p, kd, _, rfl, hkd, b5, by omega, fun v6 q6 H6 f6 b6 nm6 z6 => ?_⟩
        have f06 := fr_two (fr_two (fr_bag f03b s4) f5) f6
        have z20 : Sz 20 q6 := z6.mono (by decide)
        have z200 : Sz 200 q6 := z6.mono (by decide)
        refine ⟨_, rfl, _, _, rfl, rfl, _, rfl, ?_⟩
        by_cases w4 : (way : Int) < 4
        · rw [decide_eq_true w4]
          exact iteT ⟨_, rfl, (by show 2 ≤ sizeLine; decide), fun t ht => kk t (.click q6) _ (fr_bag f06 (same_new ht)) ((b6.same (same_new ht)).mono (by omega)) (.click (.inl (.inl upd_same)) (nm6.same (same_new ht))) z20⟩
        rw [decide_eq_false w4]
        refine iteF ⟨_, rfl, _, _, rfl, rfl, _, rfl, ?_⟩
        by_cases w6 : (way : Int) < 6
        · rw [decide_eq_true w6]
          exact iteT ⟨_, rfl, (by show 2 ≤ sizeLine; decide), fun t ht => kk t (.out sh1) _ (fr_bag f06 (same_new ht)) ((b6.same (same_new ht)).mono (by omega)) (.out (.inl (.inl upd_same))) hsh1⟩
        rw [decide_eq_false w6]
        refine iteF ⟨_, rfl, rfl, _, rfl, ?_⟩
        by_cases w7 : (way : Int) = 6
        · rw [decide_eq_true (by rw [w7] : V.int (way : Int) = .int 6)]
          exact iteT ⟨_, rfl, _, rfl, (by show 3 ≤ sizeLine; decide), fun t ht => kk t (.gear sh1 q6) _ (fr_bag f06 (same_new ht)) ((b6.same (same_new ht)).mono (by omega)) (.gear (.inl (.inl upd_same)) (nm6.same (same_new ht))) ⟨hsh1, z6⟩⟩
        rw [decide_eq_false (show ¬ V.int (way : Int) = .int 6 from fun z => by injection z with z; omega)]
        refine iteF ⟨_, rfl, _, _, rfl, rfl, _, rfl, ?_⟩
        by_cases w9 : (way : Int) < 9
        · rw [decide_eq_true w9]
          exact iteT ⟨_, rfl, _, rfl, (by show 3 ≤ sizeLine; decide), fun t ht => kk t (.put sh1 q6) _ (fr_bag f06 (same_new ht)) ((b6.same (same_new ht)).mono (by omega)) (.put (.inl (.inl upd_same)) (nm6.same (same_new ht))) ⟨hsh1, z200⟩⟩
        rw [decide_eq_false w9]
        refine iteF ⟨_, rfl, _, _, rfl, rfl, _, rfl, ?_⟩
        by_cases w11 : (way : Int) < 11
        · rw [decide_eq_true w11]
          refine iteT ⟨_, rfl, _, rfl, _, rfl, _, rfl, p, n, _, _, q6, rfl, hn, hn5, b6, by omega, nm6, z6, fun v7 r7 H7 f7 b7 rw7 in7 sm7 => ⟨(by show 3 ≤ sizeLine; decide), fun t ht => ?_⟩⟩
          exact kk t (.wire sh1 r7) _ (fr_bag (fr_two f06 f7) (same_new ht)) ((b7.same (same_new ht)).mono (by omega)) (.wire (.inl (.inl upd_same)) (rw7.same (same_new ht))) ⟨hsh1, in7, sm7⟩
        rw [decide_eq_false w11]
        refine iteF ⟨_, rfl, rfl, _, rfl, ?_⟩
        by_cases w12 : (way : Int) = 11
        · rw [decide_eq_true (by rw [w12] : V.int (way : Int) = .int 11)]
          exact iteT ⟨_, rfl, (by show 2 ≤ sizeLine; decide), fun t ht => kk t (.into sh1) _ (fr_bag f06 (same_new ht)) ((b6.same (same_new ht)).mono (by omega)) (.into (.inl (.inl upd_same))) hsh1⟩
        rw [decide_eq_false (show ¬ V.int (way : Int) = .int 11 from fun z => by injection z with z; omega)]
        refine iteF ⟨_, rfl, p, 40, _, rfl, b6, by decide, by decide, by omega, fun r7 H7 hr7 f7 b7 => ⟨_, _, rfl, rfl, (by show 2 ≤ sizeLine; decide), fun t7 ht7 => ?_⟩⟩
        have s7 := same_new (o := .tup [.int (0 - (r7 : Int)), .int 1]) ht7
        refine ⟨_, rfl, p, 40, _, rfl, b7.same s7, by decide, by decide, by omega, fun r8 H8 hr8 f8 b8 => ⟨(by show 2 ≤ sizeLine; decide), fun t8 ht8 => ⟨_, _, rfl, ?_⟩⟩⟩
        have s8 := same_new (o := .tup [.int (r8 : Int), .int 1]) ht8
        have n7 := ((nm_int (K := g.K) (H := H7) (p := t7) (0 - (r7 : Int))).fr f8).same s8
        have n8 := nm_nat (K := g.K) (H := H8) (p := t8) r8
        refine ⟨_, rfl, _, rfl, (by show 2 ≤ sizeLine; decide), fun l9 hl9 => ?_⟩
        have s9 := same_new (o := .lst [.non, .ref t7]) hl9
        have pl9 := nof (b8.same s8) hl9
        refine ⟨_, rfl, p, 2, _, rfl, (b8.same s8).same s9, by decide, by decide, by omega, fun r9 H9 hr9 f9 b9 => ?_⟩
        obtain ⟨x9, l1', e9, o9, z9⟩ := pick r9 hr9 t7 _ _ ((n7.same s9).fr f9) (sz_int (show (0 - (r7 : Int)).natAbs < 2 ^ 200 from Nat.lt_of_lt_of_le (show (0 - (r7 : Int)).natAbs < 2 ^ 6 by show _ < 64; omega) (Nat.pow_le_pow_right (by decide) (by decide))) (by decide))
        refine ⟨_, _, _, _, rfl, rfl, SqL.of (f9.get upd_same pl9), e9, _, rfl, (by show 2 ≤ sizeLine; decide), fun l10 hl10 => ?_⟩
        have s10 := same_new (o := .lst [.non, .ref t8]) hl10
        have pl10 := nof b9 hl10
        refine ⟨_, rfl, p, 2, _, rfl, b9.same s10, by decide, by decide, by omega, fun r10 H10 hr10 f10 b10 => ?_⟩
        obtain ⟨x10, l2', e10, o10, z10⟩ := pick r10 hr10 t8 _ _ ((((n8.same s9).fr f9).same s10).fr f10) (sz_nat6 (by omega))
        refine ⟨_, _, _, _, rfl, rfl, SqL.of (f10.get upd_same pl10), e10, (by show 4 ≤ sizeLine; decide), fun t ht => ?_⟩
        have f9a : Fr [p] H9 H10 := (Fr.of s10).trans f10 fun _ m => .inl m
        have fA : Fr [p] H H10 := fr_two (fr_two (fr_bag (fr_bag (fr_two (fr_bag (fr_two f06 f7) s7) f8) s8) s9) f9) f9a
        exact kk t (.ends sh1 (l1', l2')) _ (fr_bag fA (same_new ht)) ((b10.same (same_new ht)).mono (by omega)) (.ends (l := (l1', l2')) (.inl (.inl upd_same)) (On.fr (F := []) (Fr.of (same_new ht)) (o9.fr f9a)) (On.fr (F := []) (Fr.of (same_new ht)) o10)) ⟨hsh1, fun q hq => hq.elim (z9 q) (z10 q)⟩
      · rw [decide_eq_false w6']
        refine iteF ?_
        refine ⟨_, rfl, (by show 3 ≤ sizeLine; decide), fun l1 hl1 => ?_⟩
        have s4 := same_new (o := .lst [.int 0, .int 1, .int 3]) hl1
        have pl1 := nof b3 hl1
        refine ⟨_, rfl, p, 3, k + 4, rfl, (b3.same s4).mono (by omega), by decide, by decide, by omega, fun r5 H5 hr5 f5 b5 => ?_⟩
        obtain ⟨kd, hat, hkd⟩ := kinds r5 hr5
        refine ⟨_, _, _, _, rfl, rfl, SqL.of (f5.get upd_same pl1), hat, p, kd, _, rfl, hkd, b5, by omega, fun v6 q6 H6 f6 b6 nm6 z6 => ?_⟩
        have f06 := fr_two (fr_two (fr_bag f03 s4) f5) f6
        have z20 : Sz 20 q6 := z6.mono (by decide)
        have z200 : Sz 200 q6 := z6.mono (by decide)
        refine ⟨_, rfl, _, _, rfl, rfl, _, rfl, ?_⟩
        by_cases w4 : (way : Int) < 4
        · rw [decide_eq_true w4]
          exact iteT ⟨_, rfl, (by show 2 ≤ sizeLine; decide), fun t ht => kk t (.click q6) _ (fr_bag f06 (same_new ht)) ((b6.same (same_new ht)).mono (by omega)) (.click (.inl (.inl upd_same)) (nm6.same (same_new ht))) z20⟩
        rw [decide_eq_false w4]
        refine iteF ⟨_, rfl, _, _, rfl, rfl, _, rfl, ?_⟩
        by_cases w6 : (way : Int) < 6
        · rw [decide_eq_true w6]
          exact iteT ⟨_, rfl, (by show 2 ≤ sizeLine; decide), fun t ht => kk t (.out sh0) _ (fr_bag f06 (same_new ht)) ((b6.same (same_new ht)).mono (by omega)) (.out (.inl (.inl upd_same))) hsh0⟩
        rw [decide_eq_false w6]
        refine iteF ⟨_, rfl, rfl, _, rfl, ?_⟩
        by_cases w7 : (way : Int) = 6
        · rw [decide_eq_true (by rw [w7] : V.int (way : Int) = .int 6)]
          exact iteT ⟨_, rfl, _, rfl, (by show 3 ≤ sizeLine; decide), fun t ht => kk t (.gear sh0 q6) _ (fr_bag f06 (same_new ht)) ((b6.same (same_new ht)).mono (by omega)) (.gear (.inl (.inl upd_same)) (nm6.same (same_new ht))) ⟨hsh0, z6⟩⟩
        rw [decide_eq_false (show ¬ V.int (way : Int) = .int 6 from fun z => by injection z with z; omega)]
        refine iteF ⟨_, rfl, _, _, rfl, rfl, _, rfl, ?_⟩
        by_cases w9 : (way : Int) < 9
        · rw [decide_eq_true w9]
          exact iteT ⟨_, rfl, _, rfl, (by show 3 ≤ sizeLine; decide), fun t ht => kk t (.put sh0 q6) _ (fr_bag f06 (same_new ht)) ((b6.same (same_new ht)).mono (by omega)) (.put (.inl (.inl upd_same)) (nm6.same (same_new ht))) ⟨hsh0, z200⟩⟩
        rw [decide_eq_false w9]
        refine iteF ⟨_, rfl, _, _, rfl, rfl, _, rfl, ?_⟩
        by_cases w11 : (way : Int) < 11
        · rw [decide_eq_true w11]
          refine iteT ⟨_, rfl, _, rfl, _, rfl, _, rfl, p, n, _, _, q6, rfl, hn, hn5, b6, by omega, nm6, z6, fun v7 r7 H7 f7 b7 rw7 in7 sm7 => ⟨(by show 3 ≤ sizeLine; decide), fun t ht => ?_⟩⟩
          exact kk t (.wire sh0 r7) _ (fr_bag (fr_two f06 f7) (same_new ht)) ((b7.same (same_new ht)).mono (by omega)) (.wire (.inl (.inl upd_same)) (rw7.same (same_new ht))) ⟨hsh0, in7, sm7⟩
        rw [decide_eq_false w11]
        refine iteF ⟨_, rfl, rfl, _, rfl, ?_⟩
        by_cases w12 : (way : Int) = 11
        · rw [decide_eq_true (by rw [w12] : V.int (way : Int) = .int 11)]
          exact iteT ⟨_, rfl, (by show 2 ≤ sizeLine; decide), fun t ht => kk t (.into sh0) _ (fr_bag f06 (same_new ht)) ((b6.same (same_new ht)).mono (by omega)) (.into (.inl (.inl upd_same))) hsh0⟩
        rw [decide_eq_false (show ¬ V.int (way : Int) = .int 11 from fun z => by injection z with z; omega)]
        refine iteF ⟨_, rfl, p, 40, _, rfl, b6, by decide, by decide, by omega, fun r7 H7 hr7 f7 b7 => ⟨_, _, rfl, rfl, (by show 2 ≤ sizeLine; decide), fun t7 ht7 => ?_⟩⟩
        have s7 := same_new (o := .tup [.int (0 - (r7 : Int)), .int 1]) ht7
        refine ⟨_, rfl, p, 40, _, rfl, b7.same s7, by decide, by decide, by omega, fun r8 H8 hr8 f8 b8 => ⟨(by show 2 ≤ sizeLine; decide), fun t8 ht8 => ⟨_, _, rfl, ?_⟩⟩⟩
        have s8 := same_new (o := .tup [.int (r8 : Int), .int 1]) ht8
        have n7 := ((nm_int (K := g.K) (H := H7) (p := t7) (0 - (r7 : Int))).fr f8).same s8
        have n8 := nm_nat (K := g.K) (H := H8) (p := t8) r8
        refine ⟨_, rfl, _, rfl, (by show 2 ≤ sizeLine; decide), fun l9 hl9 => ?_⟩
        have s9 := same_new (o := .lst [.non, .ref t7]) hl9
        have pl9 := nof (b8.same s8) hl9
        refine ⟨_, rfl, p, 2, _, rfl, (b8.same s8).same s9, by decide, by decide, by omega, fun r9 H9 hr9 f9 b9 => ?_⟩
        obtain ⟨x9, l1', e9, o9, z9⟩ := pick r9 hr9 t7 _ _ ((n7.same s9).fr f9) (sz_int (show (0 - (r7 : Int)).natAbs < 2 ^ 200 from Nat.lt_of_lt_of_le (show (0 - (r7 : Int)).natAbs < 2 ^ 6 by show _ < 64; omega) (Nat.pow_le_pow_right (by decide) (by decide))) (by decide))
        refine ⟨_, _, _, _, rfl, rfl, SqL.of (f9.get upd_same pl9), e9, _, rfl, (by show 2 ≤ sizeLine; decide), fun l10 hl10 => ?_⟩
        have s10 := same_new (o := .lst [.non, .ref t8]) hl10
        have pl10 := nof b9 hl10
        refine ⟨_, rfl, p, 2, _, rfl, b9.same s10, by decide, by decide, by omega, fun r10 H10 hr10 f10 b10 => ?_⟩
        obtain ⟨x10, l2', e10, o10, z10⟩ := pick r10 hr10 t8 _ _ ((((n8.same s9).fr f9).same s10).fr f10) (sz_nat6 (by omega))
        refine ⟨_, _, _, _, rfl, rfl, SqL.of (f10.get upd_same pl10), e10, (by show 4 ≤ sizeLine; decide), fun t ht => ?_⟩
        have f9a : Fr [p] H9 H10 := (Fr.of s10).trans f10 fun _ m => .inl m
        have fA : Fr [p] H H10 := fr_two (fr_two (fr_bag (fr_bag (fr_two (fr_bag (fr_two f06 f7) s7) f8) s8) s9) f9) f9a
        exact kk t (.ends sh0 (l1', l2')) _ (fr_bag fA (same_new ht)) ((b10.same (same_new ht)).mono (by omega)) (.ends (l := (l1', l2')) (.inl (.inl upd_same)) (On.fr (F := []) (Fr.of (same_new ht)) (o9.fr f9a)) (On.fr (F := []) (Fr.of (same_new ht)) o10)) ⟨hsh0, fun q hq => hq.elim (z9 q) (z10 q)⟩
end
end K79
end

section
set_option linter.all false
set_option maxRecDepth 100000
set_option maxHeartbeats 4000000
/-! K79V3: the clutches are in. -/
namespace K79
open PySem PySem.Spec PyProof.Rows L2

section
variable {g : G}
theorem dp_held {K : PySem.W.Frag} {H : Hp} {v : V} {z : Str} (h : Dp K H v (.tuple [.str z])) : ∃ t, v = .ref t ∧ SqT K H t [.str z] := by
  cases h with
  | tup hs ha =>
    cases ha with
    | cons h1 h2 =>
      cases h1
      cases h2
      exact ⟨_, rfl, hs⟩
theorem dp_told {K : PySem.W.Frag} {H : Hp} {v : V} (h : Dp K H v (.tuple [.str "told", .none])) : ∃ t, v = .ref t ∧ SqT K H t [.str "told", .non] := by
  cases h with
  | tup hs ha =>
    cases ha with
    | cons h1 h2 =>
      cases h1
      cases h2 with
      | cons h3 h4 =>
        cases h3
        cases h4
        exact ⟨_, rfl, hs⟩
/-- the bench at the i-th of the three deeds -/
def clutch (b : B) (k : Nat) : Nat → B
  | 0 => b
  | 1 => b
  | 2 => { b with outs := b.outs.set k true, past := b.past + 1 }
  | _ => { b with past := b.past + 2 }
def word3 (k : Nat) : Nat → Deed
  | 0 => .into k
  | 1 => .out k
  | _ => .into k
def cell3 : Nat → List V
  | 0 => [.str "Held"]
  | _ => [.str "told", .non]
theorem getD_b {l : List Bool} {k : Nat} (h : ∀ o ∈ l, o = false) : l.getD k false = false := by
  rw [List.getD_eq_getElem?_getD]
  cases e : l[k]? with
  | none => rfl
  | some o => exact h o (List.mem_of_getElem? e)
theorem set_self {l : List Bool} {k : Nat} (h : ∀ o ∈ l, o = false) : (l.set k true).set k false = l := by
  refine List.ext_getElem? fun i => ?_
  by_cases e : k = i
  · subst e
    by_cases hk : k < l.length
    · rw [List.getElem?_set_self (by rw [List.length_set]; exact hk)]
      obtain ⟨o, ho⟩ := ex_at hk
      rw [ho, h o (List.mem_of_getElem? ho)]
    · rw [List.getElem?_eq_none (by rw [List.length_set, List.length_set]; omega), List.getElem?_eq_none (by omega)]
  · rw [List.getElem?_set_ne e, List.getElem?_set_ne e]
/-- each of the three deeds: where it leads, what is told -/
theorem clutch_go {b : B} (h : ∀ o ∈ b.outs, o = false) {k : Nat} (hk : k < b.outs.length) {i : Nat} (hi : i < 3) : after (clutch b k i) ((word3 k i).run (clutch b k i)) = clutch b k (i + 1) ∧ ∀ D, ResD ((word3 k i).run (clutch b k i)) D → (i = 0 → D = .tuple [.str "Held"]) ∧ (i ≠ 0 → D = .tuple [.str "told", .none]) := by
  have g0 := getD_b (k := k) h
  have g1 : (b.outs.set k true).getD k false = true := by
    rw [List.getD_eq_getElem?_getD, List.getElem?_set_self hk]
    rfl
  rcases (show i = 0 ∨ i = 1 ∨ i = 2 by omega) with e | e | e <;> subst e
  · have r : (word3 k 0).run (clutch b k 0) = .no "Held" := by
      show B.into b k = _
      unfold B.into
      rw [if_neg (by rw [g0]; exact Bool.false_ne_true)]
    rw [r]
    exact ⟨rfl, fun D hD => ⟨fun _ => hD, fun z => absurd rfl z⟩⟩
  · have r : (word3 k 1).run (clutch b k 1) = .ok none (clutch b k 2) := by
      show B.out b k = _
      unfold B.out
      rw [if_pos g0]
      rfl
    rw [r]
    exact ⟨rfl, fun D hD => ⟨(fun z => nomatch z), fun _ => hD⟩⟩
  · have r : (word3 k 2).run (clutch b k 2) = .ok none (clutch b k 3) := by
      show B.into (clutch b k 2) k = _
      unfold B.into
      rw [if_pos (show (clutch b k 2).outs.getD k false = true from g1)]
      show Res.ok none { b with outs := (b.outs.set k true).set k false, past := b.past + 1 + 1 } = Res.ok none { b with past := b.past + 2 }
      rw [set_self h]
    rw [r]
    exact ⟨rfl, fun D hD => ⟨(fun z => nomatch z), fun _ => hD⟩⟩
theorem clutch_wf {b : B} (wf : WF b) (k i : Nat) : WF (clutch b k i) := by
  have more : ∀ n, ∀ q ∈ b.sums, Sz (402 * (b.past + n) + 1) q := fun n q hq => (wf.zu q hq).mono (by omega)
  match i with
  | 0 => exact wf
  | 1 => exact wf
  | 2 => exact ⟨wf.n1, wf.n5, wf.ls, wf.lu, by show (b.outs.set k true).length = _; rw [List.length_set]; exact wf.lo, wf.ll, wf.m, wf.zr, wf.zs, more 1, wf.zl⟩
  | i + 3 => exact ⟨wf.n1, wf.n5, wf.ls, wf.lu, wf.lo, wf.ll, wf.m, wf.zr, wf.zs, more 2, wf.zl⟩
theorem clutch_past (b : B) (k i : Nat) : (clutch b k i).past ≤ b.past + 2 ∧ (clutch b k i).rows = b.rows := by
  match i with
  | 0 => exact ⟨Nat.le_add_right _ _, rfl⟩
  | 1 => exact ⟨Nat.le_add_right _ _, rfl⟩
  | 2 => exact ⟨by show b.past + 1 ≤ _; omega, rfl⟩
  | i + 3 => exact ⟨Nat.le_refl _, rfl⟩
def words3 : List V := [.str "into", .str "out", .str "into"]
def spClutches (K : PySem.W.Frag) : Sp := fun vs H Q _ => ∃ (a : Ad) (b : B) (n : Nat), vs = [.ref a.p, .int n] ∧ BenchAt K H a b ∧ WF b ∧ (∀ o ∈ b.outs, o = false) ∧ n = b.rows.length ∧ b.past = 0 ∧ ∀ a' H', Moved K H a H' a' { b with past := 2 * n } → Q (.bl true) H'
abbrev s__law_clutches_in : Stmt := top 82
theorem sc__law_clutches_in : FnScope ["_law_bench", "_law_many", "_law_k", "_law_told", "_law_word"] ["_law_bench", "_law_many"] (defScope s__law_clutches_in) := ⟨rfl, rfl, rfl, by decide +kernel, rfl, by decide +kernel, by decide +kernel⟩
theorem ok_law_clutches_in (T : TxB g) (F : Def g "_law_clutches_in" s__law_clutches_in ["_law_bench", "_law_many"]) (G__law_got : Has g CX0 8 "_law_got" ["_law_bench", "_law_deed"] (spGot g.K)) (G__law_same : Has g CX0 7 "_law_same" ["_law_one", "_law_other"] (spSame g.K 6)) :
    Has g CX0 9 "_law_clutches_in" ["_law_bench", "_law_many"] (spClutches g.K) := by
  refine F.ok sc__law_clutches_in (fun vs H Q E h => ?_) (fun f cdv A outer s H vs Q E hr h => ?_)
  · obtain ⟨a, b, n, rfl, _⟩ := h
    rfl
  · obtain ⟨a, b, n, rfl, hb, wf, ho, hn, hp0, kk⟩ := h
    refine ⟨_, (pss_cons (ps_for PassesOwn.never rfl (pi_range1 (by rfl) T.range (pa_cons (pv 1) pa_nil)) (pg_name (i := 2) sc__law_clutches_in.nd rfl (Or.inr rfl))
      (pss_cons (ps_setLc (i := 3) (own := [("_law_word", 4)]) (g := gName 4) (tt := tYes) rfl sc__law_clutches_in.nd rfl rfl (sw_true rfl rfl rfl (by decide +kernel)) (pi_list (pe_lst (pa_cons pe_str (pa_cons pe_str (pa_cons pe_str pa_nil))))) (blkOk_by (own := [("_law_word", 4)]) (N := ["_law_bench", "_law_many", "_law_k", "_law_told", "_law_word"]) (sc := defScope s__law_clutches_in) (by decide +kernel)) (fun _ _ _ _ _ => (pg_name (i := 4) sc__law_clutches_in.nd rfl (Or.inl rfl))) (fun _ _ _ _ _ => pts_nil) (fun _ _ _ _ _ => (pe_has G__law_got hr (by decide) pass0 (pa_cons (pv 0) (pa_cons (pe_tup (pa_cons (pv 4) (pa_cons (pv 2) pa_nil))) pa_nil)))))
      (pss_one (ps_if (pt_not (pt_val (pe_has G__law_same hr (by decide) pass0 (pa_cons (pv 3) (pa_cons (pe_lst (pa_cons (pe_tup (pa_cons pe_str pa_nil)) (pa_cons (pe_tup (pa_cons pe_str (pa_cons pe_non pa_nil))) (pa_cons (pe_tup (pa_cons pe_str (pa_cons pe_non pa_nil))) pa_nil)))) pa_nil))))) (pss_one (ps_ret pe_bl)) pss_nil))))
      (pss_one (ps_ret pe_bl))), ?_⟩
    have n5 := wf.n5
    refine ⟨_, rfl, _, rfl, by omega, by omega, for_it (walk_range (lo := 0) (n := _))
      (fun i σ H' => ∃ x2 x3 a', σ = [some (.ref a.p), some (.int n), x2, x3, none] ∧ Moved g.K H a H' a' { b with past := 2 * i }) ⟨none, none, a, rfl, ?_⟩ (fun _ _ _ _ _ => True.intro) ?_ ?_⟩
    · have e : ({ b with past := 2 * 0 } : B) = b := by
        cases b
        cases hp0
        rfl
      rw [e]
      exact Moved.of hb (Same.refl _)
    · rintro i x σ H3 H4 hi ⟨x2, x3, a1, rfl, m1⟩ ⟨rfl, hx⟩
      obtain rfl := range_at hx
      rw [Int.toNat_natCast] at hi
      have wf1 : WF { b with past := 2 * i } := ⟨wf.n1, wf.n5, wf.ls, wf.lu, wf.lo, wf.ll, wf.m, wf.zr, wf.zs, fun q hq => (wf.zu q hq).mono (by rw [hp0]; omega), wf.zl⟩
      have hio : i < b.outs.length := by rw [wf.lo]; omega
      refine ⟨(by show 3 ≤ sizeLine; decide), fun wl hwl => ⟨_, rfl, ⟨_, SqL.of upd_same⟩, fun D hD => lc_it (walk_list (K := g.K) (a := wl) (xs := words3))
        (fun j H' => ∃ a2 ys, Moved g.K (upd H4 wl (.lst words3)) a1 H' a2 (clutch { b with past := 2 * i } i j) ∧ H' wl = some (.lst words3) ∧ D ∉ a2.fp ∧ H' D = some (.lst ys) ∧ ys.length = j ∧ ∀ (l : Nat) (y : V), ys[l]? = some y → ∃ t, y = .ref t ∧ SqT g.K H' t (cell3 l))
        ?_ (fun j H' _ ⟨_, _, _, h, _⟩ => SqL.of h) ?_ ?_⟩⟩
      · have s1 := same_new (o := .lst words3) hwl
        have s2 := same_new (o := .lst []) hD
        have hb1 := m1.bench.same s1
        exact ⟨a1, [], Moved.of hb1 s2, s2 _ _ upd_same, fun z => hb1.there D z hD, upd_same, rfl, fun l y e => by simp at e⟩
      · rintro j x H5 H6 hj ⟨a2, ys, m2, hw2, hDa, hys, hyl, hy⟩ ⟨rfl, hx⟩
        have hj3 : j < 3 := hj
        obtain ⟨go1, go2⟩ := clutch_go (b := { b with past := 2 * i }) ho hio hj3
        have ok1 : (word3 i j).Ok (clutch { b with past := 2 * i } i j) := by
          have e := (clutch_past { b with past := 2 * i } i j).2
          have lt : i < (clutch { b with past := 2 * i } i j).rows.length := by rw [e]; show i < b.rows.length; omega
          match j with
          | 0 => exact lt
          | 1 => exact lt
          | j + 2 => exact lt
        have hpst := (clutch_past { b with past := 2 * i } i j).1
        have hap : a2.p = a.p := m2.p.trans m1.p
        refine ⟨rfl, _, rfl, ?_⟩
        refine ⟨_, rfl, _, rfl, (by show 2 ≤ sizeLine; decide), fun t ht => ?_⟩
        have s3 := same_new (o := .tup [x, .int i]) ht
        have hb3 := m2.bench.same s3
        refine ⟨a2, clutch { b with past := 2 * i } i j, t, word3 i j, by rw [hap]; rfl, hb3, clutch_wf wf1 i j, by have : (clutch { b with past := 2 * i } i j).past ≤ 2 * i + 2 := hpst; omega, ?_, ok1, fun a3 H7 v D3 m3 dv rd => ?_⟩
        · match j, hj3, hx with
          | 0, _, hx => cases hx; exact .into (.inl (.inl upd_same))
          | 1, _, hx => cases hx; exact .out (.inl (.inl upd_same))
          | 2, _, hx => cases hx; exact .into (.inl (.inl upd_same))
        · rw [go1] at m3
          have mt := (m2.trans (Moved.of m2.bench s3)).trans m3
          have hwl0 : ∀ {a4 : Ad}, a4.fp = a4.fp → True := fun _ => True.intro
          have wln : wl ∉ a2.fp := fun z => by
            rcases m2.fp wl z with h | h
            · exact m1.bench.there wl h hwl
            · rw [upd_same] at h
              cases h
          have hD7 := m3.fr.get (s3 _ _ hys) hDa
          have hw7 := m3.fr.get (s3 _ _ hw2) wln
          have Dn3 : D ∉ a3.fp := fun z => by
            rcases m3.fp D z with h | h
            · exact hDa h
            · rw [s3 _ _ hys] at h
              cases h
          have nDw : wl ≠ D := fun z => by
            rw [← z, upd_same] at hD
            cases hD
          obtain ⟨r1, r2⟩ := go2 D3 rd
          have vt : ∃ t, v = .ref t ∧ SqT g.K H7 t (cell3 j) := by
            match j with
            | 0 =>
              rw [r1 rfl] at dv
              exact dp_held dv
            | j + 1 =>
              rw [r2 (Nat.succ_ne_zero j)] at dv
              exact dp_told dv
          have fw : Fr [D] H7 (upd H7 D (.lst (ys ++ [v]))) := Fr.wr hD7 nz_lst (by simp)
          have hb7 := m3.bench.fr fw fun y hy z => by
            rw [List.mem_singleton.mp z] at hy
            exact Dn3 hy
          have mf : Moved g.K (upd H4 wl (.lst words3)) a1 (upd H7 D (.lst (ys ++ [v]))) a3 (clutch { b with past := 2 * i } i (j + 1)) :=
            ⟨mt.fr.trans fw fun y hy => .inr (by rw [List.mem_singleton.mp hy]; exact hD), hb7, mt.p, mt.fp⟩
          refine ⟨ys, hD7, small1000 (by omega), a3, ys ++ [v], mf, by rw [upd_ne nDw]; exact hw7, Dn3, upd_same, by rw [List.length_append, hyl]; rfl, fun l y hl => ?_⟩
          by_cases hlt : l < ys.length
          · rw [List.getElem?_append_left hlt] at hl
            obtain ⟨t2, e1, e2⟩ := hy l y hl
            exact ⟨t2, e1, fw.tup (m3.fr.tup (Same.tup s3 e2))⟩
          · rw [List.getElem?_append_right (by omega)] at hl
            have hl0 : l - ys.length = 0 := by
              have := (List.getElem?_eq_some_iff.mp hl).1
              simp at this
              omega
            rw [hl0] at hl
            cases hl
            have : l = j := by omega
            subst this
            obtain ⟨t2, e1, e2⟩ := vt
            exact ⟨t2, e1, fw.tup e2⟩
      · rintro H5 ⟨a2, ys, m2, hw2, hDa, hys, hyl, hy⟩
        have hyl3 : ys.length = 3 := hyl
        obtain ⟨y0, e0⟩ := ex_at (xs := ys) (i := 0) (by omega)
        obtain ⟨y1, e1⟩ := ex_at (xs := ys) (i := 1) (by omega)
        obtain ⟨y2, e2⟩ := ex_at (xs := ys) (i := 2) (by omega)
        obtain ⟨c0, rfl, u0⟩ := hy 0 y0 e0
        obtain ⟨c1, rfl, u1⟩ := hy 1 y1 e1
        obtain ⟨c2, rfl, u2⟩ := hy 2 y2 e2
        have ey : ys = [.ref c0, .ref c1, .ref c2] := by
          match ys, hyl3 with
          | [p, q, r], _ => cases e0; cases e1; cases e2; rfl
        subst ey
        refine ⟨_, rfl, (by show 1 ≤ sizeLine; decide), fun d0 hd0 => ⟨(by show 2 ≤ sizeLine; decide), fun d1 hd1 => ⟨(by show 2 ≤ sizeLine; decide), fun d2 hd2 => ⟨(by show 3 ≤ sizeLine; decide), fun dl hdl => ?_⟩⟩⟩⟩
        have q0 := same_new (o := .tup [.str "Held"]) hd0
        have q1 := same_new (o := .tup [.str "told", .non]) hd1
        have q2 := same_new (o := .tup [.str "told", .non]) hd2
        have q3 := same_new (o := .lst [.ref d0, .ref d1, .ref d2]) hdl
        have qq := q0.trans (q1.trans (q2.trans q3))
        have k1 : ∀ {K : PySem.W.Frag} {Hz : Hp} {t : Addr}, SqT K Hz t [.str "told", .non] → Dp K Hz (.ref t) (.tuple [.str "told", .none]) := fun t => .tup t (.cons (.str _) (.cons .non .nil))
        have k0 : ∀ {K : PySem.W.Frag} {Hz : Hp} {t : Addr}, SqT K Hz t [.str "Held"] → Dp K Hz (.ref t) (.tuple [.str "Held"]) := fun t => .tup t (.cons (.str _) .nil)
        have dA : Dp g.K _ (.ref D) (.list [.tuple [.str "Held"], .tuple [.str "told", .none], .tuple [.str "told", .none]]) := .lst (SqL.of (qq _ _ hys)) (.cons (k0 (Same.tup qq u0)) (.cons (k1 (Same.tup qq u1)) (.cons (k1 (Same.tup qq u2)) .nil)))
        have dB : Dp g.K _ (.ref dl) (.list [.tuple [.str "Held"], .tuple [.str "told", .none], .tuple [.str "told", .none]]) := .lst (SqL.of upd_same) (.cons (k0 (.inl (.inl ((q1.trans (q2.trans q3)) _ _ upd_same)))) (.cons (k1 (.inl (.inl ((q2.trans q3) _ _ upd_same)))) (.cons (k1 (.inl (.inl (q3 _ _ upd_same)))) .nil)))
        refine ⟨.ref D, .ref dl, _, rfl, dA, dB, by decide +kernel, rfl, by decide, by decide, fun H6 s6 => ⟨_, rfl, iteF ⟨_, _, a2, rfl, ?_⟩⟩⟩
        have m3 := (m1.trans (Moved.of m1.bench (same_new (o := .lst words3) hwl))).trans (m2.trans (Moved.of m2.bench (qq.trans s6)))
        exact m3
    · rintro σ H3 ⟨x2, x3, a1, rfl, m1⟩
      rw [Int.toNat_natCast] at m1
      exact kk a1 H3 m1
end
end K79
end

section
set_option linter.all false
set_option maxRecDepth 100000
set_option maxHeartbeats 4000000
/-! K79V4: a bench moved by drawn deeds. -/
namespace K79
open PySem PySem.Spec PyProof.Rows L2

theorem passN0 {X : Cx} : Passes (L2N.CX X.prog X.w) X E0 := fun _ _ _ _ _ _ _ ⟨_, _, _, _, _, _, _, _, _, _, _, _, h⟩ => h.elim
section
variable {g : G}
theorem Row.small_up {n m n' m' : Nat} {r : Row} (h : r.small n m) (h1 : n ≤ n') (h2 : m ≤ m') : r.small n' m' := by
  cases r with
  | src s => exact h.mono h1
  | gear s x j => exact ⟨h.1.mono h1, h.2.mono h2⟩
  | adder s i j => exact h.mono h1
  | disc s c t => exact h.mono h1
theorem WF.start {rows : List Row} (m : Mach rows) (h1 : 1 ≤ rows.length) (h5 : rows.length ≤ 5) (h : ∀ r ∈ rows, r.small 200 4) : WF (fresh rows) := by
  refine ⟨h1, h5, List.length_map .., List.length_map .., List.length_map .., List.length_map .., m, h, fun q hq => ?_, fun q hq => ?_, fun l hl q hq => ?_⟩
  · exact starts_sz h q hq
  · obtain ⟨x, hx, rfl⟩ := List.mem_map.mp hq
    exact sz_zero
  · obtain ⟨x, hx, rfl⟩ := List.mem_map.mp hl
    rcases hq with hq | hq <;> cases hq
/-- a deed's word, and its shaft -/
def Deed.word : Deed → Str
  | .click _ => "click"
  | .out _ => "out"
  | .into _ => "into"
  | .put _ _ => "put"
  | .wire _ _ => "wire"
  | .gear _ _ => "gear"
  | .ends _ _ => "ends"
  | .undo => "undo"
theorem DeedAt.word {K : PySem.W.Frag} {H : Hp} {t : Addr} {e : Deed} {n : Nat} (h : DeedAt K H t e) (hd : e.Drawn n) : ∃ l, SqT K H t (.str e.word :: l) ∧ (e.word = "out" ∨ e.word = "into" → ∃ k, l = [.int (k : Nat)] ∧ k < n) ∧ (PyData.str e.word).canLay0 = true := by
  have no : ∀ {P : Prop} {z : Str}, z ≠ "out" → z ≠ "into" → (z = "out" ∨ z = "into" → P) := fun h1 h2 h => h.elim (fun e => absurd e h1) fun e => absurd e h2
  cases h with
  | click t _ => exact ⟨_, t, no (show ("click" : Str) ≠ "out" by decide +kernel) (show ("click" : Str) ≠ "into" by decide +kernel), show (PyData.str "click").canLay0 = true by decide +kernel⟩
  | out t => exact ⟨_, t, fun _ => ⟨_, rfl, hd⟩, show (PyData.str "out").canLay0 = true by decide +kernel⟩
  | into t => exact ⟨_, t, fun _ => ⟨_, rfl, hd⟩, show (PyData.str "into").canLay0 = true by decide +kernel⟩
  | put t _ => exact ⟨_, t, no (show ("put" : Str) ≠ "out" by decide +kernel) (show ("put" : Str) ≠ "into" by decide +kernel), show (PyData.str "put").canLay0 = true by decide +kernel⟩
  | wire t _ => exact ⟨_, t, no (show ("wire" : Str) ≠ "out" by decide +kernel) (show ("wire" : Str) ≠ "into" by decide +kernel), show (PyData.str "wire").canLay0 = true by decide +kernel⟩
  | gear t _ => exact ⟨_, t, no (show ("gear" : Str) ≠ "out" by decide +kernel) (show ("gear" : Str) ≠ "into" by decide +kernel), show (PyData.str "gear").canLay0 = true by decide +kernel⟩
  | ends t _ _ => exact ⟨_, t, no (show ("ends" : Str) ≠ "out" by decide +kernel) (show ("ends" : Str) ≠ "into" by decide +kernel), show (PyData.str "ends").canLay0 = true by decide +kernel⟩
  | undo t => exact hd.elim
theorem resD_ok {b : B} {e : Deed} {D : PyData} (wf : WF b) (h : ResD (e.run b) D) : SeqAt.shaped D = true := by
  have fine : ∀ {n : Nat}, OkD n D → n ≤ 64 → SeqAt.shaped D = true := fun h hn => h.shaped hn
  generalize hR : e.run b = R at h
  cases R with
  | ok ms b' =>
    cases ms with
    | none =>
      cases h
      decide +kernel
    | some ms =>
      cases h
      have hl : ms.length ≤ 1000 := by
        cases e with
        | click q =>
          simp only [Deed.run, B.click] at hR
          split at hR <;> (try split at hR) <;> cases hR
          rw [moves_len]
          have := wf.n5
          omega
        | out k => simp only [Deed.run, B.out] at hR; split at hR <;> cases hR
        | into k => simp only [Deed.run, B.into] at hR; split at hR <;> cases hR
        | put k q => simp only [Deed.run, B.put] at hR; split at hR <;> (try split at hR) <;> cases hR
        | wire k r => simp only [Deed.run, B.wire] at hR; split at hR <;> (try split at hR) <;> (try split at hR) <;> cases hR
        | gear k q => simp only [Deed.run, B.gear] at hR; split at hR <;> cases hR
        | ends k l => simp only [Deed.run, B.ends] at hR; split at hR <;> cases hR
        | undo => cases hR
      exact (okD2 ((okD_str (by decide +kernel)).mono (by decide)) (okD_map okD_nm hl)).shaped (by decide)
  | stopped k =>
    cases h
    exact (okD2 (okD_str (by decide +kernel)) (okD_int _)).shaped (by decide)
  | ring =>
    obtain ⟨ys, rfl⟩ := h
    have sh := shaped_ints ys
    unfold SeqAt.shaped at sh ⊢
    rw [Bool.and_eq_true] at sh ⊢
    refine ⟨?_, decide_eq_true ?_⟩
    · show ((PyData.str "Ring").canLay0 && ((PyData.list (ys.map PyData.int)).canLay0 && true)) = true
      rw [sh.1]
      decide +kernel
    · have h2 : PyData.depthAll (ys.map PyData.int) ≤ 0 := depth_all _ fun d hd => by
        obtain ⟨i, _, rfl⟩ := List.mem_map.mp hd
        exact Nat.le_refl 0
      show max 0 (max (PyData.depthAll (ys.map PyData.int) + 1) 0) + 1 ≤ 64
      omega
  | no x =>
    cases h
    have hx := Deed.no hR
    have key : ∀ y ∈ raised5, (PyData.str y).canLay0 = true := by decide +kernel
    exact (okD1 (okD_str (key _ hx))).shaped (by decide)
theorem ends_self {b : B} {k : Nat} {q : Rat} (h : b.stood.getD k 0 = q) : b.ends k (some q, some q) = .ok none { b with lims := b.lims.set k (some q, some q), past := b.past + 1 } := by
  have nb : ¬ beyond (some q, some q) q = true := by
    show ¬ (decide (q < q) || decide (q < q)) = true
    rw [decide_eq_false (Rat.lt_irrefl : ¬ q < q)]
    exact Bool.false_ne_true
  unfold B.ends
  rw [h, if_neg nb]
/-- a bench new to H -/
structure NewB (K : PySem.W.Frag) (H H' : Hp) (p : Addr) (a : Ad) (b : B) (n : Nat) : Prop where
  fr : Fr [p] H H'
  bench : BenchAt K H' a b
  wf : WF b
  len : b.rows.length = n
  nw : ∀ x ∈ a.fp, H x = none
  p0 : H p ≠ none
  p1 : H' p ≠ none
theorem NewB.pn {K : PySem.W.Frag} {H H1 : Hp} {p : Addr} {a : Ad} {b : B} {n : Nat} (h : NewB K H H1 p a b n) : p ∉ a.fp := fun z => h.p0 (h.nw p z)
theorem NewB.moved {K : PySem.W.Frag} {H H1 H2 : Hp} {p : Addr} {a a' : Ad} {b b' : B} {n : Nat} (h : NewB K H H1 p a b n) (m : Moved K H1 a H2 a' b') (wf : WF b') (hn : b'.rows.length = n) : NewB K H H2 p a' b' n := by
  refine ⟨h.fr.trans m.fr fun x hx => .inr (h.nw x hx), m.bench, wf, hn, fun x hx => ?_, h.p0, ?_⟩
  · rcases m.fp x hx with z | z
    · exact h.nw x z
    · cases z2 : H x with
      | none => rfl
      | some o =>
        by_cases e : x ∈ [p]
        · rw [List.mem_singleton.mp e] at z
          exact absurd z h.p1
        · rw [h.fr.get z2 e] at z
          cases z
  · cases z : H1 p with
    | none => exact absurd z h.p1
    | some o => rw [m.fr.get z h.pn]; simp
theorem NewB.step {K : PySem.W.Frag} {H H1 H2 : Hp} {p : Addr} {a : Ad} {b : B} {n k : Nat} (h : NewB K H H1 p a b n) (f : Fr [p] H1 H2) (hb : Bag H2 p k) : NewB K H H2 p a b n := by
  refine ⟨fr_two h.fr f, h.bench.fr f fun x hx z => h.pn (by rw [← List.mem_singleton.mp z]; exact hx), h.wf, h.len, h.nw, h.p0, ?_⟩
  obtain ⟨_, _, _, e, _⟩ := hb
  rw [e]
  simp
theorem NewB.same {K : PySem.W.Frag} {H H1 H2 : Hp} {p : Addr} {a : Ad} {b : B} {n : Nat} (h : NewB K H H1 p a b n) (s : Same H1 H2) : NewB K H H2 p a b n := by
  refine ⟨fr_bag h.fr s, h.bench.same s, h.wf, h.len, h.nw, h.p0, ?_⟩
  cases z : H1 p with
  | none => exact absurd z h.p1
  | some o => rw [s _ _ z]; simp
theorem Bag.deed {K : PySem.W.Frag} {H H1 H2 : Hp} {p : Addr} {a a' : Ad} {b b' : B} {n k : Nat} (h : NewB K H H1 p a b n) (m : Moved K H1 a H2 a' b') (hb : Bag H1 p k) : Bag H2 p k := hb.fr m.fr h.pn
theorem after_ok {b : B} {e : Deed} (wf : WF b) (ho : e.Ok b) : WF (after b (e.run b)) ∧ (after b (e.run b)).rows.length = b.rows.length ∧ (after b (e.run b)).past ≤ b.past + 1 := by
  generalize hR : e.run b = R
  cases R with
  | ok ms b' =>
    obtain ⟨h1, h2⟩ := Deed.past hR
    exact ⟨Deed.wf wf ho hR, h2, Nat.le_of_eq h1⟩
  | stopped k => exact ⟨wf, rfl, Nat.le_succ _⟩
  | ring => exact ⟨wf, rfl, Nat.le_succ _⟩
  | no x => exact ⟨wf, rfl, Nat.le_succ _⟩
theorem NewB.none {K : PySem.W.Frag} {H H1 : Hp} {p x : Addr} {a : Ad} {b : B} {n : Nat} (h : NewB K H H1 p a b n) (hx : H1 x = Option.none) : H x = Option.none := by
  cases z : H x with
  | none => rfl
  | some o =>
    by_cases e : x ∈ [p]
    · rw [List.mem_singleton.mp e] at hx
      exact absurd hx h.p1
    · rw [h.fr.get z e] at hx
      cases hx
abbrev toldN : PyData := .tuple [.str "told", .none]
theorem told_none {r : Res} {D : PyData} (h : ResD r D) (e : PyData.eqv D toldN = true) : D = toldN := by
  cases r with
  | ok ms b =>
    cases ms with
    | none => exact h
    | some ms =>
      cases h
      simp [PyData.eqv, PyData.eqvAll, toldN] at e
  | stopped k => cases h; simp [PyData.eqv, PyData.eqvAll, toldN] at e
  | ring => obtain ⟨ys, rfl⟩ := h; simp [PyData.eqv, PyData.eqvAll, toldN] at e
  | no x => cases h; simp [PyData.eqv, PyData.eqvAll, toldN] at e
theorem dp_toldN {K : PySem.W.Frag} {H : Hp} {t : Addr} (h : SqT K H t [.str "told", .non]) : Dp K H (.ref t) toldN := .tup h (.cons (.str _) (.cons .non .nil))
theorem sh_toldN : SeqAt.shaped toldN = true := by decide +kernel
theorem sh_str {z : Str} (h : (PyData.str z).canLay0 = true) : SeqAt.shaped (.str z) = true := (okD_str h).shaped (by decide)
theorem sh_int (i : Int) : SeqAt.shaped (.int i) = true := (okD_int i).shaped (by decide)
theorem eqv_str (x y : Str) : PyData.eqv (.str x) (.str y) = true → x = y := fun h => by
  have h2 : (x == y) = true := h
  exact eq_of_beq h2
def spMovedL (K : PySem.W.Frag) : Sp := fun vs H Q _ => ∃ (p m : Addr) (us : List V) (rows : List Row) (k : Nat), vs = [.ref p, .ref m] ∧ Bag H p k ∧ k ≤ 90000 ∧ m ≠ p ∧ H m = some (.lst us) ∧ Paired (Rw K H) us rows ∧ Mach rows ∧ 1 ≤ rows.length ∧ rows.length ≤ 5 ∧ (∀ r ∈ rows, r.small 4 4) ∧
  ∀ a b H', NewB K H H' p a b rows.length → Bag H' p (k + 1000) → b.past ≤ 20 → Q (.ref a.p) H'
abbrev s__law_moved : Stmt := top 79
theorem sc__law_moved : FnScope ["_law_bag_here", "_law_machine_here", "_law_bench", "_law_outs", "_law_step", "_law_deed", "_law_got_here", "_law_turn", "_law_number_here", "_law_here", "_law_shaft", "_law_k"] ["_law_bag_here", "_law_machine_here"] (defScope s__law_moved) := ⟨rfl, rfl, rfl, by decide +kernel, rfl, by decide +kernel, by decide +kernel⟩
theorem ok_law_moved (T : TxB g) (F : Def g "_law_moved" s__law_moved ["_law_bag_here", "_law_machine_here"]) (G_Bench : HasC g CX0 1 "Bench" ["self", "machine"] (spInit g.K)) (G__law_take : Has g CX0 1 "_law_take" ["_law_bag_here", "_law_many"] (spTake g.K)) (G__law_low : Has g CX0 1 "_law_low" ["_law_top", "_law_below"] (spFraction g.K))
    (G__law_any_deed : Has g CX0 4 "_law_any_deed" ["_law_bag_here", "_law_many", "_law_outs"] (spAnyDeed g.K)) (G__law_got : Has g CX0 8 "_law_got" ["_law_bench", "_law_deed"] (spGot g.K)) (G_Bench_stands : HasM g CX0 1 (BC g) "stands" ["self"] (spStands g.K))
    (G_Bench_ends : HasM g (CXN g) 3 (BC g) "ends" ["self", "shaft", "least", "greatest"] (spEnds g.K)) : Has g CX0 9 "_law_moved" ["_law_bag_here", "_law_machine_here"] (spMovedL g.K) := by
  refine F.ok sc__law_moved (fun vs H Q E h => ?_) (fun f cdv A outer s H vs Q E hr h => ?_)
  · obtain ⟨p, m, us, rows, k, rfl, _⟩ := h
    rfl
  · obtain ⟨p, m, us, rows, k, rfl, hb, hk, hmp, hm, pm, mach, h1, h5, hz, kk⟩ := h
    refine ⟨_, (pss_cons (ps_set (i := 2) sc__law_moved.nd rfl (Or.inl rfl) (pe_hasC G_Bench hr (by decide) pass0 (pa_cons (pv 1) pa_nil)))
      (pss_cons (ps_set (i := 3) sc__law_moved.nd rfl (Or.inl rfl) (pe_lst pa_nil))
      (pss_cons (ps_for PassesOwn.never rfl (pi_range1 (by rfl) T.range (pa_cons (pe_op op_add pe_int (pe_has G__law_take hr (by decide) pass0 (pa_cons (pv 0) (pa_cons pe_int pa_nil)))) pa_nil)) (pg_name (i := 4) sc__law_moved.nd rfl (Or.inl rfl))
      (pss_cons (ps_set (i := 5) sc__law_moved.nd rfl (Or.inr rfl) (pe_has G__law_any_deed hr (by decide) pass0 (pa_cons (pv 0) (pa_cons (pe_callB (call_lenK (K := g.K)) (by rfl) T.len PySem.boot_len (pa_cons (pv 1) pa_nil)) (pa_cons (pv 3) pa_nil)))))
      (pss_cons (ps_set (i := 6) sc__law_moved.nd rfl (Or.inl rfl) (pe_has G__law_got hr (by decide) pass0 (pa_cons (pv 2) (pa_cons (pv 5) pa_nil))))
      (pss_cons (ps_if (PW.pt (pw_and (pt_cmpR (op_eqK (K := g.K) hr.units) (pv 6) (pe_tup (pa_cons pe_str (pa_cons pe_non pa_nil))) (nomark _)) (pw_and1 (pt_cmpR (op_eqK (K := g.K) hr.units) (pe_ix (ix_tupK (K := g.K)) (pv 5) pe_int (fun _ _ => rfl)) pe_str (nomark _))))) (pss_one (ps_expr (pe_bm PySem.F.plainAttrs_list PySem.F.slot_list_append PySem.F.type_list_append mt_append (pv 3) (pa_cons (pe_ix (ix_tupK (K := g.K)) (pv 5) pe_int (fun _ _ => rfl)) pa_nil)))) pss_nil)
      (pss_one (ps_if (PW.pt (pw_and (pt_cmpR (op_eqK (K := g.K) hr.units) (pv 6) (pe_tup (pa_cons pe_str (pa_cons pe_non pa_nil))) (nomark _)) (pw_and1 (pt_cmpR (op_eqK (K := g.K) hr.units) (pe_ix (ix_tupK (K := g.K)) (pv 5) pe_int (fun _ _ => rfl)) pe_str (nomark _))))) (pss_one (ps_setLc (i := 3) (own := [("_law_k", 11)]) (g := gName 11)  rfl sc__law_moved.nd rfl rfl (sw_true rfl rfl rfl (by decide +kernel)) (pi_list (pv 3)) (blkOk_by (own := [("_law_k", 11)]) (N := ["_law_bag_here", "_law_machine_here", "_law_bench", "_law_outs", "_law_step", "_law_deed", "_law_got_here", "_law_turn", "_law_number_here", "_law_here", "_law_shaft", "_law_k"]) (sc := defScope s__law_moved) (by decide +kernel)) (fun _ _ _ _ _ => (pg_name (i := 11) sc__law_moved.nd rfl (Or.inl rfl))) (fun _ _ _ _ _ => (pts_one (pt_cmpR (op_neK (K := g.K) hr.units) (pv 11) (pe_ix (ix_tupK (K := g.K)) (pv 5) pe_int (fun _ _ => rfl)) (nomark _)))) (fun _ _ _ _ _ => (pv 11)))) pss_nil))))))
      (pss_cons (ps_for PassesOwn.never rfl (pi_range1 (by rfl) T.range (pa_cons pe_int pa_nil)) (pg_name (i := 7) sc__law_moved.nd rfl (Or.inl rfl))
      (pss_cons (ps_set (i := 8) sc__law_moved.nd rfl (Or.inl rfl) (pe_has G__law_low hr (by decide) pass0 (pa_cons (pe_op op_sub (pe_has G__law_take hr (by decide) pass0 (pa_cons (pv 0) (pa_cons pe_int pa_nil))) pe_int) (pa_cons (pe_op op_add pe_int (pe_has G__law_take hr (by decide) pass0 (pa_cons (pv 0) (pa_cons pe_int pa_nil)))) pa_nil))))
      (pss_one (ps_expr (pe_has G__law_got hr (by decide) pass0 (pa_cons (pv 2) (pa_cons (pe_tup (pa_cons pe_str (pa_cons (pv 8) pa_nil))) pa_nil)))))))
      (pss_cons (ps_set (i := 9) sc__law_moved.nd rfl (Or.inl rfl) (pe_hasM0 G_Bench_stands (pv 2) T.bench hr (by decide) pass0))
      (pss_cons (ps_set (i := 10) sc__law_moved.nd rfl (Or.inl rfl) (pe_has G__law_take hr (by decide) pass0 (pa_cons (pv 0) (pa_cons (pe_callB (call_lenK (K := g.K)) (by rfl) T.len PySem.boot_len (pa_cons (pv 9) pa_nil)) pa_nil))))
      (pss_cons (ps_expr (pe_hasM G_Bench_ends (pv 2) T.bench hr (by decide) passN0 (pa_cons (pv 10) (pa_cons (pe_ix (ix_listK (K := g.K)) (pv 9) (pv 10) (fun _ _ => rfl)) (pa_cons (pe_ix (ix_listK (K := g.K)) (pv 9) (pv 10) (fun _ _ => rfl)) pa_nil)))))
      (pss_one (ps_ret (pv 2)))))))))), ?_⟩
    have hz2 : ∀ r ∈ rows, r.small 200 4 := fun r hr => Row.small_up (hz r hr) (by decide) (by decide)
    have lm := pm.length
    have hp0 : H p ≠ none := by
      obtain ⟨_, _, _, e, _⟩ := hb
      rw [e]
      simp
    refine ⟨_, rfl, fun x dx hx hdx hne => ?_⟩
    have t1 := same_new (o := .own x) hdx
    have hxa : upd H dx (.own x) x = none := by rw [upd_ne (Ne.symm hne)]; exact hx
    have t2 := t1.trans (same_new (o := .ins (He.ga g.K "Bench") dx []) hxa)
    refine ⟨x, dx, m, us, rows, rfl, upd_same, t2 _ _ hm, pm.mono (fun _ _ z => z.same t2), by omega, fun a0 H1 ha0 hadx f1 bench1 fp1 => ⟨rfl, ?_⟩⟩
    subst ha0
    have nb0 : NewB g.K H H1 p a0 (fresh rows) rows.length := by
      have fr : Fr [p] H H1 := (Fr.of (F := [p]) t2).trans f1 fun y hy => .inr (by rw [List.mem_singleton.mp hy]; exact hx)
      have pne : p ∉ [a0.p] := fun z => hp0 (by rw [List.mem_singleton.mp z]; exact hx)
      refine ⟨fr, bench1, WF.start mach h1 h5 hz2, rfl, fun y hy => ?_, hp0, ?_⟩
      · rcases fp1 y hy with z | z
        · rw [z]; exact hx
        · exact none_of t2 z
      · obtain ⟨_, _, _, e, _⟩ := (hb.same t2).fr f1 pne
        rw [e]
        simp
    have bag1 : Bag H1 p k := (hb.same t2).fr f1 fun z => hp0 (by rw [List.mem_singleton.mp z]; exact hx)
    refine ⟨(by show 0 ≤ sizeLine; decide), fun ol0 hol0 => ?_⟩
    have t3 := same_new (o := .lst []) hol0
    have nb1 := nb0.same t3
    have bag2 := bag1.same t3
    have hol0H : H ol0 = none := by
      cases z : H ol0 with
      | none => rfl
      | some o =>
        by_cases e : ol0 ∈ [p]
        · rw [List.mem_singleton.mp e] at hol0
          exact absurd hol0 nb0.p1
        · rw [nb0.fr.get z e] at hol0
          cases hol0
    have hoa : ol0 ∉ a0.fp := fun z => bench1.there ol0 z hol0
    refine ⟨_, rfl, p, 11, k, rfl, bag2, by decide, by decide, by omega, fun r2 H2 hr2 f2 bag3 => ⟨_, _, rfl, rfl, _, rfl, by omega, by omega, ?_⟩⟩
    have nb2 := nb1.step f2 bag3
    have olp : ol0 ∉ [p] := fun z => by
      rw [List.mem_singleton.mp z] at hol0
      exact nb0.p1 hol0
    let PV : Nat → L2.St → Hp → Prop := fun i σ H' => ∃ x4 x5 x6 a b ol os, σ = [some (.ref p), some (.ref m), some (.ref a0.p), some (.ref ol), x4, x5, x6, none, none, none, none, none] ∧ NewB g.K H H' p a b rows.length ∧ a.p = a0.p ∧ Bag H' p (k + 1 + 30 * i) ∧ b.past ≤ i ∧ H' ol = some (.lst (nV os)) ∧ (∀ o ∈ os, o < rows.length) ∧ os.length ≤ i ∧ H ol = none ∧ ol ∉ a.fp
    refine for_it (walk_range (lo := 0) (n := _)) PV
      ⟨none, none, none, a0, fresh rows, ol0, [], rfl, nb2, rfl, bag3, Nat.le_refl _, f2.get upd_same olp, (fun _ z => nomatch z), Nat.le_refl _, hol0H, hoa⟩ (fun _ _ _ _ _ => True.intro) ?_ ?_
    · rintro i x σ H3 H4 hi ⟨x4, x5, x6, a, b, ol, os, rfl, nb, hap, bag, hpst, hol, hos, hosl, hol0', hola⟩ ⟨rfl, hx⟩
      obtain rfl := range_at hx
      have hi12 : i < 12 := by omega
      have olp : ol ≠ p := fun z => hp0 (by rw [← z]; exact hol0')
      have pl : ol ∉ [p] := by simpa using olp
      have hm4 := nb.fr.get hm (by simpa using hmp)
      refine ⟨_, rfl, _, rfl, _, _, rfl, .inl (SqL.of hm4), _, rfl, p, ol, us.length, _, os, rfl, by omega, by omega, bag, by omega, hol, by rw [lm]; exact hos, by omega, olp, fun t e H5 f5 b5 de dr => ?_⟩
      have nb5 := nb.step f5 b5
      have hol5 := f5.get hol pl
      obtain ⟨l, tW5, wL, wOk⟩ := de.word dr
      refine ⟨_, rfl, _, rfl, a, b, t, e, by rw [hap]; rfl, nb5.bench, nb5.wf, by omega, de, dr.ok (nb5.len.trans lm.symm), fun a' H6 v D m6 dv rd => ?_⟩
      have ok6 := after_ok nb5.wf (dr.ok (nb5.len.trans lm.symm))
      have nb6 := nb5.moved m6 ok6.1 (ok6.2.1.trans nb5.len)
      have bag6 := Bag.deed nb5 m6 b5
      have hol6 := m6.fr.get hol5 hola
      have tW := m6.fr.tup tW5
      have shD := resD_ok nb5.wf rd
      have hola6 : ol ∉ a'.fp := fun z => by
        rcases m6.fp ol z with z | z
        · exact hola z
        · rw [hol5] at z
          cases z
      refine ⟨_, rfl, (by show 2 ≤ sizeLine; decide), fun c1 hc1 => ?_⟩
      have y0 := same_new (o := .tup [.str "told", .non]) hc1
      have nb7 := nb6.same y0
      have bag7 := bag6.same y0
      have hol7 := y0 _ _ hol6
      have dv7 := Dp.same y0 D v dv
      refine ⟨D, toldN, dv7, dp_toldN (.inl (.inl upd_same)), shD, sh_toldN, _, rfl, ?_⟩
      replace tW := Same.tup y0 tW
      generalize upd H6 c1 (.tup [.str "told", .non]) = H7 at nb7 bag7 hol7 dv7 tW ⊢
      clear y0
      cases hq0 : PyData.eqv D toldN with
      | false =>
        refine iteF (iteF ?_)
        refine ⟨_, rfl, (by show 2 ≤ sizeLine; decide), fun c2 hc2 => ?_⟩
        have y1 := same_new (o := .tup [.str "told", .non]) hc2
        have stay : ∀ {H9 : Hp}, Same H7 H9 → _ := fun {H9} y => (⟨_, _, _, a', after b (e.run b), ol, os, rfl, nb7.same y, m6.p.trans hap, (bag7.same y).mono (by omega), by have := (after_ok nb5.wf (dr.ok (nb5.len.trans lm.symm))).2.2; omega, y _ _ hol7, hos, by omega, hol0', hola6⟩ : PV (i + 1) [some (.ref p), some (.ref m), some (.ref a0.p), some (.ref ol), some (.int (i : Int)), some (.ref t), some v, none, none, none, none, none] H9)
        refine ⟨D, toldN, Dp.same y1 D v dv7, dp_toldN (.inl (.inl upd_same)), shD, sh_toldN, _, rfl, ?_⟩
        cases hq2 : PyData.eqv D toldN with
        | false => exact iteF (iteF (stay y1))
        | true =>
          refine iteT ⟨_, rfl, _, _, _, _, rfl, rfl, Same.tup y1 tW, atI_nat (j := 0) rfl, .str e.word, .str "into", .str _, .str _, sh_str wOk, sh_str (by decide +kernel), _, rfl, ?_⟩
          cases hq3 : PyData.eqv (.str e.word) (.str "into") with
          | false => exact iteF (stay y1)
          | true =>
            obtain ⟨kd, hkd, hkdl⟩ := wL (.inr (eqv_str _ _ hq3))
            rw [hkd] at tW
            refine iteT ⟨_, rfl, _, rfl, ⟨_, SqL.of (y1 _ _ hol7)⟩, lc_filt (walk_list (K := g.K) (a := ol) (xs := nV os)) (fun j => !PyData.eqv (.int ((os.getD j 0 : Nat) : Int)) (.int (kd : Int))) (fun D H y j => y = .int ((os.getD j 0 : Nat) : Int)) (by rw [nV_len]; omega) (fun _ _ _ _ _ _ _ _ h => h) (fun H' z => SqL.of (z _ _ (y1 _ _ hol7))) ?_ ?_⟩
            · rintro D2 j w H10 H11 Nx hj hD2 s10 hl ⟨rfl, hw⟩ q1 q0
              obtain ⟨z, hz1, rfl⟩ := nV_get hw
              have ez : os.getD j 0 = z := getD_of hz1
              rw [ez] at q1 q0
              refine ⟨rfl, _, rfl, _, rfl, _, _, _, _, rfl, rfl, Same.tup (y1.trans s10) tW, rfl, .int _, .int _, .int _, .int _, sh_int _, sh_int _, _, rfl, ?_⟩
              cases hq4 : PyData.eqv (.int (z : Int)) (.int (kd : Int)) with
              | true => rw [hq4] at q0; exact q0 _ rfl (Same.refl _)
              | false => rw [hq4] at q1; exact ⟨_, rfl, q1 _ _ rfl (Same.refl _) rfl⟩
            · intro D2 ys H10 hD2 s10 hys pd
              have ey : ys = nV (((List.range (nV os).length).filter fun j => !PyData.eqv (.int ((os.getD j 0 : Nat) : Int)) (.int (kd : Int))).map fun j => os.getD j 0) := nV_pd (R := fun y x => y = .int (x : Int)) (by
                clear hys
                generalize (List.range (nV os).length).filter (fun j => !PyData.eqv (.int ((os.getD j 0 : Nat) : Int)) (.int (kd : Int))) = L at pd
                induction pd with
                | nil => exact .nil
                | cons r t ih => exact .cons r ih) fun _ _ h => h
              rw [ey] at hys
              have nb9 := nb7.same (y1.trans s10)
              have hD20 : H D2 = none := (nb7.same y1).none hD2
              refine ⟨_, _, _, a', after b (e.run b), D2, _, rfl, nb9, m6.p.trans hap, (bag7.same (y1.trans s10)).mono (by omega), by have := (after_ok nb5.wf (dr.ok (nb5.len.trans lm.symm))).2.2; omega, hys, fun o ho => ?_, ?_, hD20, fun z => (nb7.same y1).bench.there D2 z hD2⟩
              · obtain ⟨j, hj, rfl⟩ := List.mem_map.mp ho
                have hjl : j < os.length := by
                  have := List.mem_range.mp (List.mem_filter.mp hj).1
                  rw [nV_len] at this
                  exact this
                obtain ⟨z, hz1⟩ := ex_at hjl
                rw [getD_of hz1]
                exact hos z (List.mem_of_getElem? hz1)
              · rw [List.length_map]
                refine Nat.le_trans (List.length_filter_le _ _) ?_
                rw [List.length_range, nV_len]
                omega
      | true =>
        refine iteT ⟨_, rfl, _, _, _, _, rfl, rfl, tW, atI_nat (j := 0) rfl, .str e.word, .str "out", .str _, .str _, sh_str wOk, sh_str (by decide +kernel), _, rfl, ?_⟩
        cases hq1 : PyData.eqv (.str e.word) (.str "out") with
        | false =>
          refine iteF ?_
          refine ⟨_, rfl, (by show 2 ≤ sizeLine; decide), fun c2 hc2 => ?_⟩
          have y1 := same_new (o := .tup [.str "told", .non]) hc2
          have stay : ∀ {H9 : Hp}, Same H7 H9 → _ := fun {H9} y => (⟨_, _, _, a', after b (e.run b), ol, os, rfl, nb7.same y, m6.p.trans hap, (bag7.same y).mono (by omega), by have := (after_ok nb5.wf (dr.ok (nb5.len.trans lm.symm))).2.2; omega, y _ _ hol7, hos, by omega, hol0', hola6⟩ : PV (i + 1) [some (.ref p), some (.ref m), some (.ref a0.p), some (.ref ol), some (.int (i : Int)), some (.ref t), some v, none, none, none, none, none] H9)
          refine ⟨D, toldN, Dp.same y1 D v dv7, dp_toldN (.inl (.inl upd_same)), shD, sh_toldN, _, rfl, ?_⟩
          cases hq2 : PyData.eqv D toldN with
          | false => exact iteF (iteF (stay y1))
          | true =>
            refine iteT ⟨_, rfl, _, _, _, _, rfl, rfl, Same.tup y1 tW, atI_nat (j := 0) rfl, .str e.word, .str "into", .str _, .str _, sh_str wOk, sh_str (by decide +kernel), _, rfl, ?_⟩
            cases hq3 : PyData.eqv (.str e.word) (.str "into") with
            | false => exact iteF (stay y1)
            | true =>
              obtain ⟨kd, hkd, hkdl⟩ := wL (.inr (eqv_str _ _ hq3))
              rw [hkd] at tW
              refine iteT ⟨_, rfl, _, rfl, ⟨_, SqL.of (y1 _ _ hol7)⟩, lc_filt (walk_list (K := g.K) (a := ol) (xs := nV os)) (fun j => !PyData.eqv (.int ((os.getD j 0 : Nat) : Int)) (.int (kd : Int))) (fun D H y j => y = .int ((os.getD j 0 : Nat) : Int)) (by rw [nV_len]; omega) (fun _ _ _ _ _ _ _ _ h => h) (fun H' z => SqL.of (z _ _ (y1 _ _ hol7))) ?_ ?_⟩
              · rintro D2 j w H10 H11 Nx hj hD2 s10 hl ⟨rfl, hw⟩ q1 q0
                obtain ⟨z, hz1, rfl⟩ := nV_get hw
                have ez : os.getD j 0 = z := getD_of hz1
                rw [ez] at q1 q0
                refine ⟨rfl, _, rfl, _, rfl, _, _, _, _, rfl, rfl, Same.tup (y1.trans s10) tW, rfl, .int _, .int _, .int _, .int _, sh_int _, sh_int _, _, rfl, ?_⟩
                cases hq4 : PyData.eqv (.int (z : Int)) (.int (kd : Int)) with
                | true => rw [hq4] at q0; exact q0 _ rfl (Same.refl _)
                | false => rw [hq4] at q1; exact ⟨_, rfl, q1 _ _ rfl (Same.refl _) rfl⟩
              · intro D2 ys H10 hD2 s10 hys pd
                have ey : ys = nV (((List.range (nV os).length).filter fun j => !PyData.eqv (.int ((os.getD j 0 : Nat) : Int)) (.int (kd : Int))).map fun j => os.getD j 0) := nV_pd (R := fun y x => y = .int (x : Int)) (by
                  clear hys
                  generalize (List.range (nV os).length).filter (fun j => !PyData.eqv (.int ((os.getD j 0 : Nat) : Int)) (.int (kd : Int))) = L at pd
                  induction pd with
                  | nil => exact .nil
                  | cons r t ih => exact .cons r ih) fun _ _ h => h
                rw [ey] at hys
                have nb9 := nb7.same (y1.trans s10)
                have hD20 : H D2 = none := (nb7.same y1).none hD2
                refine ⟨_, _, _, a', after b (e.run b), D2, _, rfl, nb9, m6.p.trans hap, (bag7.same (y1.trans s10)).mono (by omega), by have := (after_ok nb5.wf (dr.ok (nb5.len.trans lm.symm))).2.2; omega, hys, fun o ho => ?_, ?_, hD20, fun z => (nb7.same y1).bench.there D2 z hD2⟩
                · obtain ⟨j, hj, rfl⟩ := List.mem_map.mp ho
                  have hjl : j < os.length := by
                    have := List.mem_range.mp (List.mem_filter.mp hj).1
                    rw [nV_len] at this
                    exact this
                  obtain ⟨z, hz1⟩ := ex_at hjl
                  rw [getD_of hz1]
                  exact hos z (List.mem_of_getElem? hz1)
                · rw [List.length_map]
                  refine Nat.le_trans (List.length_filter_le _ _) ?_
                  rw [List.length_range, nV_len]
                  omega
        | true =>
          obtain ⟨ko, hko, hkol⟩ := wL (.inl (eqv_str _ _ hq1))
          have eD := told_none rd hq0
          rw [eD] at dv7
          obtain ⟨tv, rfl, tv7⟩ := dp_told dv7
          have fo : Fr [ol] H7 (upd H7 ol (.lst (nV os ++ [.int (ko : Int)]))) := Fr.wr hol7 nz_lst (by simp)
          have tW0 := tW
          rw [hko] at tW
          refine iteT ⟨_, rfl, .inl ⟨rfl, _, .inl (.inl hol7)⟩, _, rfl, _, _, _, _, rfl, rfl, tW, rfl, ol, nV os, _, rfl, rfl, hol7, by rw [nV_len]; exact small1000 (by omega), ?_⟩
          have nb8 : NewB g.K H (upd H7 ol (.lst (nV os ++ [.int (ko : Int)]))) p a' (after b (e.run b)) rows.length := by
            refine ⟨nb7.fr.trans fo fun y hy => .inr (by rw [List.mem_singleton.mp hy]; exact hol0'), nb7.bench.fr fo fun y hy z => hola6 (by rw [← List.mem_singleton.mp z]; exact hy), nb7.wf, nb7.len, nb7.nw, nb7.p0, ?_⟩
            rw [upd_ne (Ne.symm olp)]
            exact nb7.p1
          have bag8 := bag7.fr fo (by simpa using Ne.symm olp)
          have dv8 : Dp g.K (upd H7 ol (.lst (nV os ++ [.int (ko : Int)]))) (.ref tv) D := by rw [eD]; exact dp_toldN (fo.tup tv7)
          replace tW := fo.tup tW0
          clear tW0
          have hol8 : upd H7 ol (.lst (nV os ++ [.int (ko : Int)])) ol = some (.lst (nV (os ++ [ko]))) := by rw [upd_same, nV_app]
          generalize upd H7 ol (.lst (nV os ++ [.int (ko : Int)])) = H8 at nb8 bag8 dv8 tW hol8 ⊢
          have hos8 : ∀ o ∈ os ++ [ko], o < rows.length := fun o ho => by
            rcases List.mem_append.mp ho with z | z
            · exact hos o z
            · rw [List.mem_singleton.mp z, ← lm]
              exact hkol
          have hosl8 : (os ++ [ko]).length ≤ i + 1 := by rw [List.length_append]; show os.length + 1 ≤ i + 1; omega
          generalize os ++ [ko] = os8 at hol8 hos8 hosl8
          refine ⟨_, rfl, (by show 2 ≤ sizeLine; decide), fun c2 hc2 => ?_⟩
          have y1 := same_new (o := .tup [.str "told", .non]) hc2
          have stay : ∀ {H9 : Hp}, Same H8 H9 → _ := fun {H9} y => (⟨_, _, _, a', after b (e.run b), ol, os8, rfl, nb8.same y, m6.p.trans hap, (bag8.same y).mono (by omega), by have := (after_ok nb5.wf (dr.ok (nb5.len.trans lm.symm))).2.2; omega, y _ _ hol8, hos8, by omega, hol0', hola6⟩ : PV (i + 1) [some (.ref p), some (.ref m), some (.ref a0.p), some (.ref ol), some (.int (i : Int)), some (.ref t), some (.ref tv), none, none, none, none, none] H9)
          refine ⟨D, toldN, Dp.same y1 D (.ref tv) dv8, dp_toldN (.inl (.inl upd_same)), shD, sh_toldN, _, rfl, ?_⟩
          cases hq2 : PyData.eqv D toldN with
          | false => exact iteF (iteF (stay y1))
          | true =>
            refine iteT ⟨_, rfl, _, _, _, _, rfl, rfl, Same.tup y1 tW, atI_nat (j := 0) rfl, .str e.word, .str "into", .str _, .str _, sh_str wOk, sh_str (by decide +kernel), _, rfl, ?_⟩
            cases hq3 : PyData.eqv (.str e.word) (.str "into") with
            | false => exact iteF (stay y1)
            | true =>
              obtain ⟨kd, hkd, hkdl⟩ := wL (.inr (eqv_str _ _ hq3))
              rw [hkd] at tW
              refine iteT ⟨_, rfl, _, rfl, ⟨_, SqL.of (y1 _ _ hol8)⟩, lc_filt (walk_list (K := g.K) (a := ol) (xs := nV os8)) (fun j => !PyData.eqv (.int ((os8.getD j 0 : Nat) : Int)) (.int (kd : Int))) (fun D H y j => y = .int ((os8.getD j 0 : Nat) : Int)) (by rw [nV_len]; omega) (fun _ _ _ _ _ _ _ _ h => h) (fun H' z => SqL.of (z _ _ (y1 _ _ hol8))) ?_ ?_⟩
              · rintro D2 j w H10 H11 Nx hj hD2 s10 hl ⟨rfl, hw⟩ q1 q0
                obtain ⟨z, hz1, rfl⟩ := nV_get hw
                have ez : os8.getD j 0 = z := getD_of hz1
                rw [ez] at q1 q0
                refine ⟨rfl, _, rfl, _, rfl, _, _, _, _, rfl, rfl, Same.tup (y1.trans s10) tW, rfl, .int _, .int _, .int _, .int _, sh_int _, sh_int _, _, rfl, ?_⟩
                cases hq4 : PyData.eqv (.int (z : Int)) (.int (kd : Int)) with
                | true => rw [hq4] at q0; exact q0 _ rfl (Same.refl _)
                | false => rw [hq4] at q1; exact ⟨_, rfl, q1 _ _ rfl (Same.refl _) rfl⟩
              · intro D2 ys H10 hD2 s10 hys pd
                have ey : ys = nV (((List.range (nV os8).length).filter fun j => !PyData.eqv (.int ((os8.getD j 0 : Nat) : Int)) (.int (kd : Int))).map fun j => os8.getD j 0) := nV_pd (R := fun y x => y = .int (x : Int)) (by
                  clear hys
                  generalize (List.range (nV os8).length).filter (fun j => !PyData.eqv (.int ((os8.getD j 0 : Nat) : Int)) (.int (kd : Int))) = L at pd
                  induction pd with
                  | nil => exact .nil
                  | cons r t ih => exact .cons r ih) fun _ _ h => h
                rw [ey] at hys
                have nb9 := nb8.same (y1.trans s10)
                have hD20 : H D2 = none := (nb8.same y1).none hD2
                refine ⟨_, _, _, a', after b (e.run b), D2, _, rfl, nb9, m6.p.trans hap, (bag8.same (y1.trans s10)).mono (by omega), by have := (after_ok nb5.wf (dr.ok (nb5.len.trans lm.symm))).2.2; omega, hys, fun o ho => ?_, ?_, hD20, fun z => (nb8.same y1).bench.there D2 z hD2⟩
                · obtain ⟨j, hj, rfl⟩ := List.mem_map.mp ho
                  have hjl : j < os8.length := by
                    have := List.mem_range.mp (List.mem_filter.mp hj).1
                    rw [nV_len] at this
                    exact this
                  obtain ⟨z, hz1⟩ := ex_at hjl
                  rw [getD_of hz1]
                  exact hos8 z (List.mem_of_getElem? hz1)
                · rw [List.length_map]
                  refine Nat.le_trans (List.length_filter_le _ _) ?_
                  rw [List.length_range, nV_len]
                  omega
    · rintro σ H3 ⟨x4, x5, x6, a, b, ol, os, rfl, nb, hap, bag, hpst, _, _, _, _, _⟩
      refine ⟨2, rfl, by decide, by decide, for_it (walk_range (lo := 0) (n := _))
        (fun i σ H' => ∃ x7 x8 a b, σ = [some (.ref p), some (.ref m), some (.ref a0.p), some (.ref ol), x4, x5, x6, x7, x8, none, none, none] ∧ NewB g.K H H' p a b rows.length ∧ a.p = a0.p ∧ Bag H' p (k + 500 + 2 * i) ∧ b.past ≤ 12 + i)
        ⟨none, none, a, b, rfl, nb, hap, bag.mono (by omega), by omega⟩ (fun _ _ _ _ _ => True.intro) ?_ ?_⟩
      · rintro i x σ H4 H5 hi ⟨x7, x8, a, b, rfl, nb, hap, bag, hpst⟩ ⟨rfl, hx⟩
        have hi2 : i < 2 := hi
        refine ⟨_, rfl, p, 1999999, _, rfl, bag, by decide, by decide, by omega, fun r1 H6 hr1 f1 b1 => ⟨_, _, rfl, rfl, _, rfl, p, 999999, _, rfl, b1, by decide, by decide, by omega, fun r2 H7 hr2 f2 b2 => ⟨_, _, rfl, rfl, ?_⟩⟩⟩
        have nb7 := (nb.step f1 b1).step f2 b2
        have big : (1 : Int) + (r2 : Int) < 2 ^ 9000 := by
          have h1 : (1 : Int) + (r2 : Int) < 2 ^ 20 := by omega
          exact Int.lt_of_lt_of_le h1 (Int.ofNat_le.mpr (Nat.pow_le_pow_right (n := 2) (by decide) (by decide : 20 ≤ 9000)) |> fun h => by rw [Int.natCast_pow, Int.natCast_pow] at h; exact h)
        refine ⟨_, _, rfl, by omega, big, fun v H8 s8 nv => ?_⟩
        have nb8 := nb7.same s8
        refine ⟨_, rfl, _, rfl, (by show 2 ≤ sizeLine; decide), fun t ht => ?_⟩
        have s9 := same_new (o := .tup [.str "click", v]) ht
        have nb9 := nb8.same s9
        have zq : Sz 20 (mkRat ((r1 : Int) - 999999) ((1 : Int) + (r2 : Int)).toNat) := sz_mk (by omega) (by show ((r1 : Int) - 999999).natAbs < 1048576; omega) (by show ((1 : Int) + (r2 : Int)).toNat < 1048576; omega)
        refine ⟨a, b, t, .click _, by rw [hap]; rfl, nb9.bench, nb9.wf, by omega, .click (.inl (.inl upd_same)) (nv.same s9), zq, fun a' H9 v9 D m9 _ _ => ?_⟩
        have ok9 := after_ok (e := .click (mkRat ((r1 : Int) - 999999) ((1 : Int) + (r2 : Int)).toNat)) nb9.wf zq
        refine ⟨_, _, a', _, rfl, nb9.moved m9 ok9.1 (ok9.2.1.trans nb9.len), m9.p.trans hap, (Bag.deed nb9 m9 ((b2.same s8).same s9)).mono (by omega), by have := ok9.2.2; omega⟩
      · rintro σ H4 ⟨x7, x8, a, b, rfl, nb, hap, bag, hpst⟩
        have hpst14 : b.past ≤ 14 := hpst
        refine ⟨_, rfl, _, _, _, rfl, (by rw [← hap]; exact nb.bench.ob), rfl, a, b, by rw [hap]; rfl, nb.bench, fun hl H5 us5 s5 hhl0 hhl pus => ?_⟩
        have nb5 := nb.same s5
        have lus := pus.length
        have ls := nb.wf.ls
        have nl := nb.len
        have hlp : hl ∉ [p] := fun z => nb.p1 (by rw [← List.mem_singleton.mp z]; exact hhl0)
        refine ⟨_, rfl, _, rfl, _, _, rfl, .inl (SqL.of hhl), p, us5.length, k + 500 + 2 * 2, rfl, bag.same s5, by omega, by omega, by omega, fun sh H6 hsh f6 b6 => ?_⟩
        have nb6 := nb5.step f6 b6
        obtain ⟨v, hv⟩ := ex_at hsh
        obtain ⟨q, hq, nq⟩ := Pd.getV pus hv
        have hhl6 := f6.get hhl hlp
        have zq : Sz 200 q := nb.wf.zs q (List.mem_of_getElem? hq)
        refine ⟨_, rfl, _, _, _, rfl, (by rw [← hap]; exact nb6.bench.ob), rfl, _, rfl, _, rfl, _, rfl, _, _, _, _, rfl, rfl, SqL.of hhl6, atI_nat hv, _, rfl, _, rfl, _, _, _, _, rfl, rfl, SqL.of hhl6, atI_nat hv, a, b, sh, v, v, (some q, some q), by rw [hap]; rfl, nb6.bench, nb6.wf, by omega, by omega, nq.fr f6, nq.fr f6, fun z hz => by rcases hz with e | e <;> cases e <;> exact zq, ?_⟩
        rw [ends_self (getD_at hq)]
        intro a' H7 m7
        have wf7 : WF { b with lims := b.lims.set sh (some q, some q), past := b.past + 1 } := nb6.wf.ends (fun z hz => by rcases hz with e | e <;> cases e <;> exact zq) (ends_self (getD_at hq))
        have nb7 := nb6.moved m7 wf7 nb6.len
        have e7 : a'.p = a0.p := m7.p.trans hap
        refine ⟨_, rfl, ?_⟩
        rw [← e7]
        exact kk a' _ H7 nb7 ((Bag.deed nb6 m7 b6).mono (by omega)) (by show b.past + 1 ≤ 20; omega)
end
end K79
end

section
set_option linter.all false
set_option maxRecDepth 100000
set_option maxHeartbeats 4000000
/-! K79V5: the law. -/
namespace K79
open PySem PySem.Spec PyProof.Rows L2

def Dis (L F : List Addr) : Prop := ∀ x ∈ L, x ∉ F
def Tr (H : Hp) (L : List Addr) : Prop := ∀ x ∈ L, H x ≠ none
section
variable {K : PySem.W.Frag} {H H' H2 : Hp} {L F : List Addr}
theorem Tr.fr (h : Tr H L) (f : Fr F H H') (d : Dis L F) : Tr H' L := fun x hx => by
  cases e : H x with
  | none => exact absurd e (h x hx)
  | some o => rw [f.get e (d x hx)]; simp
theorem Tr.same (h : Tr H L) (s : Same H H') : Tr H' L := h.fr (F := []) (Fr.of s) fun _ _ z => nomatch z
theorem Dis.fresh (h : Tr H L) (f : ∀ y ∈ F, H y = none) : Dis L F := fun x hx z => h x hx (f x z)
theorem Dis.moved {a a' : Ad} {b' : B} (h : Dis L a.fp) (t : Tr H L) (m : Moved K H a H' a' b') : Dis L a'.fp := fun x hx z => by
  rcases m.fp x z with y | y
  · exact h x hx y
  · exact t x hx y
/-- all from H on stands -/
theorem same_fr (s : Same H H') (f : Fr F H' H2) (n : ∀ x ∈ F, H x = none) : Same H H2 := fun b o e => f.get (s b o e) fun z => by
  rw [n b z] at e
  cases e
/-- the first bench, and what the law keeps of it -/
structure OldA where
  a : Ad
  tl : Addr
  kl : Addr
  sl : Addr
  ul : Addr
  ob : Addr
def OldA.all (o : OldA) : List Addr := o.a.fp ++ [o.tl, o.kl, o.sl, o.ul, o.ob]
structure OldAt (K : PySem.W.Frag) (H : Hp) (o : OldA) (b : B) (e1 e2 : V) : Prop where
  bench : BenchAt K H o.a b
  rows : ∃ vs, H o.tl = some (.lst vs) ∧ H o.kl = some (.lst vs) ∧ Paired (Rw K H) vs b.told
  stood : ∃ vs, H o.sl = some (.lst vs) ∧ Paired (Nm K H) vs b.stood
  sums : ∃ vs, H o.ul = some (.lst vs) ∧ Paired (Nm K H) vs b.sums
  ob : H o.ob = some (.lst [.ref o.kl, .ref o.sl, .ref o.ul, e1, e2, .int (b.past : Int)])
variable {o : OldA} {b : B} {e1 e2 : V}
theorem OldAt.fr (h : OldAt K H o b e1 e2) (f : Fr F H H') (d : Dis o.all F) : OldAt K H' o b e1 e2 := by
  have k : ∀ x u, x ∈ [o.tl, o.kl, o.sl, o.ul, o.ob] → H x = some u → H' x = some u := fun x u m e => f.get e (d x (List.mem_append_right _ m))
  obtain ⟨v1, r1, r2, p1⟩ := h.rows
  obtain ⟨v2, r3, p2⟩ := h.stood
  obtain ⟨v3, r4, p3⟩ := h.sums
  exact ⟨h.bench.fr f fun x hx => d x (List.mem_append_left _ hx), ⟨v1, k _ _ (by simp) r1, k _ _ (by simp) r2, p1.mono fun _ _ z => Rw.fr f z⟩, ⟨v2, k _ _ (by simp) r3, p2.mono fun _ _ z => Nm.fr f z⟩, ⟨v3, k _ _ (by simp) r4, p3.mono fun _ _ z => Nm.fr f z⟩, k _ _ (by simp) h.ob⟩
theorem OldAt.same (h : OldAt K H o b e1 e2) (s : Same H H') : OldAt K H' o b e1 e2 := h.fr (F := []) (Fr.of s) fun _ _ z => nomatch z
theorem OldAt.tr (h : OldAt K H o b e1 e2) : Tr H o.all := fun x hx => by
  obtain ⟨v1, r1, r2, p1⟩ := h.rows
  obtain ⟨v2, r3, p2⟩ := h.stood
  obtain ⟨v3, r4, p3⟩ := h.sums
  rcases List.mem_append.mp hx with z | z
  · exact h.bench.there x z
  · simp only [List.mem_cons, List.not_mem_nil, or_false] at z
    rcases z with rfl | rfl | rfl | rfl | rfl
    · rw [r1]; simp
    · rw [r2]; simp
    · rw [r3]; simp
    · rw [r4]; simp
    · rw [h.ob]; simp
theorem StAt.tr {s : Addr} {t : StA} (h : StAt K H s t b) : Tr H (s :: t.all) := fun x hx => by
  obtain ⟨v1, r1, p1⟩ := h.rows
  obtain ⟨v2, r2, p2⟩ := h.stood
  obtain ⟨v3, r3, p3⟩ := h.sums
  obtain ⟨v5, r5, p5⟩ := h.lims
  simp only [StA.all, List.mem_cons, List.not_mem_nil, or_false] at hx
  rcases hx with rfl | rfl | rfl | rfl | rfl | rfl
  · rw [h.ob]; simp
  · rw [r1]; simp
  · rw [r2]; simp
  · rw [r3]; simp
  · rw [h.outs]; simp
  · rw [r5]; simp
end
theorem told_starts {b : B} (wf : WF b) : b.told.map Row.start = b.stood := by
  refine List.ext_getElem? fun i => ?_
  rw [List.getElem?_map]
  by_cases hi : i < b.rows.length
  · obtain ⟨r, hr⟩ := ex_at hi
    obtain ⟨q, hq⟩ := ex_at (xs := b.stood) (i := i) (by rw [wf.ls]; exact hi)
    rw [told_at hr hq, hq]
    exact congrArg some (Row.at_start q r)
  · rw [List.getElem?_eq_none (by rw [wf.toldLen]; omega), List.getElem?_eq_none (by rw [wf.ls]; omega)]
    rfl
theorem at_at (r : Row) (q s : Rat) : (r.at_ q).at_ s = r.at_ s := by cases r <;> rfl
theorem ats_told {b : B} (wf : WF b) : ats b.told b.stood = b.told := by
  refine List.ext_getElem? fun i => ?_
  by_cases hi : i < b.rows.length
  · obtain ⟨r, hr⟩ := ex_at hi
    obtain ⟨q, hq⟩ := ex_at (xs := b.stood) (i := i) (by rw [wf.ls]; exact hi)
    rw [ats_at (told_at hr hq) hq, told_at hr hq, at_at]
  · rw [List.getElem?_eq_none (by unfold ats; rw [List.length_zipWith, wf.toldLen]; omega), List.getElem?_eq_none (by rw [wf.toldLen]; omega)]
theorem click_fresh {b : B} {q : Rat} (h : ∀ l ∈ b.lims, l = (none, none)) : b.click q = if (b.ahead q).any long = true then .no "TooFar" else .ok (some (b.moves q)) { b with stood := b.ahead q, sums := adds b.sums (b.moves q), past := b.past + 1 } := by
  have st : b.stops q = none := stops_none fun j _ => by
    have e : b.lims.getD j (none, none) = (none, none) := by
      rw [List.getD_eq_getElem?_getD]
      cases z : b.lims[j]? with
      | none => rfl
      | some l => exact h l (List.mem_of_getElem? z)
    rw [e]
    rfl
  unfold B.click
  rw [st]
theorem two_mul {n : Nat} (h : n ≤ 5) : CMulW 2 (n : Int) := wide_mul (a := 2) (b := 3) (by decide) (by rw [Int.natAbs_natCast]; show n < 8; omega) (by decide) (by decide) (by decide)
section
variable {g : G}
/-- the law, at any script of whole numbers -/
def spLaw (K : PySem.W.Frag) : Sp := fun vs H Q _ => ∃ (a : Addr) (ns : List Int), vs = [.ref a] ∧ SqL K H a (ns.map V.int) ∧ ∀ H', Same H H' → Q (.bl true) H'
abbrev s_law : Stmt := top 83
theorem sc_law : FnScope ["_law_script", "_law_at", "_law_bag_here", "_law_machine_here", "_law_bench", "_law_told", "_law_kept", "_law_sums", "_law_old", "_law_new", "_law_state", "_law_number_here", "_law_due", "_law_k"] ["_law_script"] (defScope s_law) := ⟨rfl, rfl, rfl, by decide +kernel, rfl, by decide +kernel, by decide +kernel⟩
theorem FunD.okN {x : Str} {st : Stmt} {N ps : List Str} {k : Nat} {sp : Sp} {f : Addr} {fd : FuncData} (F : FunD g.K x x (defArgs st) (defBody st) (defScope st) [] [] f fd) (S : FnScope N ps (defScope st)) (len : ∀ vs H Q E, sp vs H Q E → vs.length = ps.length)
    (hbody : ∀ (f : Addr) (cdv : Value) (A : Around) (outer : List Env) (s : Shared) (H : Hp) (vs : List V) (Q : VK) (E : XK), Room k (A.deeper (envOfC x (defScope st) s.heap.objs.size f cdv)) → sp vs H Q E →
      ∃ t, PSs (cxOf CX0 g.P g.w g.K g.mg g.base N x (defScope st) f cdv A outer s H E).nox (defBody st) t ∧ t { nx := fun _ H' => Q .non H', rt := Q } (start N vs) H) : FnOk g.P g.w g.K g.mg g.base CX0 (k + 1) f fd ps sp := F.ok S len fun cdv A outer s H vs Q E hr h =>
  let ⟨t, a, q⟩ := hbody f cdv A outer s H vs Q E hr h
  ⟨t, a.nox, q⟩
theorem ok_law (T : TxB g) {f : Addr} {fd : FuncData} (F : FunD g.K "law" "law" (defArgs s_law) (defBody s_law) (defScope s_law) [] [] f fd) (G__law_bag : Has g CX0 1 "_law_bag" ["_law_script", "_law_at"] (spBag g.K)) (G__law_take : Has g CX0 1 "_law_take" ["_law_bag_here", "_law_many"] (spTake g.K))
    (G__law_machine : Has g CX0 3 "_law_machine" ["_law_bag_here", "_law_most", "_law_even", "_law_kind"] (spMach g.K)) (G__law_moved : Has g CX0 9 "_law_moved" ["_law_bag_here", "_law_machine_here"] (spMovedL g.K)) (G_Bench_machine : HasM g CX0 1 (BC g) "machine" ["self"] (spMachine g.K))
    (G_Bench_moved : HasM g CX0 1 (BC g) "moved" ["self", "shaft"] (spMoved g.K)) (G_Bench_stands : HasM g CX0 1 (BC g) "stands" ["self"] (spStands g.K)) (G_Bench_deeds : HasM g CX0 1 (BC g) "deeds" ["self"] (spDeeds g.K)) (G_Bench : HasC g CX0 1 "Bench" ["self", "machine"] (spInit g.K))
    (G__law_fresh : Has g CX0 1 "_law_fresh" ["_law_machine_here"] (spFresh g.K)) (G__law_stands : Has g CX0 8 "_law_stands" ["_law_bench", "_law_state"] (spStandsAs g.K)) (G__law_got : Has g CX0 8 "_law_got" ["_law_bench", "_law_deed"] (spGot g.K))
    (G__law_clutches_in : Has g CX0 9 "_law_clutches_in" ["_law_bench", "_law_many"] (spClutches g.K)) (G__law_number : Has g CX0 2 "_law_number" ["_law_bag_here", "_law_kind"] (spNumber g.K)) (G__law_clicked : Has g CX0 5 "_law_clicked" ["_law_state", "_law_number_here"] (spClicked g.K))
    (G__law_same : Has g CX0 7 "_law_same" ["_law_one", "_law_other"] (spSame g.K 6)) (G__law_turns_so : Has g CX0 8 "_law_turns_so" ["_law_machine_here"] (spTurnsSo g.K)) : FnOk g.P g.w g.K g.mg g.base CX0 10 f fd ["_law_script"] (spLaw g.K) := by
  refine FunD.okN F sc_law (fun vs H Q E h => ?_) (fun f cdv A outer s0 H vs Q E hr h => ?_)
  · obtain ⟨a, ns, rfl, _⟩ := h
    rfl
  · obtain ⟨a0, ns, rfl, ha, kk⟩ := h
    refine ⟨_, (pss_cons (ps_for PassesOwn.never rfl (pi_range1 (by rfl) T.range (pa_cons (pe_callB (call_max2 rfl) (by rfl) T.max (by decide +kernel) (pa_cons pe_int (pa_cons (pe_callB (call_min2 rfl) (by rfl) T.min (by decide +kernel) (pa_cons pe_int (pa_cons (pe_callB (call_lenK (K := g.K)) (by rfl) T.len PySem.boot_len (pa_cons (pv 0) pa_nil)) pa_nil))) pa_nil))) pa_nil)) (pg_name (i := 1) sc_law.nd rfl (Or.inl rfl))
      (pss_cons (ps_set (i := 2) sc_law.nd rfl (Or.inl rfl) (pe_has G__law_bag hr (by decide) pass0 (pa_cons (pv 0) (pa_cons (pv 1) pa_nil))))
      (pss_cons (ps_set (i := 3) sc_law.nd rfl (Or.inl rfl) (pe_has G__law_machine hr (by decide) pass0 (pa_cons (pv 2) (pa_cons pe_int (pa_cons (pe_cmpR op_eq (pe_has G__law_take hr (by decide) pass0 (pa_cons (pv 2) (pa_cons pe_int pa_nil))) pe_int (nomark _)) (pa_cons (pe_ix (ix_listK (K := g.K)) (pe_lst (pa_cons pe_int (pa_cons pe_int (pa_cons pe_int pa_nil)))) (pe_has G__law_take hr (by decide) pass0 (pa_cons (pv 2) (pa_cons pe_int pa_nil))) (fun _ _ => rfl)) pa_nil))))))
      (pss_cons (ps_set (i := 4) sc_law.nd rfl (Or.inr rfl) (pe_has G__law_moved hr (by decide) pass0 (pa_cons (pv 2) (pa_cons (pv 3) pa_nil))))
      (pss_cons (ps_set (i := 5) sc_law.nd rfl (Or.inl rfl) (pe_hasM0 G_Bench_machine (pv 4) T.bench hr (by decide) pass0))
      (pss_cons (ps_set (i := 6) sc_law.nd rfl (Or.inl rfl) (pe_callTy (call_listK (K := g.K)) (by rfl) T.list (by decide +kernel) (pa_cons (pv 5) pa_nil)))
      (pss_cons (ps_setLc (i := 7) (own := [("_law_k", 13)]) (g := gName 13) (tt := tYes) rfl sc_law.nd rfl rfl (sw_true rfl rfl rfl (by decide +kernel)) (pi_range1 (by rfl) T.range (pa_cons (pe_callB (call_lenK (K := g.K)) (by rfl) T.len PySem.boot_len (pa_cons (pv 6) pa_nil)) pa_nil)) (blkOk_by (own := [("_law_k", 13)]) (N := ["_law_script", "_law_at", "_law_bag_here", "_law_machine_here", "_law_bench", "_law_told", "_law_kept", "_law_sums", "_law_old", "_law_new", "_law_state", "_law_number_here", "_law_due", "_law_k"]) (sc := defScope s_law) (by decide +kernel)) (fun _ _ _ _ _ => (pg_name (i := 13) sc_law.nd rfl (Or.inl rfl))) (fun _ _ _ _ _ => pts_nil) (fun _ _ _ _ _ => (pe_hasM G_Bench_moved (pv 4) T.bench hr (by decide) pass0 (pa_cons (pv 13) pa_nil))))
      (pss_cons (ps_set (i := 8) sc_law.nd rfl (Or.inl rfl) (pe_lst (pa_cons (pv 6) (pa_cons (pe_hasM0 G_Bench_stands (pv 4) T.bench hr (by decide) pass0) (pa_cons (pv 7) (pa_cons (pe_lst pa_nil) (pa_cons (pe_lst pa_nil) (pa_cons (pe_hasM0 G_Bench_deeds (pv 4) T.bench hr (by decide) pass0) pa_nil))))))))
      (pss_cons (ps_set (i := 9) sc_law.nd rfl (Or.inl rfl) (pe_hasC G_Bench hr (by decide) pass0 (pa_cons (pv 5) pa_nil)))
      (pss_cons (ps_set (i := 10) sc_law.nd rfl (Or.inl rfl) (pe_has G__law_fresh hr (by decide) pass0 (pa_cons (pv 6) pa_nil)))
      (pss_cons (ps_if (PW.pt (pw_or (pt_cmpR (op_neK (K := g.K) hr.units) (pe_ix (ix_listK (K := g.K)) (pv 8) pe_int (fun _ _ => rfl)) (pe_ix (ix_listK (K := g.K)) (pv 10) pe_int (fun _ _ => rfl)) (nomark _)) (pw_or (pt_not (pt_val (pe_has G__law_stands hr (by decide) pass0 (pa_cons (pv 9) (pa_cons (pv 10) pa_nil))))) (pw_or1 (pt_cmpR (op_neK (K := g.K) hr.units) (pe_has G__law_got hr (by decide) pass0 (pa_cons (pv 9) (pa_cons (pe_tup (pa_cons pe_str pa_nil)) pa_nil))) (pe_tup (pa_cons pe_str pa_nil)) (nomark _)))))) (pss_one (ps_ret pe_bl)) pss_nil)
      (pss_cons (ps_if (pt_not (pt_val (pe_has G__law_clutches_in hr (by decide) pass0 (pa_cons (pv 9) (pa_cons (pe_callB (call_lenK (K := g.K)) (by rfl) T.len PySem.boot_len (pa_cons (pv 6) pa_nil)) pa_nil))))) (pss_one (ps_ret pe_bl)) pss_nil)
      (pss_cons (ps_asg (pe_op op_mulW pe_int (pe_callB (call_lenK (K := g.K)) (by rfl) T.len PySem.boot_len (pa_cons (pv 6) pa_nil))) (pg_sub (pv 10) pe_int set_list))
      (pss_cons (ps_set (i := 11) sc_law.nd rfl (Or.inl rfl) (pe_has G__law_number hr (by decide) pass0 (pa_cons (pv 2) (pa_cons pe_int pa_nil))))
      (pss_cons (ps_asg (pe_has G__law_clicked hr (by decide) pass0 (pa_cons (pv 10) (pa_cons (pv 11) pa_nil))) (pg_tup rfl (pgs_cons (pg_name (i := 12) sc_law.nd rfl (Or.inl rfl)) (pgs_cons (pg_name (i := 10) sc_law.nd rfl (Or.inl rfl)) pgs_nil))))
      (pss_cons (ps_if (PW.pt (pw_or (pt_not (pt_val (pe_has G__law_same hr (by decide) pass0 (pa_cons (pe_has G__law_got hr (by decide) pass0 (pa_cons (pv 9) (pa_cons (pe_tup (pa_cons pe_str (pa_cons (pv 11) pa_nil))) pa_nil))) (pa_cons (pv 12) pa_nil))))) (pw_or1 (pt_not (pt_val (pe_has G__law_stands hr (by decide) pass0 (pa_cons (pv 9) (pa_cons (pv 10) pa_nil)))))))) (pss_one (ps_ret pe_bl)) pss_nil)
      (pss_one (ps_if (PW.pt (pw_or (pt_not (pt_val (pe_has G__law_stands hr (by decide) pass0 (pa_cons (pv 4) (pa_cons (pv 8) pa_nil))))) (pw_or (pt_not (pt_val (pe_has G__law_turns_so hr (by decide) pass0 (pa_cons (pv 5) pa_nil)))) (pw_or1 (pt_cmpR (op_neK (K := g.K) hr.units) (pv 5) (pv 6) (nomark _)))))) (pss_one (ps_ret pe_bl)) pss_nil))))))))))))))))))
      (pss_one (ps_ret pe_bl))), ?_⟩
    have kinds : ∀ r : Nat, r < 3 → ∃ kd : Nat, atI [V.int 0, .int 1, .int 3] (r : Int) = some (.int (kd : Int)) ∧ (kd = 0 ∨ kd = 1 ∨ kd = 3) := fun r hr => by
      rcases (show r = 0 ∨ r = 1 ∨ r = 2 by omega) with e | e | e <;> subst e
      · exact ⟨0, rfl, .inl rfl⟩
      · exact ⟨1, rfl, .inr (.inl rfl)⟩
      · exact ⟨3, rfl, .inr (.inr rfl)⟩
    have nof : ∀ {Hx : Hp} {p l : Addr} {j : Nat}, Bag Hx p j → Hx l = none → l ∉ [p] := fun b h z => by
      obtain ⟨_, _, _, e, _⟩ := b
      rw [← List.mem_singleton.mp z, h] at e
      cases e
    have top3 : ∀ i : Nat, i < ((if (if ((ns.map V.int).length : Int) < 3 then ((ns.map V.int).length : Int) else 3) > 1 then (if ((ns.map V.int).length : Int) < 3 then ((ns.map V.int).length : Int) else 3) else 1) : Int).toNat → i < 3 := fun i hi => by
      split at hi <;> (try split at hi) <;> omega
    refine ⟨_, rfl, _, _, rfl, .inl ha, _, _, rfl, _, _, rfl, _, rfl, ?_, ?_, for_it (walk_range (lo := 0) (n := _))
      (fun i σ H' => ∃ x1 x2 x3 x4 x5 x6 x7 x8 x9 x10 x11 x12, σ = [some (.ref a0), x1, x2, x3, x4, x5, x6, x7, x8, x9, x10, x11, x12, none] ∧ Same H H') ⟨none, none, none, none, none, none, none, none, none, none, none, none, rfl, Same.refl _⟩ (fun _ _ _ _ _ => True.intro) ?_ ?_⟩
    · split <;> (try split) <;> omega
    · split <;> (try split) <;> omega
    · rintro i x σ H0 Hx hi ⟨x1, x2, x3, x4, x5, x6, x7, x8, x9, x10, x11, x12, rfl, s00⟩ ⟨rfl, hx⟩
      obtain rfl := range_at hx
      have hi3 : i < 3 := top3 i hi
      refine ⟨_, rfl, _, rfl, a0, ns, i, rfl, sqL_same s00 ha, hi3, fun p H1 s01 hp0 b1 => ?_⟩
      refine ⟨_, rfl, _, rfl, p, 2, 0, rfl, b1, by decide, by decide, by decide, fun r2 H2 hr2 f2 b2 => ⟨rfl, (by show 3 ≤ sizeLine; decide), fun l3 hl3 => ?_⟩⟩
      have s3 := same_new (o := .lst [.int 0, .int 1, .int 3]) hl3
      have pl3 := nof b2 hl3
      refine ⟨_, rfl, p, 3, _, rfl, b2.same s3, by decide, by decide, by decide, fun r3 H3 hr3 f3 b3 => ?_⟩
      obtain ⟨kd, hat, hkd⟩ := kinds r3 hr3
      refine ⟨_, _, _, _, rfl, rfl, SqL.of (f3.get upd_same pl3), hat, p, decide (V.int (r2 : Int) = .int 0), kd, _, rfl, hkd, b3, by decide, fun m us rows H4 f4 hm0 b4 hm pm mach n1 n5 hz => ?_⟩
      have hmp : m ≠ p := by simpa using nof b3 hm0
      refine ⟨_, rfl, _, rfl, p, m, us, rows, _, rfl, b4, by decide, hmp, hm, pm, mach, n1, n5, hz, fun a b H5 nb b5 hpst => ?_⟩
      have s05 : Same Hx H5 := same_fr (same_fr s01 (((f2.trans (Fr.of (F := [p]) s3) fun _ m => .inl m).trans f3 fun _ m => .inl m).trans f4 fun _ m => .inl m) (fun y hy => by rw [List.mem_singleton.mp hy]; exact hp0)) nb.fr (fun y hy => by rw [List.mem_singleton.mp hy]; exact hp0)
      have nbn := nb.wf.n5
      have ls := nb.wf.ls
      have lu := nb.wf.lu
      have hb5 := nb.bench
      refine ⟨_, rfl, _, _, _, rfl, hb5.ob, rfl, a, b, rfl, hb5, nb.wf, fun tl H6 ut s6 htl0 htl put => ?_⟩
      have lut := put.length
      rw [nb.wf.toldLen] at lut
      refine ⟨_, rfl, _, _, rfl, .inl (SqL.of htl), fun kl hkl => ?_⟩
      have s7 := same_new (o := .lst ut) hkl
      have s57 := s6.trans s7
      have hb7 := hb5.same s57
      refine ⟨_, rfl, _, _, rfl, .inl (SqL.of upd_same), _, rfl, by omega, by omega, lc_map (walk_range (lo := 0) (n := _)) (fun D H y i => ∃ q, b.sums[i]? = some q ∧ Nm g.K H y q) (by omega) (fun D l Ha Hb y i hD hk ⟨q, e, h⟩ => ⟨q, e, h.but hD hk⟩) (fun _ _ => True.intro) ?_ ?_⟩
      · rintro D j y Hj Hj2 Nx hj hD sj hl ⟨rfl, hy⟩ q0
        obtain rfl := range_at hy
        obtain ⟨q, hq⟩ := ex_at (xs := b.sums) (i := j) (by rw [Int.toNat_natCast] at hj; omega)
        have hbj := hb7.same sj
        exact ⟨rfl, _, rfl, _, _, _, rfl, hbj.ob, rfl, _, rfl, a, b, j, q, rfl, hbj, hq, fun v nv => q0 v _ (Same.refl _) ⟨q, hq, nv⟩⟩
      intro ul uu H8 hul0 s8 hul luu huu
      rw [Int.toNat_natCast] at luu
      have puu : Paired (Nm g.K H8) uu b.sums := pd_of (by omega) fun j y hj => let ⟨q, e, n⟩ := huu j y hj; ⟨q, e, n⟩
      have s58 := s57.trans s8
      have hb8 := hb5.same s58
      refine ⟨_, rfl, _, rfl, _, _, _, rfl, hb8.ob, rfl, a, b, rfl, hb8, fun sl H9 su s9 hsl0 hsl psu => ?_⟩
      refine ⟨_, rfl, (by show 0 ≤ sizeLine; decide), fun e1 he1 => ⟨(by show 0 ≤ sizeLine; decide), fun e2 he2 => ?_⟩⟩
      have y1 := same_new (o := .lst []) he1
      have y2 := same_new (o := .lst []) he2
      have s5b := (s58.trans s9).trans (y1.trans y2)
      have hbb := hb5.same s5b
      refine ⟨_, rfl, _, _, _, rfl, hbb.ob, rfl, a, b, rfl, hbb, (by show 6 ≤ sizeLine; decide), fun obA hob => ?_⟩
      have y3 := same_new (o := .lst [.ref kl, .ref sl, .ref ul, .ref e1, .ref e2, .int (b.past : Int)]) hob
      have s9a := (y1.trans y2).trans y3
      have s8a := s9.trans s9a
      have s7a := s8.trans s8a
      have s6a := s7.trans s7a
      have s5a := s6.trans s6a
      have old10 : OldAt g.K (upd (upd (upd H9 e1 (.lst [])) e2 (.lst [])) obA (.lst [.ref kl, .ref sl, .ref ul, .ref e1, .ref e2, .int (b.past : Int)])) ⟨a, tl, kl, sl, ul, obA⟩ b (.ref e1) (.ref e2) :=
        ⟨hb5.same s5a, ⟨ut, s6a _ _ htl, s7a _ _ upd_same, put.mono fun _ _ z => Rw.same s6a z⟩, ⟨su, s9a _ _ hsl, psu.mono fun _ _ z => z.same s9a⟩, ⟨uu, s8a _ _ hul, puu.mono fun _ _ z => z.same s8a⟩, upd_same⟩
      have b10 := b5.same s5a
      have s10 := s05.trans s5a
      have dPo : Dis (OldA.mk a tl kl sl ul obA).all [p] := fun y hy z => by
        have ey := List.mem_singleton.mp z
        rcases List.mem_append.mp hy with h | h
        · exact nb.pn (ey ▸ h)
        · simp only [List.mem_cons, List.not_mem_nil, or_false] at h
          rcases h with rfl | rfl | rfl | rfl | rfl
          · exact nof b5 htl0 z
          · exact nof (b5.same s6) hkl z
          · exact nof (b5.same s58) hsl0 z
          · exact nof (b5.same s57) hul0 z
          · exact nof (b5.same s5b) hob z
      generalize upd (upd (upd H9 e1 (.lst [])) e2 (.lst [])) obA (.lst [.ref kl, .ref sl, .ref ul, .ref e1, .ref e2, .int (b.past : Int)]) = H10 at old10 b10 s10 ⊢
      -- the new bench
      have wfn := nb.wf.told
      refine ⟨_, rfl, fun x dx hx dhx hne => ?_⟩
      have t1 := same_new (o := .own x) dhx
      have hxa : upd H10 dx (.own x) x = none := by rw [upd_ne (Ne.symm hne)]; exact hx
      have t2 := t1.trans (same_new (o := .ins (He.ga g.K "Bench") dx []) hxa)
      obtain ⟨vt, rt1, rt2, pt⟩ := (old10.same t2).rows
      refine ⟨x, dx, tl, vt, b.told, rfl, upd_same, rt1, pt, by rw [nb.wf.toldLen]; omega, fun a2 H11 ha2 hadx f11 bench11 fp11 => ⟨rfl, ?_⟩⟩
      subst ha2
      have n11 : ∀ y ∈ [a2.p], H10 y = none := fun y hy => by rw [List.mem_singleton.mp hy]; exact hx
      have s11 : Same H10 H11 := same_fr t2 f11 n11
      have fp2 : ∀ y ∈ a2.fp, H10 y = none := fun y hy => by
        rcases fp11 y hy with z | z
        · rw [z]; exact hx
        · exact none_of t2 z
      have old11 := old10.same s11
      obtain ⟨vk, _, rk2, pk⟩ := old11.rows
      refine ⟨_, rfl, kl, vk, b.told, rfl, rk2, pk, by rw [nb.wf.toldLen]; omega, fun s t H12 s12 hst0 hsn st12 => ?_⟩
      have old12 := old11.same s12
      have b12 := (b10.same s11).same s12
      have hb12 := bench11.same s12
      have dO2 : Dis (OldA.mk a tl kl sl ul obA).all a2.fp := Dis.fresh old10.tr fp2
      have dS2 : Dis (s :: t.all) a2.fp := fun y hy z => bench11.there y z (hst0 y hy)
      have dSp : Dis (s :: t.all) [p] := fun y hy z => nof (b10.same s11) (hst0 y hy) z
      have dSo : Dis (OldA.mk a tl kl sl ul obA).all [s] := fun y hy z => old11.tr y hy (by rw [List.mem_singleton.mp z]; exact hst0 s List.mem_cons_self)
      have dp2 : p ∉ a2.fp := fun z => by
        obtain ⟨_, _, _, e, _⟩ := b10
        rw [fp2 p z] at e
        cases e
      -- what stands at first
      obtain ⟨v1, r1, p1⟩ := st12.rows
      obtain ⟨v2, r2', p2⟩ := st12.stood
      obtain ⟨v3, r3', p3⟩ := st12.sums
      obtain ⟨w2, q2, k2⟩ := old12.stood
      have dA := list_dp (R := Nm g.K _) (K := g.K) (fun _ _ z => z.dp) q2 k2
      have dB := list_dp (R := Nm g.K _) (K := g.K) (fun _ _ z => z.dp) r2' p2
      rw [show (fresh b.told).stood = b.stood from told_starts nb.wf] at dB
      have okS : OkD 2 (.list (b.stood.map nmD)) := okD_map okD_nm (by omega)
      refine ⟨_, rfl, _, _, _, _, rfl, rfl, SqL.of old12.ob, rfl, _, rfl, _, _, _, _, rfl, rfl, SqL.of st12.ob, rfl, _, _, dA, dB, okS.shaped (by decide), okS.shaped (by decide), _, rfl, ?_⟩
      rw [PySem.SeqAt.eqv_refl _ okS.cl]
      refine iteF ⟨_, rfl, _, rfl, a2, fresh b.told, s, t.rl, t.sl, t.ul, _, _, v1, v2, v3, b.told, rfl, hb12, wfn, st12.ob, r1, p1, r2', p2, r3', p3, rfl, rfl, fun H13 s13 => ⟨_, rfl, iteF ?_⟩⟩
      refine ⟨_, rfl, (by show 1 ≤ sizeLine; decide), fun tu htu => ?_⟩
      have z14 := same_new (o := .tup [.str "undo"]) htu
      have s12e := s13.trans z14
      refine ⟨a2, fresh b.told, tu, .undo, rfl, hb12.same s12e, wfn, (by show 0 ≤ 20; decide), .undo (.inl (.inl upd_same)), rfl, fun a3 H15 v15 D15 m15 dv15 rd15 => ⟨(by show 1 ≤ sizeLine; decide), fun cu hcu => ?_⟩⟩
      have rd15' : D15 = .tuple [.str "NoDeed"] := rd15
      subst rd15'
      have m15' : Moved g.K _ a2 H15 a3 (fresh b.told) := m15
      have z15 := same_new (o := .tup [.str "NoDeed"]) hcu
      have okN : OkD 1 (.tuple [.str "NoDeed"]) := okD1 (okD_str (by decide +kernel))
      refine ⟨_, .tuple [.str "NoDeed"], Dp.same z15 _ _ dv15, .tup (.inl (.inl upd_same)) (.cons (.str _) .nil), okN.shaped (by decide), okN.shaped (by decide), _, rfl, ?_⟩
      rw [PySem.SeqAt.eqv_refl _ okN.cl]
      refine iteF ?_
      have old15 := ((old12.same s12e).fr m15'.fr dO2).same z15
      have st15 := ((st12.same s12e).fr m15'.fr dS2).same z15
      have b15 := ((b12.same s12e).fr m15'.fr dp2).same z15
      have dO3 := dO2.moved (old12.same s12e).tr m15'
      have dS3 := dS2.moved (st12.same s12e).tr m15'
      have dp3 : p ∉ a3.fp := fun z => by
        rcases m15'.fp p z with h | h
        · exact dp2 h
        · obtain ⟨_, _, _, e, _⟩ := b12.same s12e
          rw [h] at e
          cases e
      have hb15 := m15'.bench.same z15
      have s1215 : Same Hx _ := same_fr (((s10.trans s11).trans s12).trans s12e) m15'.fr fun y hy => none_of s10 (fp2 y hy)
      have s15 := s1215.trans z15
      have f3n : ∀ y ∈ a3.fp, Hx y = none := fun y hy => by
        rcases m15'.fp y hy with h | h
        · exact none_of s10 (fp2 y h)
        · exact none_of (((s10.trans s11).trans s12).trans s12e) h
      generalize upd H15 cu (.tup [.str "NoDeed"]) = H16 at old15 st15 b15 hb15 s15 ⊢
      clear dv15
      -- the clutches
      obtain ⟨vq, rq1, rq2, pq⟩ := old15.rows
      have lvq := pq.length
      have hout : ∀ o ∈ (fresh b.told).outs, o = false := fun o ho => by
        obtain ⟨_, _, rfl⟩ := List.mem_map.mp ho
        rfl
      have hlim : ∀ l ∈ (fresh b.told).lims, l = (none, none) := fun l hl => by
        obtain ⟨_, _, rfl⟩ := List.mem_map.mp hl
        rfl
      refine ⟨_, rfl, _, rfl, _, _, rfl, .inl (SqL.of rq2), a3, fresh b.told, vq.length, by rw [m15'.p]; rfl, hb15, wfn, hout, lvq, rfl, fun a4 H17 m17 => ⟨_, rfl, iteF ?_⟩⟩
      have old17 := old15.fr m17.fr dO3
      have st17 := st15.fr m17.fr dS3
      have b17 := b15.fr m17.fr dp3
      have dO4 := dO3.moved old15.tr m17
      have dS4 := dS3.moved st15.tr m17
      have dp4 : p ∉ a4.fp := fun z => by
        rcases m17.fp p z with h | h
        · exact dp3 h
        · obtain ⟨_, _, _, e, _⟩ := b15
          rw [h] at e
          cases e
      have s17 : Same Hx H17 := same_fr s15 m17.fr f3n
      have f4n : ∀ y ∈ a4.fp, Hx y = none := fun y hy => by
        rcases m17.fp y hy with h | h
        · exact f3n y h
        · exact none_of s15 h
      have e4p : a4.p = a2.p := m17.p.trans m15'.p
      have n5v : vq.length ≤ 5 := by rw [lvq, nb.wf.toldLen]; omega
      have s0n : Hx s = none := none_of (s10.trans s11) (hst0 s List.mem_cons_self)
      -- what is counted
      obtain ⟨vq2, _, rq3, pq2⟩ := old17.rows
      have lvq2 : vq2.length = vq.length := pq2.length.trans lvq.symm
      refine ⟨_, rfl, _, _, rfl, .inl (SqL.of rq3), _, _, rfl, rfl, two_mul (by omega), _, rfl, _, _, _, _, rfl, rfl, st17.ob, rfl, ?_⟩
      have f18 : Fr [s] H17 (upd H17 s (.lst [.ref t.rl, .ref t.sl, .ref t.ul, .ref t.ol, .ref t.ll, .int (2 * (vq2.length : Int))])) := Fr.wr st17.ob nz_lst (by simp)
      have old18 := old17.fr f18 dSo
      have b18 := b17.fr f18 fun z => dSp s List.mem_cons_self (by rw [List.mem_singleton.mp z]; simp)
      have ns4 : s ∉ a4.fp := dS4 s List.mem_cons_self
      have hb18 := m17.bench.fr f18 fun y hy z => ns4 (by rw [← List.mem_singleton.mp z]; exact hy)
      have s18 : Same Hx _ := same_fr s17 f18 fun y hy => by rw [List.mem_singleton.mp hy]; exact s0n
      have st18 : StAt g.K (upd H17 s (.lst [.ref t.rl, .ref t.sl, .ref t.ul, .ref t.ol, .ref t.ll, .int (2 * (vq2.length : Int))])) s t { fresh b.told with past := 2 * vq.length } := by
        have k : ∀ y u, y ∈ t.all → H17 y = some u → upd H17 s (.lst [.ref t.rl, .ref t.sl, .ref t.ul, .ref t.ol, .ref t.ll, .int (2 * (vq2.length : Int))]) y = some u := fun y u m e => f18.get e fun z => hsn (by rw [← List.mem_singleton.mp z]; exact m)
        obtain ⟨c1, d1, g1⟩ := st17.rows
        obtain ⟨c2, d2, g2⟩ := st17.stood
        obtain ⟨c3, d3, g3⟩ := st17.sums
        obtain ⟨c5, d5, g5⟩ := st17.lims
        refine ⟨?_, ⟨c1, k _ _ (by simp [StA.all]) d1, g1.mono fun _ _ z => Rw.fr f18 z⟩, ⟨c2, k _ _ (by simp [StA.all]) d2, g2.mono fun _ _ z => Nm.fr f18 z⟩, ⟨c3, k _ _ (by simp [StA.all]) d3, g3.mono fun _ _ z => Nm.fr f18 z⟩, k _ _ (by simp [StA.all]) st17.outs, ⟨c5, k _ _ (by simp [StA.all]) d5, g5.mono fun _ _ z => Lm.fr f18 z⟩⟩
        rw [upd_same, lvq2]
        show _ = some (HO.lst [_, _, _, _, _, V.int ((2 * vq.length : Nat) : Int)])
        rw [Int.natCast_mul]
        rfl
      generalize hbc : ({ fresh b.told with past := 2 * vq.length } : B) = bc at st18 hb18 m17
      have pc : bc.past ≤ 10 := by rw [← hbc]; show 2 * vq.length ≤ 10; omega
      have oc : ∀ o ∈ bc.outs, o = false := by rw [← hbc]; exact hout
      have lc : ∀ l ∈ bc.lims, l = (none, none) := by rw [← hbc]; exact hlim
      have wfc : WF bc := by
        rw [← hbc]
        exact ⟨wfn.n1, wfn.n5, wfn.ls, wfn.lu, wfn.lo, wfn.ll, wfn.m, wfn.zr, wfn.zs, fun q hq => (wfn.zu q hq).mono (by show 402 * 0 + 1 ≤ _; omega), wfn.zl⟩
      refine ⟨_, rfl, p, 1, _, rfl, .inr (.inl rfl), b18, by decide, fun w q H19 f19 b19 nw zq => ?_⟩
      have old19 := old18.fr f19 dPo
      have st19 := st18.fr f19 dSp
      have hb19 := hb18.fr f19 fun y hy z => dp4 (by rw [← List.mem_singleton.mp z]; exact hy)
      have s19 : Same Hx H19 := same_fr s18 f19 fun y hy => by rw [List.mem_singleton.mp hy]; exact hp0
      refine ⟨_, rfl, _, rfl, s, t, bc, w, q, rfl, st19, wfc, by omega, oc, lc, nw, zq.mono (by decide), fun hlong v d H20 s20 hv hd => ?_, fun hlong v d s' t' pm us20 H20 hpm0 s20 hv hd hpm pus20 stN frs20 => ?_⟩
      · refine ⟨v, _, rfl, .inl (.inl hv), rfl, _, _, rfl, _, _, rfl, rfl, ?_⟩
        have oldC := old19.same s20
        have hbC := hb19.same s20
        have nwC := nw.same s20
        have sC := s19.trans s20
        have duT : SqT g.K H20 d [.str "TooFar"] := .inl (.inl hd)
        have ek : bc.click q = .no "TooFar" := by rw [click_fresh lc, if_pos hlong]
        have stC : StAt g.K H20 s t (after bc (bc.click q)) := by rw [ek]; exact st19.same s20
        have dS4C : Dis (s :: t.all) a4.fp := dS4
        -- the next click, and all stands
        have n19 := nw
        refine ⟨_, rfl, _, rfl, (by show 2 ≤ sizeLine; decide), fun tc htc => ?_⟩
        have z20 := same_new (o := .tup [.str "click", w]) htc
        have nb20 := hbC.same z20
        refine ⟨a4, bc, tc, .click q, by rw [e4p]; rfl, nb20, wfc, by show bc.past ≤ 20; omega, .click (.inl (.inl upd_same)) ((nwC).same z20), zq.mono (by decide), fun a5 H21 v21 D21 m21 dv21 rd21 => ?_⟩
        have bnew := after_ok (e := .click q) wfc (show Sz 20 q from zq.mono (by decide))
        have tr20 := oldC.same z20
        have st20 := stC.same z20
        have old21 := tr20.fr m21.fr dO4
        have st21 := st20.fr m21.fr dS4C
        have hdu := m21.fr.tup (Same.tup z20 duT)
        have dS5 := dS4C.moved st20.tr m21
        have dO5 := dO4.moved tr20.tr m21
        have s21 := same_fr (sC.trans z20) m21.fr f4n
        have e21 : D21 = .tuple [.str "TooFar"] := by
          have r : ResD (bc.click q) D21 := rd21
          rw [ek] at r
          exact r
        subst e21
        have hdd : Dp g.K H21 (.ref d) (.tuple [.str "TooFar"]) := .tup hdu (.cons (.str _) .nil)
        have okDD : OkD 3 (.tuple [.str "TooFar"]) := (okD1 (okD_str (by decide +kernel))).mono (by decide)
        have okd : OkD 3 (.tuple [.str "TooFar"]) := okDD
        refine ⟨_, rfl, v21, .ref d, (.tuple [.str "TooFar"]), rfl, dv21, hdd, okd.cl, okd.sm, Nat.lt_of_le_of_lt okd.dp (by decide), by decide, fun H22 s22 => ⟨_, rfl, iteF ?_⟩⟩
        have st22 := st21.same s22
        have hb22 := m21.bench.same s22
        obtain ⟨w1, g1, h1⟩ := st22.rows
        obtain ⟨w2, g2, h2⟩ := st22.stood
        obtain ⟨w3, g3, h3⟩ := st22.sums
        refine ⟨_, rfl, _, rfl, a5, after bc (bc.click q), s, (t).rl, (t).sl, (t).ul, _, _, w1, w2, w3, _, by rw [m21.p, e4p]; rfl, hb22, bnew.1, st22.ob, g1, h1, g2, h2, g3, h3, rfl, rfl, fun H23 s23 => ⟨_, rfl, iteF ?_⟩⟩
        have old23 := (old21.same s22).same s23
        obtain ⟨v1, r1, r2, q1⟩ := old23.rows
        obtain ⟨v2, r3, q2⟩ := old23.stood
        obtain ⟨v3, r4, q3⟩ := old23.sums
        refine ⟨_, rfl, _, rfl, a, b, obA, kl, sl, ul, _, _, v1, v2, v3, b.told, rfl, old23.bench, nb.wf, old23.ob, r2, q1, r3, q2, r4, q3, nb.wf.toldLen, ats_told nb.wf, fun H24 s24 => ⟨_, rfl, iteF ?_⟩⟩
        refine ⟨_, rfl, tl, v1, b.told, rfl, s24 _ _ r1, q1.mono (fun _ _ z => Rw.same s24 z), wfn.m, wfn.n5, wfn.zr, fun H25 s25 => ⟨_, rfl, iteF ?_⟩⟩
        have s245 := s24.trans s25
        have d1 := list_dp (R := Rw g.K _) (K := g.K) (fun _ _ z => z.dp) (s245 _ _ r1) (q1.mono fun _ _ z => Rw.same s245 z)
        have d2 := list_dp (R := Rw g.K _) (K := g.K) (fun _ _ z => z.dp) (s245 _ _ r2) (q1.mono fun _ _ z => Rw.same s245 z)
        have okR : OkD 3 (.list (b.told.map rowD)) := okD_map okD_row (by rw [nb.wf.toldLen]; have := nb.wf.n5; omega)
        refine ⟨_, rfl, _, rfl, _, _, d1, d2, okR.shaped (by decide), okR.shaped (by decide), _, rfl, ?_⟩
        rw [PySem.SeqAt.eqv_refl _ okR.cl]
        exact iteF ⟨_, _, _, _, _, _, _, _, _, _, _, _, rfl, s00.trans (((s21.trans s22).trans s23).trans s245)⟩
      · refine ⟨v, _, rfl, .inl (.inl hv), rfl, _, _, rfl, _, _, rfl, rfl, ?_⟩
        have oldC := old19.same s20
        have hbC := hb19.same s20
        have nwC := nw.same s20
        have sC := s19.trans s20
        have duT : SqT g.K H20 d [.str "told", .ref pm] := .inl (.inl hd)
        have nl : ¬ (bc.ahead q).any long = true := by rw [hlong]; exact Bool.false_ne_true
        have ek : bc.click q = .ok (some (bc.moves q)) { bc with stood := bc.ahead q, sums := adds bc.sums (bc.moves q), past := bc.past + 1 } := by rw [click_fresh lc, if_neg nl]
        have stC : StAt g.K H20 s' t' (after bc (bc.click q)) := by rw [ek]; exact stN
        have dS4C : Dis (s' :: t'.all) a4.fp := fun y hy z => by
          rcases frs20 y hy with h | h
          · exact dS4 y h z
          · exact hb19.there y z h
        have hpmn : pm ∉ a4.fp := fun z => hb19.there pm z hpm0
        -- the next click, and all stands
        have n19 := nw
        refine ⟨_, rfl, _, rfl, (by show 2 ≤ sizeLine; decide), fun tc htc => ?_⟩
        have z20 := same_new (o := .tup [.str "click", w]) htc
        have nb20 := hbC.same z20
        refine ⟨a4, bc, tc, .click q, by rw [e4p]; rfl, nb20, wfc, by show bc.past ≤ 20; omega, .click (.inl (.inl upd_same)) ((nwC).same z20), zq.mono (by decide), fun a5 H21 v21 D21 m21 dv21 rd21 => ?_⟩
        have bnew := after_ok (e := .click q) wfc (show Sz 20 q from zq.mono (by decide))
        have tr20 := oldC.same z20
        have st20 := stC.same z20
        have old21 := tr20.fr m21.fr dO4
        have st21 := st20.fr m21.fr dS4C
        have hdu := m21.fr.tup (Same.tup z20 duT)
        have dS5 := dS4C.moved st20.tr m21
        have dO5 := dO4.moved tr20.tr m21
        have s21 := same_fr (sC.trans z20) m21.fr f4n
        have e21 : D21 = .tuple [.str "told", .list ((bc.moves q).map nmD)] := by
          have r : ResD (bc.click q) D21 := rd21
          rw [ek] at r
          exact r
        subst e21
        have hdd : Dp g.K H21 (.ref d) (.tuple [.str "told", .list ((bc.moves q).map nmD)]) := .tup hdu (.cons (.str _) (.cons (list_dp (R := Nm g.K _) (fun _ _ z => z.dp) (m21.fr.get (z20 _ _ hpm) hpmn) (pus20.mono fun _ _ z => (z.same z20).fr m21.fr)) .nil))
        have okDD : OkD 3 (.tuple [.str "told", .list ((bc.moves q).map nmD)]) := okD2 ((okD_str (by decide +kernel)).mono (by decide)) (okD_map okD_nm (by rw [moves_len]; have := wfc.n5; omega))
        have okd : OkD 3 (.tuple [.str "told", .list ((bc.moves q).map nmD)]) := okDD
        refine ⟨_, rfl, v21, .ref d, (.tuple [.str "told", .list ((bc.moves q).map nmD)]), rfl, dv21, hdd, okd.cl, okd.sm, Nat.lt_of_le_of_lt okd.dp (by decide), by decide, fun H22 s22 => ⟨_, rfl, iteF ?_⟩⟩
        have st22 := st21.same s22
        have hb22 := m21.bench.same s22
        obtain ⟨w1, g1, h1⟩ := st22.rows
        obtain ⟨w2, g2, h2⟩ := st22.stood
        obtain ⟨w3, g3, h3⟩ := st22.sums
        refine ⟨_, rfl, _, rfl, a5, after bc (bc.click q), s', (t').rl, (t').sl, (t').ul, _, _, w1, w2, w3, _, by rw [m21.p, e4p]; rfl, hb22, bnew.1, st22.ob, g1, h1, g2, h2, g3, h3, rfl, rfl, fun H23 s23 => ⟨_, rfl, iteF ?_⟩⟩
        have old23 := (old21.same s22).same s23
        obtain ⟨v1, r1, r2, q1⟩ := old23.rows
        obtain ⟨v2, r3, q2⟩ := old23.stood
        obtain ⟨v3, r4, q3⟩ := old23.sums
        refine ⟨_, rfl, _, rfl, a, b, obA, kl, sl, ul, _, _, v1, v2, v3, b.told, rfl, old23.bench, nb.wf, old23.ob, r2, q1, r3, q2, r4, q3, nb.wf.toldLen, ats_told nb.wf, fun H24 s24 => ⟨_, rfl, iteF ?_⟩⟩
        refine ⟨_, rfl, tl, v1, b.told, rfl, s24 _ _ r1, q1.mono (fun _ _ z => Rw.same s24 z), wfn.m, wfn.n5, wfn.zr, fun H25 s25 => ⟨_, rfl, iteF ?_⟩⟩
        have s245 := s24.trans s25
        have d1 := list_dp (R := Rw g.K _) (K := g.K) (fun _ _ z => z.dp) (s245 _ _ r1) (q1.mono fun _ _ z => Rw.same s245 z)
        have d2 := list_dp (R := Rw g.K _) (K := g.K) (fun _ _ z => z.dp) (s245 _ _ r2) (q1.mono fun _ _ z => Rw.same s245 z)
        have okR : OkD 3 (.list (b.told.map rowD)) := okD_map okD_row (by rw [nb.wf.toldLen]; have := nb.wf.n5; omega)
        refine ⟨_, rfl, _, rfl, _, _, d1, d2, okR.shaped (by decide), okR.shaped (by decide), _, rfl, ?_⟩
        rw [PySem.SeqAt.eqv_refl _ okR.cl]
        exact iteF ⟨_, _, _, _, _, _, _, _, _, _, _, _, rfl, s00.trans (((s21.trans s22).trans s23).trans s245)⟩
    · rintro σ H3 ⟨x1, x2, x3, x4, x5, x6, x7, x8, x9, x10, x11, x12, rfl, s3⟩
      exact kk H3 s3
end
end K79
end

section
set_option linter.all false
set_option maxRecDepth 100000
set_option maxHeartbeats 0
/-! K79H: the head: the defs as data, the facts, the top's run. -/
namespace K79
open PySem PySem.Spec PyProof.Rows L2
/-! ### facts of one's own, looked at -/
def xTup (x : Str) (vs : List He.Dv) (K : PySem.W.Frag) : Bool := He.tupB K x vs
def xNought : PySem.W.Frag → Bool := xTup "NOUGHT" [.int 0, .int 1]
def xOne : PySem.W.Frag → Bool := xTup "ONE" [.int 1, .int 1]
def xOex (c : Str × Str) (K : PySem.W.Frag) : Bool := oexB K (He.ga K c.1)
def xSet (c : Str × Str) (K : PySem.W.Frag) : Bool := He.eqO (PySem.W.findIn K (.ref (He.ga K c.1)) "__setattr__") (some (some (.builtin "object.__setattr__")))
def xSub (c : Str × Str) (K : PySem.W.Frag) : Bool := decide (PySem.W.subIn K (.ref (He.ga K c.1)) (.type "BaseException") = some true)
def xTy (c : Str × Str) (K : PySem.W.Frag) : Bool := decide (PySem.W.typeIn K (.ref (He.ga K c.1)) = some (.type "type"))
def xKeep (c : Str × Str) (K : PySem.W.Frag) : Bool := PySem.W.keepIn K (.ref (He.ga K c.1))
def xNo (c : Str × Str) (K : PySem.W.Frag) : Bool := He.eqO (PySem.W.findIn K (.ref (He.ga K c.1)) c.2) (some none)
def xIni (c : Str × Str) (K : PySem.W.Frag) : Bool := He.eqO (PySem.W.findIn K (.ref (He.ga K c.1)) "__init__") (some (some (.ref (He.ma K (He.ga K c.1) "__init__"))))
def xFun (c : Str × Str) (K : PySem.W.Frag) : Bool := decide (PySem.W.typeIn K (.ref (He.ma K (He.ga K c.1) "__init__")) = some (.type "function"))
def excB (K : PySem.W.Frag) (D : Addr) : Bool := He.eqO (PySem.W.findIn K (.ref D) "__getattribute__") (some (some (.builtin "BaseException.__getattribute__"))) && (He.eqO (PySem.W.findIn K (.ref D) "__getattr__") (some none) && (decide (PySem.W.subIn K (.ref D) (.type "BaseException") = some true) &&
  (PySem.W.hasDictIn K D && (He.eqO (PySem.W.findIn K (.ref D) "__class__") (some (some (.builtin "object.__class__"))) && (He.eqO (PySem.W.specialIn K (.builtin "object.__class__") "__get__") (some (some (.builtin "getset_descriptor.__get__"))) &&
  (decide (PySem.W.takesIn K (.builtin "object.__class__") = some true) && decide (PySem.W.mroIn K D (.type "object") = some true)))))))
theorem excB_ok {K : PySem.W.Frag} {D : Addr} (h : excB K D = true) : ExcC K D := by
  obtain ⟨h1, h⟩ := He.ba h
  obtain ⟨h2, h⟩ := He.ba h
  obtain ⟨h3, h⟩ := He.ba h
  obtain ⟨h4, h⟩ := He.ba h
  obtain ⟨h5, h⟩ := He.ba h
  obtain ⟨h6, h⟩ := He.ba h
  obtain ⟨h7, h8⟩ := He.ba h
  exact ⟨He.eqO_ok h1, He.eqO_ok h2, of_decide_eq_true h3, h4, He.eqO_ok h5, He.eqO_ok h6, of_decide_eq_true h7, of_decide_eq_true h8⟩
def xExc (K : PySem.W.Frag) : Bool := raised7.all fun x => excB K (He.ga K x)
def xOne17 (K : PySem.W.Frag) : Bool := raised7.all fun x => all17.all fun y => decide (PySem.W.kitOne K (.ref (He.ga K x)) (.ref (He.ga K y)) = some (decide (x = y)))
def xVe (K : PySem.W.Frag) : Bool := raised7.all fun x => decide (PySem.W.kitOne K (.ref (He.ga K x)) (.type "ValueError") = some true)
def xStop (K : PySem.W.Frag) : Bool := raised7.all fun x => decide (PySem.W.exmOne K (.ref (He.ga K x)) (.ref (He.ga K "Stopped")) = some (decide (x = "Stopped")))
def xRing (K : PySem.W.Frag) : Bool := raised7.all fun x => decide (PySem.W.exmOne K (.ref (He.ga K x)) (.ref (He.ga K "Ring")) = some (decide (x = "Ring")))
def xRoll (K : PySem.W.Frag) : Bool := raised7.all fun x => decide (PySem.W.exmOne K (.ref (He.ga K x)) (.ref (He.ga K "RollError")) = some true)
/-! ### the Hook, with these -/
/-- what is reached in just n steps from the module's names -/
def lvl (g : Addr → Option Obj) : Nat → List Addr
  | 0 => [mainGlobals]
  | n + 1 => (lvl g n).flatMap fun a => match g a with
    | some o => He.refsD o
    | none => []
def asF (g : Addr → Option Obj) : Nat → List Addr
  | 0 => lvl g 0
  | n + 1 => asF g n ++ lvl g (n + 1)
def obsX (fa : List He.Fa) (fn : List He.DefD) (xs : List (PySem.W.Frag → Bool)) (K : PySem.W.Frag) : Bool × He.AlD := (xs.all fun x => x K, He.obsD fa fn K)
def SaysX (fa : List He.Fa) (fn : List He.DefD) (xs : List (PySem.W.Frag → Bool)) (K : PySem.W.Frag) : Prop := obsX fa fn xs K = (true, He.valD fn)
def obsXG (n : Nat) (fa : List He.Fa) (fn : List He.DefD) (xs : List (PySem.W.Frag → Bool)) (g : Addr → Option Obj) : Bool × He.AlD := obsX fa fn xs (He.frG g (asF g n))
def hookX (n : Nat) (fa : List He.Fa) (fn : List He.DefD) (xs : List (PySem.W.Frag → Bool)) : PySem.W.Hook where
  α := Bool × He.AlD
  obs := fun s => obsXG n fa fn xs s.heap.get?
  val := fun _ => (true, He.valD fn)
  says := fun _ h => ∃ K : PySem.W.Frag, K.In h ∧ SaysX fa fn xs K
  of := fun _ _ e => ⟨_, He.frG_in, e⟩
  keeps := fun _ _ _ ⟨K, hK, c⟩ k => ⟨K, PySem.W.Frag.In.keeps hK k, c⟩
theorem obsXG_eq {n : Nat} {fa : List He.Fa} {fn : List He.DefD} {xs : List (PySem.W.Frag → Bool)} {g : Addr → Option Obj} {s : Shared} (h : ∀ a, g a = s.heap.get? a) : obsXG n fa fn xs g = (hookX n fa fn xs).obs s := by
  have e : g = s.heap.get? := funext h
  rw [e] <;> rfl
section
variable {fa : List He.Fa} {fn : List He.DefD} {xs : List (PySem.W.Frag → Bool)} {K : PySem.W.Frag}
theorem SaysX.d (c : SaysX fa fn xs K) : He.SaysD fa fn K := congrArg (fun z : Bool × He.AlD => z.2) c
theorem SaysX.x (c : SaysX fa fn xs K) (i : Nat) {f : PySem.W.Frag → Bool} (h : xs[i]? = some f := by rfl) : f K = true := List.all_eq_true.mp (show (xs.all fun x => x K) = true from congrArg (fun z : Bool × He.AlD => z.1) c) f (List.mem_of_getElem? h)
end
def d_Ring___init__ : He.DefD := ⟨("Ring", some "__init__"), "__init__", "Ring.__init__", defArgs (inClass (top 5) 0), defBody (inClass (top 5) 0), defScope (inClass (top 5) 0), [], []⟩
def d_Stopped___init__ : He.DefD := ⟨("Stopped", some "__init__"), "__init__", "Stopped.__init__", defArgs (inClass (top 10) 0), defBody (inClass (top 10) 0), defScope (inClass (top 10) 0), [], []⟩
def d_is_whole : He.DefD := ⟨("is_whole", none), "is_whole", "is_whole", defArgs (top 22), defBody (top 22), defScope (top 22), [], []⟩
def d_shared : He.DefD := ⟨("shared", none), "shared", "shared", defArgs (top 23), defBody (top 23), defScope (top 23), [], []⟩
def d_is_number : He.DefD := ⟨("is_number", none), "is_number", "is_number", defArgs (top 24), defBody (top 24), defScope (top 24), [], []⟩
def d_fraction : He.DefD := ⟨("fraction", none), "fraction", "fraction", defArgs (top 25), defBody (top 25), defScope (top 25), [], []⟩
def d_plus : He.DefD := ⟨("plus", none), "plus", "plus", defArgs (top 26), defBody (top 26), defScope (top 26), [], []⟩
def d_times : He.DefD := ⟨("times", none), "times", "times", defArgs (top 27), defBody (top 27), defScope (top 27), [], []⟩
def d_over : He.DefD := ⟨("over", none), "over", "over", defArgs (top 28), defBody (top 28), defScope (top 28), [], []⟩
def d_whole : He.DefD := ⟨("whole", none), "whole", "whole", defArgs (top 29), defBody (top 29), defScope (top 29), [], []⟩
def d_is_above : He.DefD := ⟨("is_above", none), "is_above", "is_above", defArgs (top 30), defBody (top 30), defScope (top 30), [], []⟩
def d_is_shaft : He.DefD := ⟨("is_shaft", none), "is_shaft", "is_shaft", defArgs (top 33), defBody (top 33), defScope (top 33), [], []⟩
def d_is_row : He.DefD := ⟨("is_row", none), "is_row", "is_row", defArgs (top 34), defBody (top 34), defScope (top 34), [], []⟩
def d_is_source : He.DefD := ⟨("is_source", none), "is_source", "is_source", defArgs (top 35), defBody (top 35), defScope (top 35), [], []⟩
def d_are_rows : He.DefD := ⟨("are_rows", none), "are_rows", "are_rows", defArgs (top 36), defBody (top 36), defScope (top 36), [], []⟩
def d_drives_of : He.DefD := ⟨("drives_of", none), "drives_of", "drives_of", defArgs (top 37), defBody (top 37), defScope (top 37), [], []⟩
def d_may_stand : He.DefD := ⟨("may_stand", none), "may_stand", "may_stand", defArgs (top 38), defBody (top 38), defScope (top 38), [], []⟩
def d_order_of : He.DefD := ⟨("order_of", none), "order_of", "order_of", defArgs (top 39), defBody (top 39), defScope (top 39), [], []⟩
def d_ring_of : He.DefD := ⟨("ring_of", none), "ring_of", "ring_of", defArgs (top 40), defBody (top 40), defScope (top 40), [], []⟩
def d_look_machine : He.DefD := ⟨("look_machine", none), "look_machine", "look_machine", defArgs (top 41), defBody (top 41), defScope (top 41), [], []⟩
def d_move_of : He.DefD := ⟨("move_of", none), "move_of", "move_of", defArgs (top 43), defBody (top 43), defScope (top 43), [], []⟩
def d_is_beyond : He.DefD := ⟨("is_beyond", none), "is_beyond", "is_beyond", defArgs (top 44), defBody (top 44), defScope (top 44), [], []⟩
def d_is_long : He.DefD := ⟨("is_long", none), "is_long", "is_long", defArgs (top 45), defBody (top 45), defScope (top 45), [], []⟩
def d_Bench___init__ : He.DefD := ⟨("Bench", some "__init__"), "__init__", "Bench.__init__", defArgs (inClass (top 46) 0), defBody (inClass (top 46) 0), defScope (inClass (top 46) 0), [], []⟩
def d_Bench_stand : He.DefD := ⟨("Bench", some "stand"), "stand", "Bench.stand", defArgs (inClass (top 46) 1), defBody (inClass (top 46) 1), defScope (inClass (top 46) 1), [], []⟩
def d_Bench_stands : He.DefD := ⟨("Bench", some "stands"), "stands", "Bench.stands", defArgs (inClass (top 46) 2), defBody (inClass (top 46) 2), defScope (inClass (top 46) 2), [], []⟩
def d_Bench_machine : He.DefD := ⟨("Bench", some "machine"), "machine", "Bench.machine", defArgs (inClass (top 46) 3), defBody (inClass (top 46) 3), defScope (inClass (top 46) 3), [], []⟩
def d_Bench_moved : He.DefD := ⟨("Bench", some "moved"), "moved", "Bench.moved", defArgs (inClass (top 46) 4), defBody (inClass (top 46) 4), defScope (inClass (top 46) 4), [], []⟩
def d_Bench_keep : He.DefD := ⟨("Bench", some "keep"), "keep", "Bench.keep", defArgs (inClass (top 46) 5), defBody (inClass (top 46) 5), defScope (inClass (top 46) 5), [], []⟩
def d_Bench_moves_by : He.DefD := ⟨("Bench", some "moves_by"), "moves_by", "Bench.moves_by", defArgs (inClass (top 46) 6), defBody (inClass (top 46) 6), defScope (inClass (top 46) 6), [], []⟩
def d_Bench_click : He.DefD := ⟨("Bench", some "click"), "click", "Bench.click", defArgs (inClass (top 46) 7), defBody (inClass (top 46) 7), defScope (inClass (top 46) 7), [], []⟩
def d_Bench_want_out : He.DefD := ⟨("Bench", some "want_out"), "want_out", "Bench.want_out", defArgs (inClass (top 46) 8), defBody (inClass (top 46) 8), defScope (inClass (top 46) 8), [], []⟩
def d_Bench_out : He.DefD := ⟨("Bench", some "out"), "out", "Bench.out", defArgs (inClass (top 46) 9), defBody (inClass (top 46) 9), defScope (inClass (top 46) 9), [], []⟩
def d_Bench_into : He.DefD := ⟨("Bench", some "into"), "into", "Bench.into", defArgs (inClass (top 46) 10), defBody (inClass (top 46) 10), defScope (inClass (top 46) 10), [], []⟩
def d_Bench_put : He.DefD := ⟨("Bench", some "put"), "put", "Bench.put", defArgs (inClass (top 46) 11), defBody (inClass (top 46) 11), defScope (inClass (top 46) 11), [], []⟩
def d_Bench_wire : He.DefD := ⟨("Bench", some "wire"), "wire", "Bench.wire", defArgs (inClass (top 46) 12), defBody (inClass (top 46) 12), defScope (inClass (top 46) 12), [], []⟩
def d_Bench_gear : He.DefD := ⟨("Bench", some "gear"), "gear", "Bench.gear", defArgs (inClass (top 46) 13), defBody (inClass (top 46) 13), defScope (inClass (top 46) 13), [], []⟩
def d_Bench_ends : He.DefD := ⟨("Bench", some "ends"), "ends", "Bench.ends", defArgs (inClass (top 46) 14), defBody (inClass (top 46) 14), defScope (inClass (top 46) 14), [], []⟩
def d_Bench_undo : He.DefD := ⟨("Bench", some "undo"), "undo", "Bench.undo", defArgs (inClass (top 46) 15), defBody (inClass (top 46) 15), defScope (inClass (top 46) 15), [], []⟩
def d_Bench_deeds : He.DefD := ⟨("Bench", some "deeds"), "deeds", "Bench.deeds", defArgs (inClass (top 46) 16), defBody (inClass (top 46) 16), defScope (inClass (top 46) 16), [], []⟩
def d_term_along : He.DefD := ⟨("term_along", none), "term_along", "term_along", defArgs (top 48), defBody (top 48), defScope (top 48), [], []⟩
def d_further_term : He.DefD := ⟨("further_term", none), "further_term", "further_term", defArgs (top 50), defBody (top 50), defScope (top 50), [], []⟩
def d_series_of : He.DefD := ⟨("series_of", none), "series_of", "series_of", defArgs (top 51), defBody (top 51), defScope (top 51), [], []⟩
def d__law_bag : He.DefD := ⟨("_law_bag", none), "_law_bag", "_law_bag", defArgs (top 53), defBody (top 53), defScope (top 53), [], []⟩
def d__law_take : He.DefD := ⟨("_law_take", none), "_law_take", "_law_take", defArgs (top 54), defBody (top 54), defScope (top 54), [], []⟩
def d__law_low : He.DefD := ⟨("_law_low", none), "_law_low", "_law_low", defArgs (top 55), defBody (top 55), defScope (top 55), [], []⟩
def d__law_add : He.DefD := ⟨("_law_add", none), "_law_add", "_law_add", defArgs (top 56), defBody (top 56), defScope (top 56), [], []⟩
def d__law_mul : He.DefD := ⟨("_law_mul", none), "_law_mul", "_law_mul", defArgs (top 57), defBody (top 57), defScope (top 57), [], []⟩
def d__law_number : He.DefD := ⟨("_law_number", none), "_law_number", "_law_number", defArgs (top 58), defBody (top 58), defScope (top 58), [], []⟩
def d__law_turned : He.DefD := ⟨("_law_turned", none), "_law_turned", "_law_turned", defArgs (top 59), defBody (top 59), defScope (top 59), [], []⟩
def d__law_machine : He.DefD := ⟨("_law_machine", none), "_law_machine", "_law_machine", defArgs (top 60), defBody (top 60), defScope (top 60), [], []⟩
def d__law_same : He.DefD := ⟨("_law_same", none), "_law_same", "_law_same", defArgs (top 63), defBody (top 63), defScope (top 63), [], []⟩
def d__law_alone : He.DefD := ⟨("_law_alone", none), "_law_alone", "_law_alone", defArgs (top 64), defBody (top 64), defScope (top 64), [], []⟩
def d__law_drives : He.DefD := ⟨("_law_drives", none), "_law_drives", "_law_drives", defArgs (top 65), defBody (top 65), defScope (top 65), [], []⟩
def d__law_above : He.DefD := ⟨("_law_above", none), "_law_above", "_law_above", defArgs (top 66), defBody (top 66), defScope (top 66), [], []⟩
def d__law_beyond : He.DefD := ⟨("_law_beyond", none), "_law_beyond", "_law_beyond", defArgs (top 67), defBody (top 67), defScope (top 67), [], []⟩
def d__law_long : He.DefD := ⟨("_law_long", none), "_law_long", "_law_long", defArgs (top 68), defBody (top 68), defScope (top 68), [], []⟩
def d__law_fresh : He.DefD := ⟨("_law_fresh", none), "_law_fresh", "_law_fresh", defArgs (top 69), defBody (top 69), defScope (top 69), [], []⟩
def d__law_move : He.DefD := ⟨("_law_move", none), "_law_move", "_law_move", defArgs (top 70), defBody (top 70), defScope (top 70), [], []⟩
def d__law_moves : He.DefD := ⟨("_law_moves", none), "_law_moves", "_law_moves", defArgs (top 71), defBody (top 71), defScope (top 71), [], []⟩
def d__law_clicked : He.DefD := ⟨("_law_clicked", none), "_law_clicked", "_law_clicked", defArgs (top 72), defBody (top 72), defScope (top 72), [], []⟩
def d__law_refusal : He.DefD := ⟨("_law_refusal", none), "_law_refusal", "_law_refusal", defArgs (top 73), defBody (top 73), defScope (top 73), [], []⟩
def d__law_said : He.DefD := ⟨("_law_said", none), "_law_said", "_law_said", defArgs (top 74), defBody (top 74), defScope (top 74), [], []⟩
def d__law_got : He.DefD := ⟨("_law_got", none), "_law_got", "_law_got", defArgs (top 75), defBody (top 75), defScope (top 75), [], []⟩
def d__law_stands : He.DefD := ⟨("_law_stands", none), "_law_stands", "_law_stands", defArgs (top 76), defBody (top 76), defScope (top 76), [], []⟩
def d__law_any_row : He.DefD := ⟨("_law_any_row", none), "_law_any_row", "_law_any_row", defArgs (top 77), defBody (top 77), defScope (top 77), [], []⟩
def d__law_any_deed : He.DefD := ⟨("_law_any_deed", none), "_law_any_deed", "_law_any_deed", defArgs (top 78), defBody (top 78), defScope (top 78), [], []⟩
def d__law_moved : He.DefD := ⟨("_law_moved", none), "_law_moved", "_law_moved", defArgs (top 79), defBody (top 79), defScope (top 79), [], []⟩
def d__law_term : He.DefD := ⟨("_law_term", none), "_law_term", "_law_term", defArgs (top 80), defBody (top 80), defScope (top 80), [], []⟩
def d__law_turns_so : He.DefD := ⟨("_law_turns_so", none), "_law_turns_so", "_law_turns_so", defArgs (top 81), defBody (top 81), defScope (top 81), [], []⟩
def d__law_clutches_in : He.DefD := ⟨("_law_clutches_in", none), "_law_clutches_in", "_law_clutches_in", defArgs (top 82), defBody (top 82), defScope (top 82), [], []⟩
def d_law : He.DefD := ⟨("law", none), "law", "law", defArgs (top 83), defBody (top 83), defScope (top 83), [], []⟩
def hFn : List He.DefD := [d_Ring___init__, d_Stopped___init__, d_is_whole, d_shared, d_is_number, d_fraction, d_plus, d_times, d_over, d_whole, d_is_above, d_is_shaft, d_is_row, d_is_source, d_are_rows, d_drives_of, d_may_stand, d_order_of, d_ring_of, d_look_machine, d_move_of, d_is_beyond, d_is_long, d_Bench___init__, d_Bench_stand, d_Bench_stands, d_Bench_machine, d_Bench_moved, d_Bench_keep, d_Bench_moves_by, d_Bench_click, d_Bench_want_out, d_Bench_out, d_Bench_into, d_Bench_put, d_Bench_wire, d_Bench_gear, d_Bench_ends, d_Bench_undo, d_Bench_deeds, d_term_along, d_further_term, d_series_of, d__law_bag, d__law_take, d__law_low, d__law_add, d__law_mul, d__law_number, d__law_turned, d__law_machine, d__law_same, d__law_alone, d__law_drives, d__law_above, d__law_beyond, d__law_long, d__law_fresh, d__law_move, d__law_moves, d__law_clicked, d__law_refusal, d__law_said, d__law_got, d__law_stands, d__law_any_row, d__law_any_deed, d__law_moved, d__law_term, d__law_turns_so, d__law_clutches_in, d_law]
def hFa : List He.Fa := [.glo "RollError",
  .glo "NoFraction",
  .glo "NoSeries",
  .glo "NoMachine",
  .glo "Ring",
  .glo "NoRoom",
  .glo "NotEven",
  .glo "NotLean",
  .glo "Held",
  .glo "Stopped",
  .glo "TooFar",
  .glo "NoGear",
  .glo "NoDeed",
  .glo "NoText",
  .glo "NoSaying",
  .glo "NoName",
  .glo "NoBench",
  .glo "TooMany",
  .glo "is_whole",
  .glo "shared",
  .glo "is_number",
  .glo "fraction",
  .glo "plus",
  .glo "times",
  .glo "over",
  .glo "whole",
  .glo "is_above",
  .glo "is_shaft",
  .glo "is_row",
  .glo "is_source",
  .glo "are_rows",
  .glo "drives_of",
  .glo "may_stand",
  .glo "order_of",
  .glo "ring_of",
  .glo "look_machine",
  .glo "move_of",
  .glo "is_beyond",
  .glo "is_long",
  .glo "Bench",
  .glo "term_along",
  .glo "further_term",
  .glo "series_of",
  .glo "_law_bag",
  .glo "_law_take",
  .glo "_law_low",
  .glo "_law_add",
  .glo "_law_mul",
  .glo "_law_number",
  .glo "_law_turned",
  .glo "_law_machine",
  .glo "_law_same",
  .glo "_law_alone",
  .glo "_law_drives",
  .glo "_law_above",
  .glo "_law_beyond",
  .glo "_law_long",
  .glo "_law_fresh",
  .glo "_law_move",
  .glo "_law_moves",
  .glo "_law_clicked",
  .glo "_law_refusal",
  .glo "_law_said",
  .glo "_law_got",
  .glo "_law_stands",
  .glo "_law_any_row",
  .glo "_law_any_deed",
  .glo "_law_moved",
  .glo "_law_term",
  .glo "_law_turns_so",
  .glo "_law_clutches_in",
  .glo "law",
  .glo "NOUGHT",
  .glo "ONE",
  .int "MOST_SHAFTS" 120,
  .cls "Bench",
  .mkr "Bench",
  .noat "Bench" "rows",
  .noat "Bench" "stood",
  .noat "Bench" "sums",
  .noat "Bench" "outs",
  .noat "Bench" "limits",
  .noat "Bench" "past",
  .meth "Bench" "stand",
  .meth "Bench" "stands",
  .meth "Bench" "machine",
  .meth "Bench" "moved",
  .meth "Bench" "keep",
  .meth "Bench" "moves_by",
  .meth "Bench" "click",
  .meth "Bench" "want_out",
  .meth "Bench" "out",
  .meth "Bench" "into",
  .meth "Bench" "put",
  .meth "Bench" "wire",
  .meth "Bench" "gear",
  .meth "Bench" "ends",
  .meth "Bench" "undo",
  .meth "Bench" "deeds",
  .free "len",
  .free "abs",
  .free "isinstance",
  .free "range",
  .free "list",
  .free "tuple",
  .free "int",
  .free "bool",
  .free "str",
  .free "zip",
  .free "enumerate",
  .free "all",
  .free "any",
  .free "max",
  .free "min",
  .free "ValueError",
  .exc "NoMachine",
  .exc "Held",
  .exc "TooFar",
  .exc "NoGear",
  .exc "NoDeed"]
def hXs : List (PySem.W.Frag → Bool) := [xNought, xOne, xOex ("Ring", "ring"), xSet ("Ring", "ring"), xSub ("Ring", "ring"), xTy ("Ring", "ring"), xKeep ("Ring", "ring"), xNo ("Ring", "ring"), xIni ("Ring", "ring"), xFun ("Ring", "ring"), xOex ("Stopped", "shaft"), xSet ("Stopped", "shaft"), xSub ("Stopped", "shaft"), xTy ("Stopped", "shaft"), xKeep ("Stopped", "shaft"), xNo ("Stopped", "shaft"), xIni ("Stopped", "shaft"), xFun ("Stopped", "shaft"), xExc, xOne17, xVe, xStop, xRing, xRoll]
abbrev hR : PySem.W.OpenRow := PySem.W.OpenLaw.row PySem.Challenge.rw_rolldiscs_k79_whole_benches_of_benches
abbrev hHk : PySem.W.Hook := hookX 4 hFa hFn hXs
def hOb (s : PySem.W.SharedT) : Bool × He.AlD := obsXG 4 hFa hFn hXs (HandSHeadRun.getT s)
theorem hOb_eq (s : PySem.W.SharedT) : hOb s = hHk.obs s.abs := obsXG_eq (HandSHeadRun.getT_eq s)
def loose0 : List Str := [("RollError" : Str), ("NoFraction" : Str), ("NoSeries" : Str), ("NoMachine" : Str), ("Ring" : Str), ("NoRoom" : Str), ("NotEven" : Str), ("NotLean" : Str), ("Held" : Str), ("Stopped" : Str), ("TooFar" : Str), ("NoGear" : Str)]
def loose1 : List Str := [("NoDeed" : Str), ("NoText" : Str), ("NoSaying" : Str), ("NoName" : Str), ("NoBench" : Str), ("TooMany" : Str), ("NOUGHT" : Str), ("ONE" : Str), ("is_whole" : Str), ("shared" : Str), ("is_number" : Str), ("fraction" : Str)]
def loose2 : List Str := [("plus" : Str), ("times" : Str), ("over" : Str), ("whole" : Str), ("is_above" : Str), ("MOST_SHAFTS" : Str), ("is_shaft" : Str), ("is_row" : Str), ("is_source" : Str), ("are_rows" : Str), ("drives_of" : Str), ("may_stand" : Str)]
def loose3 : List Str := [("order_of" : Str), ("ring_of" : Str), ("look_machine" : Str), ("move_of" : Str), ("is_beyond" : Str), ("is_long" : Str), ("Bench" : Str), ("term_along" : Str), ("further_term" : Str), ("series_of" : Str), ("_law_bag" : Str), ("_law_take" : Str)]
def loose4 : List Str := [("_law_low" : Str), ("_law_add" : Str), ("_law_mul" : Str), ("_law_number" : Str), ("_law_turned" : Str), ("_law_machine" : Str), ("_law_whole" : Str), ("_law_is_number" : Str), ("_law_same" : Str), ("_law_alone" : Str), ("_law_drives" : Str), ("_law_above" : Str)]
def loose5 : List Str := [("_law_beyond" : Str), ("_law_long" : Str), ("_law_fresh" : Str), ("_law_move" : Str), ("_law_moves" : Str), ("_law_clicked" : Str), ("_law_refusal" : Str), ("_law_said" : Str), ("_law_got" : Str), ("_law_stands" : Str), ("_law_any_row" : Str), ("_law_any_deed" : Str)]
def loose6 : List Str := [("_law_moved" : Str), ("_law_term" : Str), ("_law_turns_so" : Str), ("_law_clutches_in" : Str)]
def looseAll : List Str := loose0 ++ loose1 ++ loose2 ++ loose3 ++ loose4 ++ loose5 ++ loose6
theorem hRun (w : World) : HandSHeadRun.RunEq hR (PySem.W.view hR.prog [83]) hHk hOb 7000 looseAll w := by
  intro os
  kernel_rfl
end K79
end

section
set_option linter.all false
set_option maxRecDepth 100000
set_option maxHeartbeats 0
/-! K79Z: all promises, joined; the law. -/
namespace K79
open PySem PySem.Spec PyProof.Rows L2
theorem facts {P : Program} {w : World} {K : PySem.W.Frag} {h : Heap} {mg : Str → Option Value} {f : Addr} (X : K.In h) (G : h.Ns mainGlobals mg) (hfa : mg ("law" : Str) = some (.ref f)) (c : SaysX hFa hFn hXs K) :
    ∃ fd : FuncData, (∀ (s : Shared) (v : Value), BindsTo s fd ⟨[v], []⟩ [("_law_script", v)]) ∧ ∀ base : Heap, K.In base → base.Ns mainGlobals mg → FnOk P w K mg base CX0 10 f fd ["_law_script"] (spLaw K) := by
  obtain ⟨fd0, F0⟩ := c.d.def_ 0 (d := d_Ring___init__) rfl
  obtain ⟨fd1, F1⟩ := c.d.def_ 1 (d := d_Stopped___init__) rfl
  obtain ⟨fd2, F2⟩ := c.d.def_ 2 (d := d_is_whole) rfl
  obtain ⟨fd3, F3⟩ := c.d.def_ 3 (d := d_shared) rfl
  obtain ⟨fd4, F4⟩ := c.d.def_ 4 (d := d_is_number) rfl
  obtain ⟨fd5, F5⟩ := c.d.def_ 5 (d := d_fraction) rfl
  obtain ⟨fd6, F6⟩ := c.d.def_ 6 (d := d_plus) rfl
  obtain ⟨fd7, F7⟩ := c.d.def_ 7 (d := d_times) rfl
  obtain ⟨fd8, F8⟩ := c.d.def_ 8 (d := d_over) rfl
  obtain ⟨fd9, F9⟩ := c.d.def_ 9 (d := d_whole) rfl
  obtain ⟨fd10, F10⟩ := c.d.def_ 10 (d := d_is_above) rfl
  obtain ⟨fd11, F11⟩ := c.d.def_ 11 (d := d_is_shaft) rfl
  obtain ⟨fd12, F12⟩ := c.d.def_ 12 (d := d_is_row) rfl
  obtain ⟨fd13, F13⟩ := c.d.def_ 13 (d := d_is_source) rfl
  obtain ⟨fd14, F14⟩ := c.d.def_ 14 (d := d_are_rows) rfl
  obtain ⟨fd15, F15⟩ := c.d.def_ 15 (d := d_drives_of) rfl
  obtain ⟨fd16, F16⟩ := c.d.def_ 16 (d := d_may_stand) rfl
  obtain ⟨fd17, F17⟩ := c.d.def_ 17 (d := d_order_of) rfl
  obtain ⟨fd18, F18⟩ := c.d.def_ 18 (d := d_ring_of) rfl
  obtain ⟨fd19, F19⟩ := c.d.def_ 19 (d := d_look_machine) rfl
  obtain ⟨fd20, F20⟩ := c.d.def_ 20 (d := d_move_of) rfl
  obtain ⟨fd21, F21⟩ := c.d.def_ 21 (d := d_is_beyond) rfl
  obtain ⟨fd22, F22⟩ := c.d.def_ 22 (d := d_is_long) rfl
  obtain ⟨fd23, F23⟩ := c.d.def_ 23 (d := d_Bench___init__) rfl
  obtain ⟨fd24, F24⟩ := c.d.def_ 24 (d := d_Bench_stand) rfl
  obtain ⟨fd25, F25⟩ := c.d.def_ 25 (d := d_Bench_stands) rfl
  obtain ⟨fd26, F26⟩ := c.d.def_ 26 (d := d_Bench_machine) rfl
  obtain ⟨fd27, F27⟩ := c.d.def_ 27 (d := d_Bench_moved) rfl
  obtain ⟨fd28, F28⟩ := c.d.def_ 28 (d := d_Bench_keep) rfl
  obtain ⟨fd29, F29⟩ := c.d.def_ 29 (d := d_Bench_moves_by) rfl
  obtain ⟨fd30, F30⟩ := c.d.def_ 30 (d := d_Bench_click) rfl
  obtain ⟨fd31, F31⟩ := c.d.def_ 31 (d := d_Bench_want_out) rfl
  obtain ⟨fd32, F32⟩ := c.d.def_ 32 (d := d_Bench_out) rfl
  obtain ⟨fd33, F33⟩ := c.d.def_ 33 (d := d_Bench_into) rfl
  obtain ⟨fd34, F34⟩ := c.d.def_ 34 (d := d_Bench_put) rfl
  obtain ⟨fd35, F35⟩ := c.d.def_ 35 (d := d_Bench_wire) rfl
  obtain ⟨fd36, F36⟩ := c.d.def_ 36 (d := d_Bench_gear) rfl
  obtain ⟨fd37, F37⟩ := c.d.def_ 37 (d := d_Bench_ends) rfl
  obtain ⟨fd38, F38⟩ := c.d.def_ 38 (d := d_Bench_undo) rfl
  obtain ⟨fd39, F39⟩ := c.d.def_ 39 (d := d_Bench_deeds) rfl
  obtain ⟨fd40, F40⟩ := c.d.def_ 40 (d := d_term_along) rfl
  obtain ⟨fd41, F41⟩ := c.d.def_ 41 (d := d_further_term) rfl
  obtain ⟨fd42, F42⟩ := c.d.def_ 42 (d := d_series_of) rfl
  obtain ⟨fd43, F43⟩ := c.d.def_ 43 (d := d__law_bag) rfl
  obtain ⟨fd44, F44⟩ := c.d.def_ 44 (d := d__law_take) rfl
  obtain ⟨fd45, F45⟩ := c.d.def_ 45 (d := d__law_low) rfl
  obtain ⟨fd46, F46⟩ := c.d.def_ 46 (d := d__law_add) rfl
  obtain ⟨fd47, F47⟩ := c.d.def_ 47 (d := d__law_mul) rfl
  obtain ⟨fd48, F48⟩ := c.d.def_ 48 (d := d__law_number) rfl
  obtain ⟨fd49, F49⟩ := c.d.def_ 49 (d := d__law_turned) rfl
  obtain ⟨fd50, F50⟩ := c.d.def_ 50 (d := d__law_machine) rfl
  obtain ⟨fd51, F51⟩ := c.d.def_ 51 (d := d__law_same) rfl
  obtain ⟨fd52, F52⟩ := c.d.def_ 52 (d := d__law_alone) rfl
  obtain ⟨fd53, F53⟩ := c.d.def_ 53 (d := d__law_drives) rfl
  obtain ⟨fd54, F54⟩ := c.d.def_ 54 (d := d__law_above) rfl
  obtain ⟨fd55, F55⟩ := c.d.def_ 55 (d := d__law_beyond) rfl
  obtain ⟨fd56, F56⟩ := c.d.def_ 56 (d := d__law_long) rfl
  obtain ⟨fd57, F57⟩ := c.d.def_ 57 (d := d__law_fresh) rfl
  obtain ⟨fd58, F58⟩ := c.d.def_ 58 (d := d__law_move) rfl
  obtain ⟨fd59, F59⟩ := c.d.def_ 59 (d := d__law_moves) rfl
  obtain ⟨fd60, F60⟩ := c.d.def_ 60 (d := d__law_clicked) rfl
  obtain ⟨fd61, F61⟩ := c.d.def_ 61 (d := d__law_refusal) rfl
  obtain ⟨fd62, F62⟩ := c.d.def_ 62 (d := d__law_said) rfl
  obtain ⟨fd63, F63⟩ := c.d.def_ 63 (d := d__law_got) rfl
  obtain ⟨fd64, F64⟩ := c.d.def_ 64 (d := d__law_stands) rfl
  obtain ⟨fd65, F65⟩ := c.d.def_ 65 (d := d__law_any_row) rfl
  obtain ⟨fd66, F66⟩ := c.d.def_ 66 (d := d__law_any_deed) rfl
  obtain ⟨fd67, F67⟩ := c.d.def_ 67 (d := d__law_moved) rfl
  obtain ⟨fd68, F68⟩ := c.d.def_ 68 (d := d__law_term) rfl
  obtain ⟨fd69, F69⟩ := c.d.def_ 69 (d := d__law_turns_so) rfl
  obtain ⟨fd70, F70⟩ := c.d.def_ 70 (d := d__law_clutches_in) rfl
  obtain ⟨fd71, F71⟩ := c.d.def_ 71 (d := d_law) rfl
  have e := hfa.symm.trans (He.glo_ok X G (c.d.fact 71 (f := .glo "law") rfl))
  cases e
  have b := FunD.bindsA (ps := ["_law_script"]) F71 fun _ _ _ _ _ _ us hl => match us, hl with | [_], _ => rfl
  refine ⟨fd71, fun s v => b s [v] rfl, fun base _ _ => ?_⟩
  let g : K79.G := ⟨P, w, K, mg, base⟩
  have T0 : Txt g := ⟨He.free_ok X G (c.d.fact 99 (f := .free "len") rfl), He.free_ok X G (c.d.fact 100 (f := .free "abs") rfl), He.free_ok X G (c.d.fact 101 (f := .free "isinstance") rfl), He.free_ok X G (c.d.fact 102 (f := .free "range") rfl), He.free_ok X G (c.d.fact 103 (f := .free "list") rfl), He.free_ok X G (c.d.fact 104 (f := .free "tuple") rfl), He.free_ok X G (c.d.fact 105 (f := .free "int") rfl), He.free_ok X G (c.d.fact 106 (f := .free "bool") rfl), He.free_ok X G (c.d.fact 107 (f := .free "str") rfl), He.free_ok X G (c.d.fact 108 (f := .free "zip") rfl), He.free_ok X G (c.d.fact 109 (f := .free "enumerate") rfl), He.free_ok X G (c.d.fact 110 (f := .free "all") rfl), He.free_ok X G (c.d.fact 111 (f := .free "any") rfl), He.free_ok X G (c.d.fact 112 (f := .free "max") rfl), He.free_ok X G (c.d.fact 113 (f := .free "min") rfl), He.glo_ok X G (c.d.fact 72 (f := .glo "NOUGHT") rfl), He.tupB_ok (c.x 0 (f := xNought) rfl), He.glo_ok X G (c.d.fact 73 (f := .glo "ONE") rfl), He.tupB_ok (c.x 1 (f := xOne) rfl), He.int_ok X G (c.d.fact 74 (f := .int "MOST_SHAFTS" 120) rfl)⟩
  have T : TxB g := ⟨T0, He.cls_ok (c.d.fact 75 (f := .cls "Bench") rfl), He.noat_ok (c.d.fact 77 (f := .noat "Bench" "rows") rfl), He.noat_ok (c.d.fact 78 (f := .noat "Bench" "stood") rfl), He.noat_ok (c.d.fact 79 (f := .noat "Bench" "sums") rfl), He.noat_ok (c.d.fact 80 (f := .noat "Bench" "outs") rfl), He.noat_ok (c.d.fact 81 (f := .noat "Bench" "limits") rfl), He.noat_ok (c.d.fact 82 (f := .noat "Bench" "past") rfl)⟩
  have TI : TxI g := ⟨He.glo_ok X G (c.d.fact 1 (f := .glo "NoFraction") rfl), He.glo_ok X G (c.d.fact 2 (f := .glo "NoSeries") rfl), He.glo_ok X G (c.d.fact 3 (f := .glo "NoMachine") rfl), He.glo_ok X G (c.d.fact 4 (f := .glo "Ring") rfl), He.glo_ok X G (c.d.fact 5 (f := .glo "NoRoom") rfl), He.glo_ok X G (c.d.fact 6 (f := .glo "NotEven") rfl), He.glo_ok X G (c.d.fact 7 (f := .glo "NotLean") rfl), He.glo_ok X G (c.d.fact 8 (f := .glo "Held") rfl), He.glo_ok X G (c.d.fact 9 (f := .glo "Stopped") rfl), He.glo_ok X G (c.d.fact 10 (f := .glo "TooFar") rfl), He.glo_ok X G (c.d.fact 11 (f := .glo "NoGear") rfl), He.glo_ok X G (c.d.fact 12 (f := .glo "NoDeed") rfl), He.glo_ok X G (c.d.fact 13 (f := .glo "NoText") rfl), He.glo_ok X G (c.d.fact 14 (f := .glo "NoSaying") rfl), He.glo_ok X G (c.d.fact 15 (f := .glo "NoName") rfl), He.glo_ok X G (c.d.fact 16 (f := .glo "NoBench") rfl), He.glo_ok X G (c.d.fact 17 (f := .glo "TooMany") rfl), He.glo_ok X G (c.d.fact 0 (f := .glo "RollError") rfl), fun x hx => excB_ok (List.all_eq_true.mp (c.x 18 (f := xExc) rfl) x hx), fun x hx y hy => of_decide_eq_true (List.all_eq_true.mp (List.all_eq_true.mp (c.x 19 (f := xOne17) rfl) x hx) y hy), fun x hx => of_decide_eq_true (List.all_eq_true.mp (c.x 20 (f := xVe) rfl) x hx), He.free_ok X G (c.d.fact 114 (f := .free "ValueError") rfl)⟩
  have TS : TxS g := ⟨fun x hx => of_decide_eq_true (List.all_eq_true.mp (c.x 21 (f := xStop) rfl) x hx), fun x hx => of_decide_eq_true (List.all_eq_true.mp (c.x 22 (f := xRing) rfl) x hx), fun x hx => of_decide_eq_true (List.all_eq_true.mp (c.x 23 (f := xRoll) rfl) x hx)⟩
  have X_NoMachine : ExN g "NoMachine" := let q := He.exc_ok (c.d.fact 115 (f := .exc "NoMachine") rfl); ⟨⟨He.glo_ok X G (c.d.fact 3 (f := .glo "NoMachine") rfl), q.2.1, q.2.2.1, q.2.2.2⟩, q.1⟩
  have X_Held : ExN g "Held" := let q := He.exc_ok (c.d.fact 116 (f := .exc "Held") rfl); ⟨⟨He.glo_ok X G (c.d.fact 8 (f := .glo "Held") rfl), q.2.1, q.2.2.1, q.2.2.2⟩, q.1⟩
  have X_TooFar : ExN g "TooFar" := let q := He.exc_ok (c.d.fact 117 (f := .exc "TooFar") rfl); ⟨⟨He.glo_ok X G (c.d.fact 10 (f := .glo "TooFar") rfl), q.2.1, q.2.2.1, q.2.2.2⟩, q.1⟩
  have X_NoGear : ExN g "NoGear" := let q := He.exc_ok (c.d.fact 118 (f := .exc "NoGear") rfl); ⟨⟨He.glo_ok X G (c.d.fact 11 (f := .glo "NoGear") rfl), q.2.1, q.2.2.1, q.2.2.2⟩, q.1⟩
  have X_NoDeed : ExN g "NoDeed" := let q := He.exc_ok (c.d.fact 119 (f := .exc "NoDeed") rfl); ⟨⟨He.glo_ok X G (c.d.fact 12 (f := .glo "NoDeed") rfl), q.2.1, q.2.2.1, q.2.2.2⟩, q.1⟩
  have s_Ring : PySem.W.subIn K (.ref (He.ga K "Ring")) (.type "BaseException") = some true := of_decide_eq_true (c.x 4 (f := xSub ("Ring", "ring")) rfl)
  have t_Ring : PySem.W.typeIn K (.ref (He.ga K "Ring")) = some (.type "type") := of_decide_eq_true (c.x 5 (f := xTy ("Ring", "ring")) rfl)
  have k_Ring : PySem.W.keepIn K (.ref (He.ga K "Ring")) = true := c.x 6 (f := xKeep ("Ring", "ring")) rfl
  have X_Ring : ExI g "Ring" "ring" := ⟨⟨He.glo_ok X G (c.d.fact 4 (f := .glo "Ring") rfl), k_Ring, s_Ring, t_Ring⟩, ⟨oexB_ok (c.x 2 (f := xOex ("Ring", "ring")) rfl), He.eqO_ok (c.x 3 (f := xSet ("Ring", "ring")) rfl), s_Ring, t_Ring, k_Ring⟩, He.eqO_ok (c.x 7 (f := xNo ("Ring", "ring")) rfl)⟩
  have s_Stopped : PySem.W.subIn K (.ref (He.ga K "Stopped")) (.type "BaseException") = some true := of_decide_eq_true (c.x 12 (f := xSub ("Stopped", "shaft")) rfl)
  have t_Stopped : PySem.W.typeIn K (.ref (He.ga K "Stopped")) = some (.type "type") := of_decide_eq_true (c.x 13 (f := xTy ("Stopped", "shaft")) rfl)
  have k_Stopped : PySem.W.keepIn K (.ref (He.ga K "Stopped")) = true := c.x 14 (f := xKeep ("Stopped", "shaft")) rfl
  have X_Stopped : ExI g "Stopped" "shaft" := ⟨⟨He.glo_ok X G (c.d.fact 9 (f := .glo "Stopped") rfl), k_Stopped, s_Stopped, t_Stopped⟩, ⟨oexB_ok (c.x 10 (f := xOex ("Stopped", "shaft")) rfl), He.eqO_ok (c.x 11 (f := xSet ("Stopped", "shaft")) rfl), s_Stopped, t_Stopped, k_Stopped⟩, He.eqO_ok (c.x 15 (f := xNo ("Stopped", "shaft")) rfl)⟩
  have D_Ring___init__ : IDef g "Ring" "Ring.__init__" s_Ring___init__ ["self", "ring"] := ⟨_, fd0, F0, He.eqO_ok (c.x 8 (f := xIni ("Ring", "ring")) rfl), of_decide_eq_true (c.x 9 (f := xFun ("Ring", "ring")) rfl), FunD.bindsN F0 fun _ _ _ _ _ _ us hl => match us, hl with | [_, _], _ => rfl⟩
  have D_Stopped___init__ : IDef g "Stopped" "Stopped.__init__" s_Stopped___init__ ["self", "shaft"] := ⟨_, fd1, F1, He.eqO_ok (c.x 16 (f := xIni ("Stopped", "shaft")) rfl), of_decide_eq_true (c.x 17 (f := xFun ("Stopped", "shaft")) rfl), FunD.bindsN F1 fun _ _ _ _ _ _ us hl => match us, hl with | [_, _], _ => rfl⟩
  have D_is_whole : Def g "is_whole" s_is_whole ["thing"] := ⟨_, fd2, F2, He.glo_ok X G (c.d.fact 18 (f := .glo "is_whole") rfl), FunD.bindsN F2 fun _ _ _ _ _ _ us hl => match us, hl with | [_], _ => rfl⟩
  have D_shared : Def g "shared" s_shared ["one", "other"] := ⟨_, fd3, F3, He.glo_ok X G (c.d.fact 19 (f := .glo "shared") rfl), FunD.bindsN F3 fun _ _ _ _ _ _ us hl => match us, hl with | [_, _], _ => rfl⟩
  have D_is_number : Def g "is_number" s_is_number ["thing"] := ⟨_, fd4, F4, He.glo_ok X G (c.d.fact 20 (f := .glo "is_number") rfl), FunD.bindsN F4 fun _ _ _ _ _ _ us hl => match us, hl with | [_], _ => rfl⟩
  have D_fraction : Def g "fraction" s_fraction ["top", "bottom"] := ⟨_, fd5, F5, He.glo_ok X G (c.d.fact 21 (f := .glo "fraction") rfl), FunD.bindsN F5 fun _ _ _ _ _ _ us hl => match us, hl with | [_, _], _ => rfl⟩
  have D_plus : Def g "plus" s_plus ["one", "other"] := ⟨_, fd6, F6, He.glo_ok X G (c.d.fact 22 (f := .glo "plus") rfl), FunD.bindsN F6 fun _ _ _ _ _ _ us hl => match us, hl with | [_, _], _ => rfl⟩
  have D_times : Def g "times" s_times ["one", "other"] := ⟨_, fd7, F7, He.glo_ok X G (c.d.fact 23 (f := .glo "times") rfl), FunD.bindsN F7 fun _ _ _ _ _ _ us hl => match us, hl with | [_, _], _ => rfl⟩
  have D_over : Def g "over" s_over ["one", "other"] := ⟨_, fd8, F8, He.glo_ok X G (c.d.fact 24 (f := .glo "over") rfl), FunD.bindsN F8 fun _ _ _ _ _ _ us hl => match us, hl with | [_, _], _ => rfl⟩
  have D_whole : Def g "whole" s_whole ["n"] := ⟨_, fd9, F9, He.glo_ok X G (c.d.fact 25 (f := .glo "whole") rfl), FunD.bindsN F9 fun _ _ _ _ _ _ us hl => match us, hl with | [_], _ => rfl⟩
  have D_is_above : Def g "is_above" s_is_above ["one", "other"] := ⟨_, fd10, F10, He.glo_ok X G (c.d.fact 26 (f := .glo "is_above") rfl), FunD.bindsN F10 fun _ _ _ _ _ _ us hl => match us, hl with | [_, _], _ => rfl⟩
  have D_is_shaft : Def g "is_shaft" s_is_shaft ["thing", "many"] := ⟨_, fd11, F11, He.glo_ok X G (c.d.fact 27 (f := .glo "is_shaft") rfl), FunD.bindsN F11 fun _ _ _ _ _ _ us hl => match us, hl with | [_, _], _ => rfl⟩
  have D_is_row : Def g "is_row" s_is_row ["thing", "many"] := ⟨_, fd12, F12, He.glo_ok X G (c.d.fact 28 (f := .glo "is_row") rfl), FunD.bindsN F12 fun _ _ _ _ _ _ us hl => match us, hl with | [_, _], _ => rfl⟩
  have D_is_source : Def g "is_source" s_is_source ["row"] := ⟨_, fd13, F13, He.glo_ok X G (c.d.fact 29 (f := .glo "is_source") rfl), FunD.bindsN F13 fun _ _ _ _ _ _ us hl => match us, hl with | [_], _ => rfl⟩
  have D_are_rows : Def g "are_rows" s_are_rows ["thing"] := ⟨_, fd14, F14, He.glo_ok X G (c.d.fact 30 (f := .glo "are_rows") rfl), FunD.bindsN F14 fun _ _ _ _ _ _ us hl => match us, hl with | [_], _ => rfl⟩
  have D_drives_of : Def g "drives_of" s_drives_of ["row"] := ⟨_, fd15, F15, He.glo_ok X G (c.d.fact 31 (f := .glo "drives_of") rfl), FunD.bindsN F15 fun _ _ _ _ _ _ us hl => match us, hl with | [_], _ => rfl⟩
  have D_may_stand : Def g "may_stand" s_may_stand ["row", "stands"] := ⟨_, fd16, F16, He.glo_ok X G (c.d.fact 32 (f := .glo "may_stand") rfl), FunD.bindsN F16 fun _ _ _ _ _ _ us hl => match us, hl with | [_, _], _ => rfl⟩
  have D_order_of : Def g "order_of" s_order_of ["machine"] := ⟨_, fd17, F17, He.glo_ok X G (c.d.fact 33 (f := .glo "order_of") rfl), FunD.bindsN F17 fun _ _ _ _ _ _ us hl => match us, hl with | [_], _ => rfl⟩
  have D_ring_of : Def g "ring_of" s_ring_of ["machine"] := ⟨_, fd18, F18, He.glo_ok X G (c.d.fact 34 (f := .glo "ring_of") rfl), FunD.bindsN F18 fun _ _ _ _ _ _ us hl => match us, hl with | [_], _ => rfl⟩
  have D_look_machine : Def g "look_machine" s_look_machine ["thing"] := ⟨_, fd19, F19, He.glo_ok X G (c.d.fact 35 (f := .glo "look_machine") rfl), FunD.bindsN F19 fun _ _ _ _ _ _ us hl => match us, hl with | [_], _ => rfl⟩
  have D_move_of : Def g "move_of" s_move_of ["row", "stood", "moves", "number"] := ⟨_, fd20, F20, He.glo_ok X G (c.d.fact 36 (f := .glo "move_of") rfl), FunD.bindsN F20 fun _ _ _ _ _ _ us hl => match us, hl with | [_, _, _, _], _ => rfl⟩
  have D_is_beyond : Def g "is_beyond" s_is_beyond ["ends", "number"] := ⟨_, fd21, F21, He.glo_ok X G (c.d.fact 37 (f := .glo "is_beyond") rfl), FunD.bindsN F21 fun _ _ _ _ _ _ us hl => match us, hl with | [_, _], _ => rfl⟩
  have D_is_long : Def g "is_long" s_is_long ["number"] := ⟨_, fd22, F22, He.glo_ok X G (c.d.fact 38 (f := .glo "is_long") rfl), FunD.bindsN F22 fun _ _ _ _ _ _ us hl => match us, hl with | [_], _ => rfl⟩
  have D_Bench___init__ : CDef g "Bench" "Bench.__init__" s_Bench___init__ ["self", "machine"] := ⟨_, fd23, F23, He.mkr_ok (c.d.fact 76 (f := .mkr "Bench") rfl), He.glo_ok X G (c.d.fact 39 (f := .glo "Bench") rfl), FunD.bindsN F23 fun _ _ _ _ _ _ us hl => match us, hl with | [_, _], _ => rfl⟩
  have D_Bench_stand : MDef g (He.ga g.K "Bench") "stand" "Bench.stand" s_Bench_stand ["self", "shaft"] := ⟨_, fd24, F24, He.meth_ok (c.d.fact 83 (f := .meth "Bench" "stand") rfl), FunD.bindsN F24 fun _ _ _ _ _ _ us hl => match us, hl with | [_, _], _ => rfl⟩
  have D_Bench_stands : MDef g (He.ga g.K "Bench") "stands" "Bench.stands" s_Bench_stands ["self"] := ⟨_, fd25, F25, He.meth_ok (c.d.fact 84 (f := .meth "Bench" "stands") rfl), FunD.bindsN F25 fun _ _ _ _ _ _ us hl => match us, hl with | [_], _ => rfl⟩
  have D_Bench_machine : MDef g (He.ga g.K "Bench") "machine" "Bench.machine" s_Bench_machine ["self"] := ⟨_, fd26, F26, He.meth_ok (c.d.fact 85 (f := .meth "Bench" "machine") rfl), FunD.bindsN F26 fun _ _ _ _ _ _ us hl => match us, hl with | [_], _ => rfl⟩
  have D_Bench_moved : MDef g (He.ga g.K "Bench") "moved" "Bench.moved" s_Bench_moved ["self", "shaft"] := ⟨_, fd27, F27, He.meth_ok (c.d.fact 86 (f := .meth "Bench" "moved") rfl), FunD.bindsN F27 fun _ _ _ _ _ _ us hl => match us, hl with | [_, _], _ => rfl⟩
  have D_Bench_keep : MDef g (He.ga g.K "Bench") "keep" "Bench.keep" s_Bench_keep ["self"] := ⟨_, fd28, F28, He.meth_ok (c.d.fact 87 (f := .meth "Bench" "keep") rfl), FunD.bindsN F28 fun _ _ _ _ _ _ us hl => match us, hl with | [_], _ => rfl⟩
  have D_Bench_moves_by : MDef g (He.ga g.K "Bench") "moves_by" "Bench.moves_by" s_Bench_moves_by ["self", "number"] := ⟨_, fd29, F29, He.meth_ok (c.d.fact 88 (f := .meth "Bench" "moves_by") rfl), FunD.bindsN F29 fun _ _ _ _ _ _ us hl => match us, hl with | [_, _], _ => rfl⟩
  have D_Bench_click : MDef g (BC g) "click" "Bench.click" s_Bench_click ["self", "number"] := ⟨_, fd30, F30, He.meth_ok (c.d.fact 89 (f := .meth "Bench" "click") rfl), FunD.bindsN F30 fun _ _ _ _ _ _ us hl => match us, hl with | [_, _], _ => rfl⟩
  have D_Bench_want_out : MDef g (BC g) "want_out" "Bench.want_out" s_Bench_want_out ["self", "shaft", "is_out"] := ⟨_, fd31, F31, He.meth_ok (c.d.fact 90 (f := .meth "Bench" "want_out") rfl), FunD.bindsN F31 fun _ _ _ _ _ _ us hl => match us, hl with | [_, _, _], _ => rfl⟩
  have D_Bench_out : MDef g (BC g) "out" "Bench.out" s_Bench_out ["self", "shaft"] := ⟨_, fd32, F32, He.meth_ok (c.d.fact 91 (f := .meth "Bench" "out") rfl), FunD.bindsN F32 fun _ _ _ _ _ _ us hl => match us, hl with | [_, _], _ => rfl⟩
  have D_Bench_into : MDef g (BC g) "into" "Bench.into" s_Bench_into ["self", "shaft"] := ⟨_, fd33, F33, He.meth_ok (c.d.fact 92 (f := .meth "Bench" "into") rfl), FunD.bindsN F33 fun _ _ _ _ _ _ us hl => match us, hl with | [_, _], _ => rfl⟩
  have D_Bench_put : MDef g (BC g) "put" "Bench.put" s_Bench_put ["self", "shaft", "number"] := ⟨_, fd34, F34, He.meth_ok (c.d.fact 93 (f := .meth "Bench" "put") rfl), FunD.bindsN F34 fun _ _ _ _ _ _ us hl => match us, hl with | [_, _, _], _ => rfl⟩
  have D_Bench_wire : MDef g (BC g) "wire" "Bench.wire" s_Bench_wire ["self", "shaft", "thing"] := ⟨_, fd35, F35, He.meth_ok (c.d.fact 94 (f := .meth "Bench" "wire") rfl), FunD.bindsN F35 fun _ _ _ _ _ _ us hl => match us, hl with | [_, _, _], _ => rfl⟩
  have D_Bench_gear : MDef g (BC g) "gear" "Bench.gear" s_Bench_gear ["self", "shaft", "ratio"] := ⟨_, fd36, F36, He.meth_ok (c.d.fact 95 (f := .meth "Bench" "gear") rfl), FunD.bindsN F36 fun _ _ _ _ _ _ us hl => match us, hl with | [_, _, _], _ => rfl⟩
  have D_Bench_ends : MDef g (BC g) "ends" "Bench.ends" s_Bench_ends ["self", "shaft", "least", "greatest"] := ⟨_, fd37, F37, He.meth_ok (c.d.fact 96 (f := .meth "Bench" "ends") rfl), FunD.bindsN F37 fun _ _ _ _ _ _ us hl => match us, hl with | [_, _, _, _], _ => rfl⟩
  have D_Bench_undo : MDef g (BC g) "undo" "Bench.undo" s_Bench_undo ["self"] := ⟨_, fd38, F38, He.meth_ok (c.d.fact 97 (f := .meth "Bench" "undo") rfl), FunD.bindsN F38 fun _ _ _ _ _ _ us hl => match us, hl with | [_], _ => rfl⟩
  have D_Bench_deeds : MDef g (He.ga g.K "Bench") "deeds" "Bench.deeds" s_Bench_deeds ["self"] := ⟨_, fd39, F39, He.meth_ok (c.d.fact 98 (f := .meth "Bench" "deeds") rfl), FunD.bindsN F39 fun _ _ _ _ _ _ us hl => match us, hl with | [_], _ => rfl⟩
  have D_term_along : Def g "term_along" s_term_along ["one", "other", "k"] := ⟨_, fd40, F40, He.glo_ok X G (c.d.fact 40 (f := .glo "term_along") rfl), FunD.bindsN F40 fun _ _ _ _ _ _ us hl => match us, hl with | [_, _, _], _ => rfl⟩
  have D_further_term : Def g "further_term" s_further_term ["row", "series", "k"] := ⟨_, fd41, F41, He.glo_ok X G (c.d.fact 41 (f := .glo "further_term") rfl), FunD.bindsN F41 fun _ _ _ _ _ _ us hl => match us, hl with | [_, _, _], _ => rfl⟩
  have D_series_of : Def g "series_of" s_series_of ["machine", "many"] := ⟨_, fd42, F42, He.glo_ok X G (c.d.fact 42 (f := .glo "series_of") rfl), FunD.bindsN F42 fun _ _ _ _ _ _ us hl => match us, hl with | [_, _], _ => rfl⟩
  have D__law_bag : Def g "_law_bag" s__law_bag ["_law_script", "_law_at"] := ⟨_, fd43, F43, He.glo_ok X G (c.d.fact 43 (f := .glo "_law_bag") rfl), FunD.bindsN F43 fun _ _ _ _ _ _ us hl => match us, hl with | [_, _], _ => rfl⟩
  have D__law_take : Def g "_law_take" s__law_take ["_law_bag_here", "_law_many"] := ⟨_, fd44, F44, He.glo_ok X G (c.d.fact 44 (f := .glo "_law_take") rfl), FunD.bindsN F44 fun _ _ _ _ _ _ us hl => match us, hl with | [_, _], _ => rfl⟩
  have D__law_low : Def g "_law_low" s__law_low ["_law_top", "_law_below"] := ⟨_, fd45, F45, He.glo_ok X G (c.d.fact 45 (f := .glo "_law_low") rfl), FunD.bindsN F45 fun _ _ _ _ _ _ us hl => match us, hl with | [_, _], _ => rfl⟩
  have D__law_add : Def g "_law_add" s__law_add ["_law_one", "_law_other"] := ⟨_, fd46, F46, He.glo_ok X G (c.d.fact 46 (f := .glo "_law_add") rfl), FunD.bindsN F46 fun _ _ _ _ _ _ us hl => match us, hl with | [_, _], _ => rfl⟩
  have D__law_mul : Def g "_law_mul" s__law_mul ["_law_one", "_law_other"] := ⟨_, fd47, F47, He.glo_ok X G (c.d.fact 47 (f := .glo "_law_mul") rfl), FunD.bindsN F47 fun _ _ _ _ _ _ us hl => match us, hl with | [_, _], _ => rfl⟩
  have D__law_number : Def g "_law_number" s__law_number ["_law_bag_here", "_law_kind"] := ⟨_, fd48, F48, He.glo_ok X G (c.d.fact 48 (f := .glo "_law_number") rfl), FunD.bindsN F48 fun _ _ _ _ _ _ us hl => match us, hl with | [_, _], _ => rfl⟩
  have D__law_turned : Def g "_law_turned" s__law_turned ["_law_bag_here", "_law_many"] := ⟨_, fd49, F49, He.glo_ok X G (c.d.fact 49 (f := .glo "_law_turned") rfl), FunD.bindsN F49 fun _ _ _ _ _ _ us hl => match us, hl with | [_, _], _ => rfl⟩
  have D__law_machine : Def g "_law_machine" s__law_machine ["_law_bag_here", "_law_most", "_law_even", "_law_kind"] := ⟨_, fd50, F50, He.glo_ok X G (c.d.fact 50 (f := .glo "_law_machine") rfl), FunD.bindsN F50 fun _ _ _ _ _ _ us hl => match us, hl with | [_, _, _, _], _ => rfl⟩
  have D__law_same : Def g "_law_same" s__law_same ["_law_one", "_law_other"] := ⟨_, fd51, F51, He.glo_ok X G (c.d.fact 51 (f := .glo "_law_same") rfl), FunD.bindsN F51 fun _ _ _ _ _ _ us hl => match us, hl with | [_, _], _ => rfl⟩
  have D__law_alone : Def g "_law_alone" s__law_alone ["_law_e"] := ⟨_, fd52, F52, He.glo_ok X G (c.d.fact 52 (f := .glo "_law_alone") rfl), FunD.bindsN F52 fun _ _ _ _ _ _ us hl => match us, hl with | [_], _ => rfl⟩
  have D__law_drives : Def g "_law_drives" s__law_drives ["_law_row"] := ⟨_, fd53, F53, He.glo_ok X G (c.d.fact 53 (f := .glo "_law_drives") rfl), FunD.bindsN F53 fun _ _ _ _ _ _ us hl => match us, hl with | [_], _ => rfl⟩
  have D__law_above : Def g "_law_above" s__law_above ["_law_one", "_law_other"] := ⟨_, fd54, F54, He.glo_ok X G (c.d.fact 54 (f := .glo "_law_above") rfl), FunD.bindsN F54 fun _ _ _ _ _ _ us hl => match us, hl with | [_, _], _ => rfl⟩
  have D__law_beyond : Def g "_law_beyond" s__law_beyond ["_law_limits", "_law_number_here"] := ⟨_, fd55, F55, He.glo_ok X G (c.d.fact 55 (f := .glo "_law_beyond") rfl), FunD.bindsN F55 fun _ _ _ _ _ _ us hl => match us, hl with | [_, _], _ => rfl⟩
  have D__law_long : Def g "_law_long" s__law_long ["_law_number_here"] := ⟨_, fd56, F56, He.glo_ok X G (c.d.fact 56 (f := .glo "_law_long") rfl), FunD.bindsN F56 fun _ _ _ _ _ _ us hl => match us, hl with | [_], _ => rfl⟩
  have D__law_fresh : Def g "_law_fresh" s__law_fresh ["_law_machine_here"] := ⟨_, fd57, F57, He.glo_ok X G (c.d.fact 57 (f := .glo "_law_fresh") rfl), FunD.bindsN F57 fun _ _ _ _ _ _ us hl => match us, hl with | [_], _ => rfl⟩
  have D__law_move : Def g "_law_move" s__law_move ["_law_row", "_law_here", "_law_moves_here", "_law_number_here"] := ⟨_, fd58, F58, He.glo_ok X G (c.d.fact 58 (f := .glo "_law_move") rfl), FunD.bindsN F58 fun _ _ _ _ _ _ us hl => match us, hl with | [_, _, _, _], _ => rfl⟩
  have D__law_moves : Def g "_law_moves" s__law_moves ["_law_state", "_law_number_here"] := ⟨_, fd59, F59, He.glo_ok X G (c.d.fact 59 (f := .glo "_law_moves") rfl), FunD.bindsN F59 fun _ _ _ _ _ _ us hl => match us, hl with | [_, _], _ => rfl⟩
  have D__law_clicked : Def g "_law_clicked" s__law_clicked ["_law_state", "_law_number_here"] := ⟨_, fd60, F60, He.glo_ok X G (c.d.fact 60 (f := .glo "_law_clicked") rfl), FunD.bindsN F60 fun _ _ _ _ _ _ us hl => match us, hl with | [_, _], _ => rfl⟩
  have D__law_refusal : Def g "_law_refusal" s__law_refusal ["_law_e"] := ⟨_, fd61, F61, He.glo_ok X G (c.d.fact 61 (f := .glo "_law_refusal") rfl), FunD.bindsN F61 fun _ _ _ _ _ _ us hl => match us, hl with | [_], _ => rfl⟩
  have D__law_said : Def g "_law_said" s__law_said ["_law_bench", "_law_deed"] := ⟨_, fd62, F62, He.glo_ok X G (c.d.fact 62 (f := .glo "_law_said") rfl), FunD.bindsN F62 fun _ _ _ _ _ _ us hl => match us, hl with | [_, _], _ => rfl⟩
  have D__law_got : Def g "_law_got" s__law_got ["_law_bench", "_law_deed"] := ⟨_, fd63, F63, He.glo_ok X G (c.d.fact 63 (f := .glo "_law_got") rfl), FunD.bindsN F63 fun _ _ _ _ _ _ us hl => match us, hl with | [_, _], _ => rfl⟩
  have D__law_stands : Def g "_law_stands" s__law_stands ["_law_bench", "_law_state"] := ⟨_, fd64, F64, He.glo_ok X G (c.d.fact 64 (f := .glo "_law_stands") rfl), FunD.bindsN F64 fun _ _ _ _ _ _ us hl => match us, hl with | [_, _], _ => rfl⟩
  have D__law_any_row : Def g "_law_any_row" s__law_any_row ["_law_bag_here", "_law_many", "_law_number_here"] := ⟨_, fd65, F65, He.glo_ok X G (c.d.fact 65 (f := .glo "_law_any_row") rfl), FunD.bindsN F65 fun _ _ _ _ _ _ us hl => match us, hl with | [_, _, _], _ => rfl⟩
  have D__law_any_deed : Def g "_law_any_deed" s__law_any_deed ["_law_bag_here", "_law_many", "_law_outs"] := ⟨_, fd66, F66, He.glo_ok X G (c.d.fact 66 (f := .glo "_law_any_deed") rfl), FunD.bindsN F66 fun _ _ _ _ _ _ us hl => match us, hl with | [_, _, _], _ => rfl⟩
  have D__law_moved : Def g "_law_moved" s__law_moved ["_law_bag_here", "_law_machine_here"] := ⟨_, fd67, F67, He.glo_ok X G (c.d.fact 67 (f := .glo "_law_moved") rfl), FunD.bindsN F67 fun _ _ _ _ _ _ us hl => match us, hl with | [_, _], _ => rfl⟩
  have D__law_term : Def g "_law_term" s__law_term ["_law_row", "_law_series", "_law_k"] := ⟨_, fd68, F68, He.glo_ok X G (c.d.fact 68 (f := .glo "_law_term") rfl), FunD.bindsN F68 fun _ _ _ _ _ _ us hl => match us, hl with | [_, _, _], _ => rfl⟩
  have D__law_turns_so : Def g "_law_turns_so" s__law_turns_so ["_law_machine_here"] := ⟨_, fd69, F69, He.glo_ok X G (c.d.fact 69 (f := .glo "_law_turns_so") rfl), FunD.bindsN F69 fun _ _ _ _ _ _ us hl => match us, hl with | [_], _ => rfl⟩
  have D__law_clutches_in : Def g "_law_clutches_in" s__law_clutches_in ["_law_bench", "_law_many"] := ⟨_, fd70, F70, He.glo_ok X G (c.d.fact 70 (f := .glo "_law_clutches_in") rfl), FunD.bindsN F70 fun _ _ _ _ _ _ us hl => match us, hl with | [_, _], _ => rfl⟩
  have G_shared := ok_shared T.toTxt D_shared
  have G_fraction := ok_fraction T.toTxt D_fraction G_shared
  have G_plus := ok_plus T.toTxt D_plus G_fraction
  have G_times := ok_times T.toTxt D_times G_fraction
  have G_over := ok_over T.toTxt D_over G_fraction
  have G_whole := ok_whole T.toTxt D_whole
  have G_is_above := ok_is_above T.toTxt D_is_above
  have G_is_whole := ok_is_whole T.toTxt D_is_whole
  have G_is_number := ok_is_number T.toTxt D_is_number G_shared G_is_whole
  have G_is_shaft := ok_is_shaft T.toTxt D_is_shaft G_is_whole
  have G_is_source := ok_is_source T.toTxt D_is_source
  have G_is_row := ok_is_row T.toTxt D_is_row G_is_number G_is_shaft
  have G_drives_of := ok_drives_of T.toTxt D_drives_of
  have G_are_rows := ok_are_rows T.toTxt D_are_rows G_is_row G_is_source
  have G_may_stand := ok_may_stand T.toTxt D_may_stand G_drives_of
  have G_order_of := ok_order_of T.toTxt D_order_of G_may_stand
  have G_ring_of := ok_ring_of T.toTxt D_ring_of G_order_of G_drives_of
  have I_Ring := ok_Ring_init D_Ring___init__
  have I_Stopped := ok_Stopped_init D_Stopped___init__
  have G_look_machine := ok_look_machine T.toTxt D_look_machine X_NoMachine X_Ring I_Ring G_are_rows G_ring_of
  have G_move_of := ok_move_of T D_move_of G_times G_plus
  have G_is_beyond := ok_is_beyond T D_is_beyond G_is_above
  have G_is_long := ok_is_long T D_is_long
  have G_Bench_stand := ok_Bench_stand T D_Bench_stand
  have G_Bench_moved := ok_Bench_moved T D_Bench_moved
  have G_Bench_stands := ok_Bench_stands T D_Bench_stands
  have G_Bench_deeds := ok_Bench_deeds T D_Bench_deeds
  have G_Bench_keep := ok_Bench_keep T D_Bench_keep
  have G_Bench_machine := ok_Bench_machine T D_Bench_machine
  have G_Bench_moves_by := ok_Bench_moves_by T D_Bench_moves_by G_order_of G_move_of
  have G_Bench := ok_Bench_init T D_Bench___init__
  have G_Bench_want_out := ok_Bench_want_out T D_Bench_want_out X_Held
  have G_Bench_out := ok_Bench_out T D_Bench_out G_Bench_want_out G_Bench_keep
  have G_Bench_into := ok_Bench_into T D_Bench_into G_Bench_want_out G_Bench_keep
  have G_Bench_put := ok_Bench_put T D_Bench_put X_Stopped I_Stopped G_is_beyond G_Bench_want_out G_Bench_keep
  have G_Bench_ends := ok_Bench_ends T D_Bench_ends X_Stopped I_Stopped G_is_beyond G_Bench_keep
  have G_Bench_gear := ok_Bench_gear T D_Bench_gear X_NoGear G_Bench_keep
  have G_Bench_undo := ok_Bench_undo T D_Bench_undo X_NoDeed
  have G_Bench_wire := ok_Bench_wire T D_Bench_wire G_look_machine G_Bench_want_out G_Bench_keep
  have G_Bench_click := ok_Bench_click T D_Bench_click X_Stopped I_Stopped X_TooFar G_is_beyond G_is_long G_plus G_Bench_moves_by G_Bench_keep
  have G_term_along := ok_term_along T D_term_along G_times G_plus G_over G_whole
  have G_further_term := ok_further_term T D_further_term G_times G_plus G_term_along
  have G_series_of := ok_series_of T D_series_of G_order_of G_further_term
  have G__law_bag := ok_law_bag T D__law_bag
  have G__law_take := ok_law_take T D__law_take
  have G__law_low := ok_law_low T D__law_low
  have G__law_add := ok_law_add T D__law_add G__law_low
  have G__law_mul := ok_law_mul T D__law_mul G__law_low
  have G__law_number := ok_law_number T D__law_number G__law_take G__law_low
  have G__law_turned := ok_law_turned T D__law_turned G__law_take
  have G__law_machine := ok_law_machine T D__law_machine G__law_take G__law_number G__law_turned
  have G_s0 := law_same_0 D__law_same
  have G_s1 := law_same_step T D__law_same G_s0
  have G_s2 := law_same_step T D__law_same G_s1
  have G_s3 := law_same_step T D__law_same G_s2
  have G_s4 := law_same_step T D__law_same G_s3
  have G_s5 := law_same_step T D__law_same G_s4
  have G__law_same := law_same_step T D__law_same G_s5
  have G__law_drives := ok_law_drives T D__law_drives
  have G__law_above := ok_law_above T D__law_above
  have G__law_beyond := ok_law_beyond T D__law_beyond G__law_above
  have G__law_long := ok_law_long T D__law_long
  have G__law_move := ok_law_move T D__law_move G__law_mul G__law_add
  have G__law_fresh := ok_law_fresh T D__law_fresh
  have G__law_moves := ok_law_moves T D__law_moves G__law_drives G__law_move
  have G__law_clicked := ok_law_clicked T D__law_clicked G__law_moves G__law_add G__law_beyond G__law_long
  have G__law_term := ok_law_term T D__law_term G__law_mul G__law_add
  have G__law_turns_so := ok_law_turns_so T D__law_turns_so G_series_of G__law_term G__law_mul G__law_same
  have G__law_alone := ok_law_alone T TI D__law_alone
  have G__law_refusal := ok_law_refusal T TI D__law_refusal G__law_alone
  have G__law_said := ok_law_said T D__law_said G_Bench_click G_Bench_out G_Bench_into G_Bench_put G_Bench_wire G_Bench_gear G_Bench_ends G_Bench_undo
  have G__law_got := ok_law_got T TI TS X_Stopped X_Ring D__law_got G__law_said G__law_alone G__law_refusal
  have G__law_stands := ok_law_stands T D__law_stands G_Bench_stands G_Bench_stand G_Bench_machine G_Bench_moved G_Bench_deeds G__law_same
  have G__law_any_row := ok_law_any_row T D__law_any_row G__law_take G__law_number
  have G__law_any_deed := ok_law_any_deed T D__law_any_deed G__law_take G__law_number G__law_any_row
  have G__law_clutches_in := ok_law_clutches_in T D__law_clutches_in G__law_got G__law_same
  have G__law_moved := ok_law_moved T D__law_moved G_Bench G__law_take G__law_low G__law_any_deed G__law_got G_Bench_stands G_Bench_ends
  exact ok_law T F71 G__law_bag G__law_take G__law_machine G__law_moved G_Bench_machine G_Bench_moved G_Bench_stands G_Bench_deeds G_Bench G__law_fresh G__law_stands G__law_got G__law_clutches_in G__law_number G__law_clicked G__law_same G__law_turns_so
end K79
open PySem PySem.W PySem.Calls PyProof.Rows
theorem PySem.Challenge.cw_rolldiscs_k79_whole_benches_of_benches_holds : PySem.Challenge.rw_rolldiscs_k79_whole_benches_of_benches.Holds := by
  w_on; o_law
  refine HandSHeadRun.head_any (r := OpenLaw.row PySem.Challenge.rw_rolldiscs_k79_whole_benches_of_benches) (q := view (OpenLaw.row PySem.Challenge.rw_rolldiscs_k79_whole_benches_of_benches).prog [83]) (H := K79.hHk) (ob := K79.hOb) (M := 7000) (loose := K79.looseAll) (d := HandSHeadRun.topDef (OpenLaw.row PySem.Challenge.rw_rolldiscs_k79_whole_benches_of_benches).prog 83) (kwd := []) K79.hOb_eq
    (by kernel_rfl) (fun s => by kernel_rfl) K79.hRun (by kernel_rfl) (by kernel_rfl) (by kernel_rfl) (by rfl) (by first | assumption | decide +kernel) (by decide +kernel) ⟨rfl, rfl, rfl, rfl, rfl, by decide +kernel⟩ ?hw ?hc
  case hw => w_witness2
  case hc =>
    refine L2.walk_ofE (l := PySem.Challenge.rw_rolldiscs_k79_whole_benches_of_benches) (n := 63) (k := 10) (x := "_law_script") (CX := L2.CX0) rfl (by decide) (by kernel_rfl) ⟨rfl, by decide, by decide⟩ ?F (fun _ _ _ _ z => z)
    intro w mg fa h Y G hmg0
    obtain ⟨K, KX, c⟩ := Y
    have hmg : mg ("law" : PySem.Str) = some (.ref fa) := by
      have e : (HandSHeadRun.topDef (OpenLaw.row PySem.Challenge.rw_rolldiscs_k79_whole_benches_of_benches).prog 83).name = ("law" : PySem.Str) := by kernel_rfl
      rw [← e]
      exact hmg0
    obtain ⟨fd, hb, hF⟩ := K79.facts (P := (PySem.Challenge.rw_rolldiscs_k79_whole_benches_of_benches).prog) (w := w) KX G hmg c
    exact ⟨K, fd, K79.spLaw K, KX, hb, fun H a ns hl _ hS => ⟨a, ns, rfl, hS, fun _ _ => rfl⟩, hF⟩
end
