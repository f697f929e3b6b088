import PyProof.Rows.All
import Wide.All
import OpenK.AllK
import Wide.FinOn
import HandS.ForMost
import HandS.WideBits
import PySem.Challenge.RW_stagedrounding_k69_whole_no_shorter_chai
import HandS.SortKw
import HandS.Deep
import HandS.Zip
import HandS.TupAny
import HandS.IsInst
import HandS.More
import KE.LtData
import KE.DataMinMax
import KE.SortData
import KE.KDictKeyed
import KE.KeyNested
import KE.GoesEnum
import KE.GoesMore
import HandS.Walk
import HandS.Style
set_option linter.all false
namespace SR
inductive Rule | down | hdown | heven | hup | odd | up
  deriving DecidableEq, Repr
def Rule.idx : Rule → Nat
  | .down => 0 | .hdown => 1 | .heven => 2 | .hup => 3 | .odd => 4 | .up => 5
theorem Rule.idx_inj : ∀ a b : Rule, a.idx = b.idx → a = b := by
  intro a b h; cases a <;> cases b <;> first | rfl | (simp [Rule.idx] at h)
def rules : List Rule := [.down, .hdown, .heven, .hup, .odd, .up]
theorem mem_rules (r : Rule) : r ∈ rules := by cases r <;> simp [rules]

structure Th where
  n : Nat
  d : Nat
  up : Bool
  deriving DecidableEq, Repr
abbrev Step := Nat × Rule
abbrev Chain := List Step

def red (a b : Nat) : Nat × Nat := (a / Nat.gcd a b, b / Nat.gcd a b)
def never : Th := ⟨1, 1, true⟩
def always : Th := ⟨0, 1, false⟩
def tieDown : Th := ⟨1, 2, false⟩
def tieUp : Th := ⟨1, 2, true⟩
def byRule : Rule → Th × Th
  | .down => (never, never)
  | .hdown => (tieDown, tieDown)
  | .heven => (tieDown, tieUp)
  | .hup => (tieUp, tieUp)
  | .odd => (always, never)
  | .up => (always, always)
def sel {α : Type} (p : α × α) (i : Nat) : α := if i % 2 = 0 then p.1 else p.2
def lastDown (r : Rule) (far par : Nat) : Nat :=
  let t := sel (byRule r) par
  let i := t.n * 2 ^ far / t.d
  if t.up then i - 1 else i
def mkTh (p : Nat × Nat) (u : Bool) : Th := ⟨p.1, p.2, u⟩
def comb1 (P : Th × Th) (r : Rule) (far par : Nat) : Th :=
  let i := lastDown r far par
  let t := sel P i
  mkTh (red (i * t.d + t.n) (t.d * 2 ^ far)) t.up
def combined (P : Th × Th) (r : Rule) (far : Nat) : Th × Th := (comb1 P r far 0, comb1 P r far 1)

/-- the last rule, then (gap, rule) from there to the first step -/
abbrev RC := Rule × List (Nat × Rule)
def T : Rule → List (Nat × Rule) → Th × Th
  | r, [] => byRule r
  | r, (g, r') :: gs => combined (T r' gs) r g
def toC (w : Nat) : Rule → List (Nat × Rule) → Chain
  | r, [] => [(w, r)]
  | r, (g, r') :: gs => toC (w + g) r' gs ++ [(w, r)]
def GapsOk (gs : List (Nat × Rule)) : Prop := ∀ p ∈ gs, 1 ≤ p.1
def total (gs : List (Nat × Rule)) : Nat := (gs.map (·.1)).sum

/-! ### good thresholds -/
structure Good (t : Th) : Prop where
  pos : 0 < t.d
  le : t.n ≤ t.d
  co : Nat.gcd t.n t.d = 1
  lo : t.n = 0 → t.up = false
  hi : t.n = t.d → t.up = true
theorem good_byRule (r : Rule) (i : Nat) : Good (sel (byRule r) i) := by
  have h : ∀ p : Th × Th, Good p.1 → Good p.2 → Good (sel p i) := fun p a b => by unfold sel; split <;> assumption
  cases r <;> refine h _ ?_ ?_ <;> constructor <;> decide

theorem red_pos {a b : Nat} (h : 0 < b) : 0 < (red a b).2 := by
  unfold red
  exact Nat.div_pos (Nat.le_of_dvd h (Nat.gcd_dvd_right a b)) (Nat.gcd_pos_of_pos_right a h)
theorem red_co {a b : Nat} (h : 0 < b) : Nat.gcd (red a b).1 (red a b).2 = 1 := by
  unfold red
  exact Nat.gcd_div_gcd_div_gcd_of_pos_right h
theorem red_cross {a b : Nat} : (red a b).1 * b = a * (red a b).2 := by
  unfold red
  have h1 := Nat.div_mul_cancel (Nat.gcd_dvd_left a b)
  have h2 := Nat.div_mul_cancel (Nat.gcd_dvd_right a b)
  generalize hg : Nat.gcd a b = g at *
  generalize a / g = x at *
  generalize b / g = y at *
  subst h1
  rw [← h2]
  simp only [Nat.mul_assoc, Nat.mul_comm, Nat.mul_left_comm]
theorem cross_uniq {n d n' d' : Nat} (h : 0 < d) (h' : 0 < d') (c : Nat.gcd n d = 1) (c' : Nat.gcd n' d' = 1) (e : n * d' = n' * d) : n = n' ∧ d = d' := by
  have a1 : d ∣ d' := by
    have q : d ∣ n * d' := ⟨n', by rw [e, Nat.mul_comm]⟩
    exact Nat.Coprime.dvd_of_dvd_mul_left (show Nat.gcd d n = 1 by rw [Nat.gcd_comm]; exact c) q
  have a2 : d' ∣ d := by
    have q : d' ∣ n' * d := ⟨n, by rw [← e, Nat.mul_comm]⟩
    exact Nat.Coprime.dvd_of_dvd_mul_left (show Nat.gcd d' n' = 1 by rw [Nat.gcd_comm]; exact c') q
  have ed : d = d' := Nat.dvd_antisymm a1 a2
  subst ed
  exact ⟨Nat.eq_of_mul_eq_mul_right h e, rfl⟩
theorem red_eq {a b n d : Nat} (hb : 0 < b) (hd : 0 < d) (c : Nat.gcd n d = 1) : red a b = (n, d) ↔ a * d = n * b := by
  constructor
  · intro e
    have q := red_cross (a := a) (b := b)
    rw [e] at q
    exact q.symm
  · intro e
    have q := red_cross (a := a) (b := b)
    have p := red_pos (a := a) hb
    have k := red_co (a := a) hb
    generalize red a b = z at *
    obtain ⟨x, y⟩ := z
    simp only at q p k
    have e2 : x * d = n * y := by
      have h1 : (x * d) * b = (n * y) * b := by
        calc (x * d) * b = (x * b) * d := by ac_rfl
          _ = (a * y) * d := by rw [q]
          _ = (a * d) * y := by ac_rfl
          _ = (n * b) * y := by rw [e]
          _ = (n * y) * b := by ac_rfl
      exact Nat.eq_of_mul_eq_mul_right hb h1
    obtain ⟨r1, r2⟩ := cross_uniq p hd k c e2
    rw [r1, r2]
theorem red_dvd {a b : Nat} : (red a b).2 ∣ b := by
  unfold red
  exact Nat.div_dvd_of_dvd (Nat.gcd_dvd_right a b)

/-! ### the last part rounded down -/
theorem sel_mod {α : Type} (p : α × α) (i : Nat) : sel p (i % 2) = sel p i := by
  unfold sel; rw [Nat.mod_mod]
theorem sel_cases {α : Type} (p : α × α) (i : Nat) : (i % 2 = 0 ∧ sel p i = p.1) ∨ (i % 2 = 1 ∧ sel p i = p.2) := by
  unfold sel
  rcases Nat.mod_two_eq_zero_or_one i with h | h
  · exact .inl ⟨h, by rw [if_pos h]⟩
  · exact .inr ⟨h, by rw [if_neg (by omega)]⟩
theorem kinds (r : Rule) (par : Nat) : sel (byRule r) par = never ∨ sel (byRule r) par = always ∨ sel (byRule r) par = tieDown ∨ sel (byRule r) par = tieUp := by
  rcases sel_cases (byRule r) par with ⟨_, e⟩ | ⟨_, e⟩ <;> rw [e] <;> cases r <;> simp [byRule]
theorem ld_never {r : Rule} {par : Nat} (h : sel (byRule r) par = never) (far : Nat) : lastDown r far par = 2 ^ far - 1 := by
  unfold lastDown; rw [h]; simp [never]
theorem ld_always {r : Rule} {par : Nat} (h : sel (byRule r) par = always) (far : Nat) : lastDown r far par = 0 := by
  unfold lastDown; rw [h]; simp [always]
theorem half_pow (f : Nat) : 1 * 2 ^ (f + 1) / 2 = 2 ^ f := by
  rw [Nat.pow_succ]; omega
theorem ld_tieDown {r : Rule} {par : Nat} (h : sel (byRule r) par = tieDown) (f : Nat) : lastDown r (f + 1) par = 2 ^ f := by
  unfold lastDown; rw [h]; simp only [tieDown]; rw [half_pow]; simp
theorem ld_tieUp {r : Rule} {par : Nat} (h : sel (byRule r) par = tieUp) (f : Nat) : lastDown r (f + 1) par = 2 ^ f - 1 := by
  unfold lastDown; rw [h]; simp only [tieUp]; rw [half_pow]; simp
theorem ld_lt (r : Rule) (f par : Nat) : lastDown r (f + 1) par < 2 ^ (f + 1) := by
  have p : 0 < 2 ^ f := Nat.two_pow_pos f
  rcases kinds r par with h | h | h | h
  · rw [ld_never h, Nat.pow_succ]; omega
  · rw [ld_always h, Nat.pow_succ]; omega
  · rw [ld_tieDown h, Nat.pow_succ]; omega
  · rw [ld_tieUp h, Nat.pow_succ]; omega

theorem good_comb1 {P : Th × Th} (hP : ∀ i, Good (sel P i)) (r : Rule) (f par : Nat) : Good (comb1 P r (f + 1) par) := by
  have hi := ld_lt r f par
  unfold comb1
  simp only
  generalize hi' : lastDown r (f + 1) par = i at hi
  have g := hP i
  generalize sel P i = t at g
  have h2 : 0 < 2 ^ (f + 1) := Nat.two_pow_pos _
  have hb : 0 < t.d * 2 ^ (f + 1) := Nat.mul_pos g.pos h2
  have hle : (i + 1) * t.d ≤ 2 ^ (f + 1) * t.d := Nat.mul_le_mul_right _ hi
  have e1 : (i + 1) * t.d = i * t.d + t.d := by rw [Nat.add_mul, Nat.one_mul]
  have e2 : 2 ^ (f + 1) * t.d = t.d * 2 ^ (f + 1) := Nat.mul_comm _ _
  have ha : i * t.d + t.n ≤ t.d * 2 ^ (f + 1) := by have := g.le; omega
  have q := red_cross (a := i * t.d + t.n) (b := t.d * 2 ^ (f + 1))
  have p := red_pos (a := i * t.d + t.n) hb
  have k := red_co (a := i * t.d + t.n) hb
  unfold mkTh
  generalize red (i * t.d + t.n) (t.d * 2 ^ (f + 1)) = z at q p k
  obtain ⟨x, y⟩ := z
  simp only at q p k
  refine ⟨p, ?_, k, fun h => ?_, fun h => ?_⟩
  · show x ≤ y
    refine Nat.le_of_mul_le_mul_right ?_ hb
    rw [q, Nat.mul_comm y]
    exact Nat.mul_le_mul_right _ ha
  · show t.up = false
    have h : x = 0 := h
    rw [h, Nat.zero_mul] at q
    have : i * t.d + t.n = 0 := (Nat.mul_eq_zero.mp q.symm).resolve_right (by omega)
    exact g.lo (by omega)
  · show t.up = true
    have h : x = y := h
    rw [h, Nat.mul_comm] at q
    have e := Nat.eq_of_mul_eq_mul_right p q
    apply g.hi
    have := g.le
    omega
theorem sel_pair {α : Type} (a b : α) (i : Nat) : (i % 2 = 0 ∧ sel (a, b) i = a) ∨ (i % 2 = 1 ∧ sel (a, b) i = b) := sel_cases (a, b) i
theorem good_T : ∀ (gs : List (Nat × Rule)) (r : Rule), GapsOk gs → ∀ i, Good (sel (T r gs) i)
  | [], r, _, i => good_byRule r i
  | (g, r') :: gs, r, h, i => by
    have ih := good_T gs r' (fun p hp => h p (List.mem_cons_of_mem _ hp))
    have hg : 1 ≤ g := h (g, r') List.mem_cons_self
    obtain ⟨f, rfl⟩ : ∃ f, g = f + 1 := ⟨g - 1, by omega⟩
    unfold T combined
    rcases sel_pair (comb1 (T r' gs) r (f + 1) 0) (comb1 (T r' gs) r (f + 1) 1) i with ⟨_, e⟩ | ⟨_, e⟩ <;> rw [e] <;> exact good_comb1 ih _ _ _
theorem comb1_sel (P : Th × Th) (r : Rule) (far i : Nat) : sel (combined P r far) i = comb1 P r far (i % 2) := by
  unfold combined
  rcases sel_pair (comb1 P r far 0) (comb1 P r far 1) i with ⟨h, e⟩ | ⟨h, e⟩ <;> rw [e, h]

/-! ### one step back -/
abbrev Wanted := Option Th × Option Th
def before1 (t : Th) (r : Rule) (far par : Nat) : Option (Nat × Th) :=
  let i := lastDown r far par
  let part : Int := (t.n : Int) * 2 ^ far - i * t.d
  if part < 0 ∨ part > t.d ∨ (part = 0 ∧ t.up = true) ∨ (part = t.d ∧ t.up = false) then none
  else some (i % 2, mkTh (red part.toNat t.d) t.up)
theorem before1_iff {t : Th} (hd : 0 < t.d) (hc : Nat.gcd t.n t.d = 1) {P : Th × Th} (hP : ∀ i, Good (sel P i)) (r : Rule) (f par : Nat) :
    comb1 P r (f + 1) par = t ↔ before1 t r (f + 1) par = some (lastDown r (f + 1) par % 2, sel P (lastDown r (f + 1) par)) := by
  unfold comb1 before1
  simp only
  generalize lastDown r (f + 1) par = i
  have g := hP i
  generalize sel P i = u at g
  have h2 : 0 < 2 ^ (f + 1) := Nat.two_pow_pos _
  generalize hX : 2 ^ (f + 1) = X at h2
  have hb : 0 < u.d * X := Nat.mul_pos g.pos h2
  have key : red (i * u.d + u.n) (u.d * X) = (t.n, t.d) ↔ (i * u.d + u.n) * t.d = t.n * (u.d * X) := red_eq hb hd hc
  have eqTh : ∀ (p : Nat × Nat) (b : Bool) (v : Th), mkTh p b = v ↔ p = (v.n, v.d) ∧ b = v.up := by
    intro p b v; obtain ⟨x, y⟩ := p; obtain ⟨n, d, c⟩ := v
    unfold mkTh; simp [and_assoc]
  have hcast : ((2 : Int) ^ (f + 1)) = (X : Int) := by rw [← hX]; push_cast; rfl
  rw [hcast]
  constructor
  · intro e
    obtain ⟨e1, e2⟩ := (eqTh _ _ _).mp e
    have e3 := key.mp e1
    -- part * u.d = u.n * t.d
    have hle : i * t.d ≤ t.n * X := by
      refine Nat.le_of_mul_le_mul_right ?_ g.pos
      have q1 : i * t.d * u.d = i * u.d * t.d := by ac_rfl
      have q2 : t.n * X * u.d = t.n * (u.d * X) := by ac_rfl
      rw [q1, q2, ← e3, Nat.add_mul]
      exact Nat.le_add_right _ _
    obtain ⟨z, hz⟩ : ∃ z, t.n * X = i * t.d + z := ⟨t.n * X - i * t.d, by omega⟩
    have e4 : z * u.d = u.n * t.d := by
      have q : t.n * (u.d * X) = (t.n * X) * u.d := by ac_rfl
      rw [q, hz, Nat.add_mul, Nat.add_mul] at e3
      have : i * t.d * u.d = i * u.d * t.d := by ac_rfl
      omega
    have hpart : ((t.n : Int) * (X : Int) - (i : Int) * (t.d : Int)) = (z : Int) := by
      have : ((t.n * X : Nat) : Int) = ((i * t.d + z : Nat) : Int) := by rw [hz]
      push_cast at this
      omega
    rw [hpart]
    have hzd : z ≤ t.d := by
      refine Nat.le_of_mul_le_mul_right ?_ g.pos
      rw [e4, Nat.mul_comm t.d]
      exact Nat.mul_le_mul_right _ g.le
    rw [if_neg]
    · rw [Int.toNat_natCast]
      have : red z t.d = (u.n, u.d) := (red_eq hd g.pos g.co).mpr e4
      rw [this, ← e2]
      rfl
    · rintro (h | h | ⟨h, h'⟩ | ⟨h, h'⟩)
      · omega
      · omega
      · have z0 : z = 0 := by omega
        rw [z0, Nat.zero_mul] at e4
        have : u.n = 0 := (Nat.mul_eq_zero.mp e4.symm).resolve_right (by omega)
        have := g.lo this
        rw [e2, h'] at this
        exact absurd this (by decide)
      · have z0 : z = t.d := by omega
        rw [z0, Nat.mul_comm] at e4
        have := Nat.eq_of_mul_eq_mul_right hd e4
        have := g.hi this.symm
        rw [e2, h'] at this
        exact absurd this (by decide)
  · intro e
    split at e
    · cases e
    · rename_i hn
      have e := Option.some.inj e
      have e1 := (Prod.mk.inj e).2
      obtain ⟨e2, e3⟩ := (eqTh _ _ _).mp e1
      have hp : 0 ≤ ((t.n : Int) * (X : Int) - (i : Int) * (t.d : Int)) := by
        refine Int.not_lt.mp fun h => hn (.inl h)
      obtain ⟨z, hz⟩ := Int.eq_ofNat_of_zero_le hp
      rw [hz, Int.toNat_natCast] at e2
      have e4 := (red_eq hd g.pos g.co).mp e2
      refine (eqTh _ _ _).mpr ⟨key.mpr ?_, e3.symm⟩
      have hz' : t.n * X = i * t.d + z := by
        have : ((t.n * X : Nat) : Int) = ((i * t.d + z : Nat) : Int) := by push_cast; omega
        exact Int.ofNat.inj this
      calc (i * u.d + u.n) * t.d = i * t.d * u.d + u.n * t.d := by rw [Nat.add_mul]; ac_rfl
        _ = i * t.d * u.d + z * u.d := by rw [e4]
        _ = (i * t.d + z) * u.d := by rw [Nat.add_mul]
        _ = t.n * X * u.d := by rw [hz']
        _ = t.n * (u.d * X) := by ac_rfl
theorem before1_good {t : Th} (hd : 0 < t.d) {r : Rule} {far par : Nat} {q : Nat × Th} (h : before1 t r far par = some q) : Good q.2 ∧ q.2.d ∣ t.d ∧ q.1 < 2 := by
  unfold before1 at h
  simp only at h
  split at h
  · cases h
  · rename_i hn
    have h := Option.some.inj h
    subst h
    generalize hz : ((t.n : Int) * 2 ^ far - (lastDown r far par : Int) * (t.d : Int)) = z at *
    have h0 : 0 ≤ z := by omega
    obtain ⟨k, rfl⟩ := Int.eq_ofNat_of_zero_le h0
    rw [Int.toNat_natCast]
    have hk : k ≤ t.d := by omega
    have q := red_cross (a := k) (b := t.d)
    have p := red_pos (a := k) hd
    have co := red_co (a := k) hd
    have dv := red_dvd (a := k) (b := t.d)
    unfold mkTh
    generalize red k t.d = z at q p co dv
    obtain ⟨x, y⟩ := z
    simp only at q p co dv
    refine ⟨⟨p, ?_, co, fun h => ?_, fun h => ?_⟩, dv, by simp only; omega⟩
    · show x ≤ y
      refine Nat.le_of_mul_le_mul_right ?_ hd
      rw [q, Nat.mul_comm y]
      exact Nat.mul_le_mul_right _ hk
    · show t.up = false
      have h : x = 0 := h
      rw [h, Nat.zero_mul] at q
      have k0 : k = 0 := (Nat.mul_eq_zero.mp q.symm).resolve_right (by omega)
      cases hu : t.up with
      | false => rfl
      | true => exact absurd (.inr (.inr (.inl ⟨by omega, hu⟩))) hn
    · show t.up = true
      have h : x = y := h
      rw [h, Nat.mul_comm] at q
      have e := Nat.eq_of_mul_eq_mul_right p q
      cases hu : t.up with
      | true => rfl
      | false => exact absurd (.inr (.inr (.inr ⟨by omega, hu⟩))) hn

/-- once a step is too long, a longer one is too -/
theorem before1_mono {t : Th} (hl : t.n ≤ t.d) (r : Rule) (f par : Nat) (h : before1 t r (f + 1) par = none) : before1 t r (f + 2) par = none := by
  have p : 0 < 2 ^ f := Nat.two_pow_pos f
  have e1 : 2 ^ (f + 1) = 2 * 2 ^ f := by rw [Nat.pow_succ]; omega
  have e2 : 2 ^ (f + 2) = 4 * 2 ^ f := by rw [Nat.pow_succ, e1]; omega
  have c1 : (2 : Int) ^ (f + 1) = 2 * ((2 ^ f : Nat) : Int) := by
    have := congrArg (Nat.cast (R := Int)) e1; push_cast at this ⊢; exact this
  have c2 : (2 : Int) ^ (f + 2) = 4 * ((2 ^ f : Nat) : Int) := by
    have := congrArg (Nat.cast (R := Int)) e2; push_cast at this ⊢; exact this
  unfold before1 at h ⊢
  simp only at h ⊢
  rw [c1] at h
  rw [c2]
  have hu : t.up = true ∨ t.up = false := by cases t.up <;> simp
  rcases kinds r par with k | k | k | k
  · rw [ld_never k] at h ⊢
    rw [e1] at h
    rw [e2]
    generalize 2 ^ f = x at *
    have a1 : (((2 * x - 1 : Nat)) : Int) = 2 * (x : Int) - 1 := by omega
    have a2 : (((4 * x - 1 : Nat)) : Int) = 4 * (x : Int) - 1 := by omega
    rw [a1] at h
    rw [a2]
    have hle : t.n * x ≤ t.d * x := Nat.mul_le_mul_right _ hl
    have b1 : (t.n : Int) * (2 * (x : Int)) - (2 * (x : Int) - 1) * (t.d : Int) = 2 * ((t.n * x : Nat) : Int) - 2 * ((t.d * x : Nat) : Int) + t.d := by
      push_cast; rw [Int.sub_mul, Int.mul_left_comm, Int.mul_assoc, Int.mul_comm (x : Int) (t.d : Int)]; omega
    have b2 : (t.n : Int) * (4 * (x : Int)) - (4 * (x : Int) - 1) * (t.d : Int) = 4 * ((t.n * x : Nat) : Int) - 4 * ((t.d * x : Nat) : Int) + t.d := by
      push_cast; rw [Int.sub_mul, Int.mul_left_comm, Int.mul_assoc, Int.mul_comm (x : Int) (t.d : Int)]; omega
    rw [b1] at h
    rw [b2]
    generalize t.n * x = A at *
    generalize t.d * x = B at *
    split at h
    · rename_i h'
      rw [if_pos]
      rcases hu with hu | hu <;> simp only [hu, Bool.true_eq_false, Bool.false_eq_true, and_true, and_false, or_false, false_or] at h' ⊢ <;> omega
    · cases h
  · rw [ld_always k] at h ⊢
    generalize 2 ^ f = x at *
    have hle : t.n * x ≤ t.d * x := Nat.mul_le_mul_right _ hl
    have b1 : (t.n : Int) * (2 * (x : Int)) - ((0 : Nat) : Int) * (t.d : Int) = 2 * ((t.n * x : Nat) : Int) := by
      push_cast; rw [Int.mul_left_comm, Int.zero_mul]; omega
    have b2 : (t.n : Int) * (4 * (x : Int)) - ((0 : Nat) : Int) * (t.d : Int) = 4 * ((t.n * x : Nat) : Int) := by
      push_cast; rw [Int.mul_left_comm, Int.zero_mul]; omega
    rw [b1] at h
    rw [b2]
    generalize t.n * x = A at *
    split at h
    · rename_i h'
      rw [if_pos]
      rcases hu with hu | hu <;> simp only [hu, Bool.true_eq_false, Bool.false_eq_true, and_true, and_false, or_false, false_or] at h' ⊢ <;> omega
    · cases h
  · rw [ld_tieDown k] at h ⊢
    rw [e1]
    generalize 2 ^ f = x at *
    have b1 : (t.n : Int) * (2 * (x : Int)) - (x : Int) * (t.d : Int) = 2 * ((t.n * x : Nat) : Int) - ((t.d * x : Nat) : Int) := by
      push_cast; rw [Int.mul_left_comm, Int.mul_comm (x : Int) (t.d : Int)]
    have b2 : (t.n : Int) * (4 * (x : Int)) - ((2 * x : Nat) : Int) * (t.d : Int) = 4 * ((t.n * x : Nat) : Int) - 2 * ((t.d * x : Nat) : Int) := by
      push_cast; rw [Int.mul_left_comm, Int.mul_assoc, Int.mul_comm (x : Int) (t.d : Int)]
    rw [b1] at h
    rw [b2]
    generalize t.n * x = A at *
    generalize t.d * x = B at *
    split at h
    · rename_i h'
      rw [if_pos]
      rcases hu with hu | hu <;> simp only [hu, Bool.true_eq_false, Bool.false_eq_true, and_true, and_false, or_false, false_or] at h' ⊢ <;> omega
    · cases h
  · rw [ld_tieUp k] at h ⊢
    rw [e1]
    generalize 2 ^ f = x at *
    have a1 : (((x - 1 : Nat)) : Int) = (x : Int) - 1 := by omega
    have a2 : (((2 * x - 1 : Nat)) : Int) = 2 * (x : Int) - 1 := by omega
    rw [a1] at h
    rw [a2]
    have b1 : (t.n : Int) * (2 * (x : Int)) - ((x : Int) - 1) * (t.d : Int) = 2 * ((t.n * x : Nat) : Int) - ((t.d * x : Nat) : Int) + t.d := by
      push_cast; rw [Int.sub_mul, Int.mul_left_comm, Int.mul_comm (x : Int) (t.d : Int)]; omega
    have b2 : (t.n : Int) * (4 * (x : Int)) - (2 * (x : Int) - 1) * (t.d : Int) = 4 * ((t.n * x : Nat) : Int) - 2 * ((t.d * x : Nat) : Int) + t.d := by
      push_cast; rw [Int.sub_mul, Int.mul_left_comm, Int.mul_assoc, Int.mul_comm (x : Int) (t.d : Int)]; omega
    rw [b1] at h
    rw [b2]
    generalize t.n * x = A at *
    generalize t.d * x = B at *
    split at h
    · rename_i h'
      rw [if_pos]
      rcases hu with hu | hu <;> simp only [hu, Bool.true_eq_false, Bool.false_eq_true, and_true, and_false, or_false, false_or] at h' ⊢ <;> omega
    · cases h
end SR
set_option linter.all false
namespace SR
/-! ### the order of chains -/
def stLt (a b : Step) : Bool := decide (a.1 < b.1) || (decide (a.1 = b.1) && decide (a.2.idx < b.2.idx))
def chLt : Chain → Chain → Bool
  | [], [] => false
  | [], _ :: _ => true
  | _ :: _, [] => false
  | a :: as, b :: bs => if a = b then chLt as bs else stLt a b
theorem stLt_iff (a b : Step) : stLt a b = true ↔ a.1 < b.1 ∨ (a.1 = b.1 ∧ a.2.idx < b.2.idx) := by
  unfold stLt; simp
theorem stLt_tri (a b : Step) (h : a ≠ b) : stLt a b = !stLt b a := by
  obtain ⟨x, r⟩ := a
  obtain ⟨y, q⟩ := b
  unfold stLt
  simp only
  rcases Nat.lt_trichotomy x y with h1 | h1 | h1
  · simp [h1, Nat.not_lt.mpr (Nat.le_of_lt h1), Nat.ne_of_gt h1]
  · subst h1
    have : r.idx ≠ q.idx := fun e => h (by rw [Rule.idx_inj r q e])
    rcases Nat.lt_or_gt_of_ne this with h2 | h2
    · simp [h2, Nat.not_lt.mpr (Nat.le_of_lt h2)]
    · simp [h2, Nat.not_lt.mpr (Nat.le_of_lt h2)]
  · simp [h1, Nat.not_lt.mpr (Nat.le_of_lt h1), Nat.ne_of_gt h1]
theorem chLt_irrefl : ∀ a : Chain, chLt a a = false
  | [] => rfl
  | a :: as => by unfold chLt; rw [if_pos rfl]; exact chLt_irrefl as
theorem chLt_tri : ∀ a b : Chain, a ≠ b → chLt a b = !chLt b a
  | [], [], h => absurd rfl h
  | [], _ :: _, _ => rfl
  | _ :: _, [], _ => rfl
  | a :: as, b :: bs, h => by
    unfold chLt
    by_cases e : a = b
    · subst e
      rw [if_pos rfl, if_pos rfl]
      exact chLt_tri as bs fun q => h (by rw [q])
    · rw [if_neg e, if_neg (Ne.symm e)]
      exact stLt_tri a b e
theorem chLt_trans : ∀ a b c : Chain, chLt a b = true → chLt b c = true → chLt a c = true
  | [], [], _, h, _ => by simp [chLt] at h
  | [], _ :: _, [], _, h => by simp [chLt] at h
  | [], _ :: _, _ :: _, _, _ => rfl
  | _ :: _, [], _, h, _ => by simp [chLt] at h
  | _ :: _, _ :: _, [], _, h => by simp [chLt] at h
  | a :: as, b :: bs, c :: cs, h1, h2 => by
    unfold chLt at h1 h2 ⊢
    by_cases e1 : a = b
    · subst e1
      rw [if_pos rfl] at h1
      by_cases e2 : a = c
      · subst e2
        rw [if_pos rfl] at h2 ⊢
        exact chLt_trans as bs cs h1 h2
      · rw [if_neg e2] at h2 ⊢
        exact h2
    · rw [if_neg e1] at h1
      by_cases e2 : b = c
      · subst e2
        rw [if_neg e1]
        exact h1
      · rw [if_neg e2] at h2
        have k1 := (stLt_iff a b).mp h1
        have k2 := (stLt_iff b c).mp h2
        have k3 : stLt a c = true := (stLt_iff a c).mpr (by omega)
        have : a ≠ c := fun e => by
          subst e
          have := (stLt_iff a a).mp k3
          omega
        rw [if_neg this]
        exact k3
def chLe (a b : Chain) : Prop := chLt b a = false
theorem chLe_refl (a : Chain) : chLe a a := chLt_irrefl a
theorem chLe_iff {a b : Chain} : chLe a b ↔ a = b ∨ chLt a b = true := by
  unfold chLe
  by_cases e : a = b
  · subst e; simp [chLt_irrefl]
  · rw [chLt_tri b a (Ne.symm e)]; simp [e]
theorem chLe_trans {a b c : Chain} (h1 : chLe a b) (h2 : chLe b c) : chLe a c := by
  rcases chLe_iff.mp h1 with rfl | h1
  · exact h2
  · rcases chLe_iff.mp h2 with rfl | h2
    · exact chLe_iff.mpr (.inr h1)
    · exact chLe_iff.mpr (.inr (chLt_trans _ _ _ h1 h2))
theorem chLe_antisymm {a b : Chain} (h1 : chLe a b) (h2 : chLe b a) : a = b := by
  rcases chLe_iff.mp h1 with e | h
  · exact e
  · unfold chLe at h2; rw [h] at h2; cases h2
def widened (c : Chain) (by_ : Nat) : Chain := c.map fun s => (s.1 + by_, s.2)
theorem widened_len (c : Chain) (k : Nat) : (widened c k).length = c.length := by unfold widened; simp
theorem stLt_wid (a b : Step) (k : Nat) : stLt (a.1 + k, a.2) (b.1 + k, b.2) = stLt a b := by
  unfold stLt; simp
theorem chLt_wid (k : Nat) : ∀ a b : Chain, chLt (widened a k) (widened b k) = chLt a b
  | [], [] => rfl
  | [], _ :: _ => rfl
  | _ :: _, [] => rfl
  | a :: as, b :: bs => by
    show chLt ((a.1 + k, a.2) :: widened as k) ((b.1 + k, b.2) :: widened bs k) = _
    unfold chLt
    by_cases e : a = b
    · subst e; rw [if_pos rfl, if_pos rfl]; exact chLt_wid k as bs
    · rw [if_neg e, if_neg, stLt_wid]
      intro q
      obtain ⟨q1, q2⟩ := Prod.mk.inj q
      exact e (Prod.ext (by omega) q2)
theorem chLe_wid {a b : Chain} (k : Nat) (h : chLe a b) : chLe (widened a k) (widened b k) := by unfold chLe; rw [chLt_wid]; exact h
theorem chLt_app (x : Step) : ∀ a b : Chain, a.length = b.length → chLt (a ++ [x]) (b ++ [x]) = chLt a b
  | [], [], _ => by simp [chLt]
  | [], _ :: _, h => by simp at h
  | _ :: _, [], h => by simp at h
  | a :: as, b :: bs, h => by
    show chLt (a :: (as ++ [x])) (b :: (bs ++ [x])) = _
    unfold chLt
    by_cases e : a = b
    · rw [if_pos e, if_pos e]; exact chLt_app x as bs (by simpa using h)
    · rw [if_neg e, if_neg e]
theorem chLe_app {a b : Chain} (x : Step) (hl : a.length = b.length) (h : chLe a b) : chLe (a ++ [x]) (b ++ [x]) := by unfold chLe; rw [chLt_app x _ _ hl.symm]; exact h
theorem chLe_wider {c : Chain} (hc : c ≠ []) {k l : Nat} (h : k ≤ l) : chLe (widened c k) (widened c l) := by
  cases c with
  | nil => exact absurd rfl hc
  | cons a as =>
    by_cases e : k = l
    · subst e; exact chLe_refl _
    · refine chLe_iff.mpr (.inr ?_)
      show chLt ((a.1 + k, a.2) :: widened as k) ((a.1 + l, a.2) :: widened as l) = true
      unfold chLt
      rw [if_neg (fun q => e (by have := (Prod.mk.inj q).1; omega))]
      exact (stLt_iff _ _).mpr (.inl (by show a.1 + k < a.1 + l; omega))
/-- the least of a list -/
def minL : List Chain → Option Chain
  | [] => none
  | a :: as => match minL as with
    | none => some a
    | some b => if chLt b a then some b else some a
theorem minL_none {l : List Chain} : minL l = none ↔ l = [] := by
  cases l with
  | nil => simp [minL]
  | cons a as =>
    simp only [minL, reduceCtorEq, iff_false]
    split
    · simp
    · split <;> simp
theorem minL_spec : ∀ (l : List Chain) (m : Chain), minL l = some m → m ∈ l ∧ ∀ c ∈ l, chLe m c
  | [], m, h => by simp [minL] at h
  | a :: as, m, h => by
    unfold minL at h
    split at h
    · rename_i e
      have := minL_none.mp e
      cases h
      subst this
      exact ⟨by simp, fun c hc => by simp at hc; subst hc; exact chLe_refl _⟩
    · rename_i b e
      obtain ⟨hb, hl⟩ := minL_spec as b e
      by_cases hlt : chLt b a = true
      · rw [if_pos hlt] at h
        cases h
        refine ⟨List.mem_cons_of_mem _ hb, fun c hc => ?_⟩
        rcases List.mem_cons.mp hc with rfl | hc
        · exact chLe_iff.mpr (.inr hlt)
        · exact hl c hc
      · rw [if_neg hlt] at h
        cases h
        refine ⟨List.mem_cons_self, fun c hc => ?_⟩
        rcases List.mem_cons.mp hc with rfl | hc
        · exact chLe_refl _
        · exact chLe_trans (by unfold chLe; simpa using hlt) (hl c hc)
theorem minL_of {l : List Chain} {m : Chain} (hm : m ∈ l) (h : ∀ c ∈ l, chLe m c) : minL l = some m := by
  cases e : minL l with
  | none => rw [minL_none.mp e] at hm; cases hm
  | some b =>
    obtain ⟨hb, hl⟩ := minL_spec l b e
    rw [chLe_antisymm (hl m hm) (h b hb)]

/-! ### wanted thresholds -/
def Fits (w : Option Th) (t : Th) : Prop := w = none ∨ w = some t
instance (w : Option Th) (t : Th) : Decidable (Fits w t) := inferInstanceAs (Decidable (_ ∨ _))
def FitsW (w : Wanted) (P : Th × Th) : Prop := Fits w.1 P.1 ∧ Fits w.2 P.2
instance (w : Wanted) (P : Th × Th) : Decidable (FitsW w P) := inferInstanceAs (Decidable (_ ∧ _))
def GoodO (w : Option Th) : Prop := ∀ t, w = some t → Good t
def GoodW (w : Wanted) : Prop := GoodO w.1 ∧ GoodO w.2
/-- the told pairs (parity, threshold), or none -/
def tell (w : Option Th) (r : Rule) (far par : Nat) (found : Option (List (Nat × Th))) : Option (List (Nat × Th)) :=
  match found with
  | none => none
  | some l => match w with
    | none => some l
    | some t => match before1 t r far par with
      | none => none
      | some q => some (l ++ [q])
def allBefore (w : Wanted) (r : Rule) (far : Nat) : Option (List (Nat × Th)) := tell w.2 r far 1 (tell w.1 r far 0 (some []))
def put (w : Wanted) (q : Nat × Th) : Option Wanted :=
  if q.1 % 2 = 0 then (if w.1 = none ∨ w.1 = some q.2 then some (some q.2, w.2) else none)
  else (if w.2 = none ∨ w.2 = some q.2 then some (w.1, some q.2) else none)
def mergeFrom (w : Wanted) : List (Nat × Th) → Option Wanted
  | [] => some w
  | q :: l => match put w q with
    | none => none
    | some w' => mergeFrom w' l
def merged (l : List (Nat × Th)) : Option Wanted := mergeFrom (none, none) l

theorem put_fits {w : Wanted} {q : Nat × Th} {P : Th × Th} : (∃ e, put w q = some e ∧ FitsW e P) ↔ FitsW w P ∧ q.2 = sel P q.1 := by
  unfold put
  obtain ⟨i, t⟩ := q
  obtain ⟨w1, w2⟩ := w
  obtain ⟨p1, p2⟩ := P
  simp only [FitsW, Fits]
  rcases sel_pair p1 p2 i with ⟨h, e⟩ | ⟨h, e⟩
  · rw [if_pos h, e]
    constructor
    · rintro ⟨x, hx, f1, f2⟩
      split at hx
      · rename_i hw
        cases hx
        simp only at f1 f2
        rcases f1 with f1 | f1
        · cases f1
        · cases f1
          exact ⟨⟨hw, f2⟩, rfl⟩
      · cases hx
    · rintro ⟨⟨f1, f2⟩, rfl⟩
      rw [if_pos f1]
      exact ⟨_, rfl, .inr rfl, f2⟩
  · rw [if_neg (by omega), e]
    constructor
    · rintro ⟨x, hx, f1, f2⟩
      split at hx
      · rename_i hw
        cases hx
        simp only at f1 f2
        rcases f2 with f2 | f2
        · cases f2
        · cases f2
          exact ⟨⟨f1, hw⟩, rfl⟩
      · cases hx
    · rintro ⟨⟨f1, f2⟩, rfl⟩
      rw [if_pos f2]
      exact ⟨_, rfl, f1, .inr rfl⟩
theorem mergeFrom_fits {P : Th × Th} : ∀ (l : List (Nat × Th)) (w : Wanted), (∃ e, mergeFrom w l = some e ∧ FitsW e P) ↔ FitsW w P ∧ ∀ q ∈ l, q.2 = sel P q.1
  | [], w => by simp [mergeFrom]
  | q :: l, w => by
    have pf := put_fits (w := w) (q := q) (P := P)
    constructor
    · rintro ⟨e, he, hf⟩
      unfold mergeFrom at he
      split at he
      · cases he
      · rename_i w' hw'
        obtain ⟨a, b⟩ := (mergeFrom_fits l w').mp ⟨e, he, hf⟩
        obtain ⟨a', b'⟩ := pf.mp ⟨w', hw', a⟩
        refine ⟨a', fun x hx => ?_⟩
        rcases List.mem_cons.mp hx with rfl | hx
        · exact b'
        · exact b x hx
    · rintro ⟨a, b⟩
      obtain ⟨w', hw', fw⟩ := pf.mpr ⟨a, b q List.mem_cons_self⟩
      obtain ⟨e, he, hf⟩ := (mergeFrom_fits l w').mpr ⟨fw, fun x hx => b x (List.mem_cons_of_mem _ hx)⟩
      refine ⟨e, ?_, hf⟩
      unfold mergeFrom
      rw [hw']
      exact he
theorem merged_fits {P : Th × Th} (l : List (Nat × Th)) : (∃ e, merged l = some e ∧ FitsW e P) ↔ ∀ q ∈ l, q.2 = sel P q.1 := by
  unfold merged
  rw [mergeFrom_fits]
  simp [FitsW, Fits]
theorem tell_some {w : Option Th} {r : Rule} {far par : Nat} {l m : List (Nat × Th)} (h : tell w r far par (some l) = some m) : (w = none ∧ m = l) ∨ ∃ t q, w = some t ∧ before1 t r far par = some q ∧ m = l ++ [q] := by
  unfold tell at h
  simp only at h
  cases w with
  | none => exact .inl ⟨rfl, by simpa using h.symm⟩
  | some t =>
    simp only at h
    split at h
    · cases h
    · rename_i q hq
      exact .inr ⟨t, q, rfl, hq, by simpa using h.symm⟩
/-- one parity: what is wanted comes out of P exactly if the told pair is P's -/
theorem tell_iff {w : Option Th} (gw : GoodO w) {P : Th × Th} (hP : ∀ i, Good (sel P i)) (r : Rule) (f par : Nat) (l : List (Nat × Th)) :
    (∃ m, tell w r (f + 1) par (some l) = some m ∧ ∀ q ∈ m, q.2 = sel P q.1) ↔ Fits w (comb1 P r (f + 1) par) ∧ ∀ q ∈ l, q.2 = sel P q.1 := by
  unfold tell Fits
  cases w with
  | none => simp
  | some t =>
    have g := gw t rfl
    have key := before1_iff g.pos g.co hP r f par
    simp only [reduceCtorEq, Option.some.injEq, false_or]
    constructor
    · rintro ⟨m, hm, hq⟩
      split at hm
      · cases hm
      · rename_i q e
        have hm := Option.some.inj hm
        subst hm
        have h1 : q.2 = sel P q.1 := hq q (by simp)
        -- the index told is the rule's own
        have h2 : q.1 = lastDown r (f + 1) par % 2 := by
          unfold before1 at e
          simp only at e
          split at e
          · cases e
          · exact (congrArg Prod.fst (Option.some.inj e)).symm
        refine ⟨(key.mpr ?_).symm, fun x hx => hq x (List.mem_append_left _ hx)⟩
        rw [e]
        congr 1
        refine Prod.ext h2 ?_
        rw [h1, h2, sel_mod]
    · rintro ⟨e, hq⟩
      rw [key.mp e.symm]
      refine ⟨_, rfl, fun x hx => ?_⟩
      rcases List.mem_append.mp hx with hx | hx
      · exact hq x hx
      · simp at hx
        subst hx
        exact (sel_mod P _).symm
theorem allBefore_iff {w : Wanted} (gw : GoodW w) {P : Th × Th} (hP : ∀ i, Good (sel P i)) (r : Rule) (f : Nat) :
    FitsW w (combined P r (f + 1)) ↔ ∃ l, allBefore w r (f + 1) = some l ∧ ∃ e, merged l = some e ∧ FitsW e P := by
  have t1 := tell_iff gw.1 hP r f 0 []
  constructor
  · rintro ⟨f1, f2⟩
    obtain ⟨l, hl, hq⟩ := t1.mpr ⟨f1, by simp⟩
    obtain ⟨m, hm, hq2⟩ := (tell_iff gw.2 hP r f 1 l).mpr ⟨f2, hq⟩
    refine ⟨m, ?_, (merged_fits m).mpr hq2⟩
    unfold allBefore
    rw [hl]
    exact hm
  · rintro ⟨m, hm, he⟩
    have hq := (merged_fits m).mp he
    unfold allBefore at hm
    cases hl : tell w.1 r (f + 1) 0 (some []) with
    | none => rw [hl] at hm; simp [tell] at hm
    | some l =>
      rw [hl] at hm
      obtain ⟨a, b⟩ := (tell_iff gw.2 hP r f 1 l).mp ⟨m, hm, hq⟩
      obtain ⟨a', _⟩ := t1.mp ⟨l, hl, b⟩
      exact ⟨a', a⟩

/-! ### how far -/
def bitLen (n : Nat) : Nat := if n = 0 then 0 else n.log2 + 1
theorem lt_bitLen (n : Nat) : n < 2 ^ bitLen n := by
  unfold bitLen
  split
  · subst_vars; decide
  · exact Nat.lt_log2_self
def lens (w : Wanted) : List Nat := (w.1.toList ++ w.2.toList).map fun t => bitLen t.d
def mostFar (w : Wanted) : Nat := (match lens w with | [] => 1 | a :: as => as.foldl max a) + 1
theorem foldl_max_le : ∀ (l : List Nat) (a : Nat), a ≤ l.foldl max a ∧ ∀ x ∈ l, x ≤ l.foldl max a
  | [], a => by simp
  | b :: l, a => by
    obtain ⟨h1, h2⟩ := foldl_max_le l (max a b)
    refine ⟨by simp only [List.foldl_cons]; omega, fun x hx => ?_⟩
    rcases List.mem_cons.mp hx with rfl | hx
    · simp only [List.foldl_cons]; omega
    · exact h2 x hx
theorem mostFar_ge {w : Wanted} {t : Th} (h : w.1 = some t ∨ w.2 = some t) : bitLen t.d + 1 ≤ mostFar w := by
  have hm : bitLen t.d ∈ lens w := by
    unfold lens
    refine List.mem_map.mpr ⟨t, List.mem_append.mpr ?_, rfl⟩
    rcases h with h | h
    · left; rw [h]; simp
    · right; rw [h]; simp
  unfold mostFar
  cases e : lens w with
  | nil => rw [e] at hm; cases hm
  | cons a as =>
    rw [e] at hm
    obtain ⟨h1, h2⟩ := foldl_max_le as a
    simp only
    rcases List.mem_cons.mp hm with q | hm
    · omega
    · have := h2 _ hm; omega
theorem foldl_max_bound (B : Nat) : ∀ (l : List Nat) (a : Nat), a ≤ B → (∀ x ∈ l, x ≤ B) → l.foldl max a ≤ B
  | [], a, h, _ => h
  | b :: l, a, h, h2 => foldl_max_bound B l (max a b) (by have := h2 b List.mem_cons_self; omega) fun x hx => h2 x (List.mem_cons_of_mem _ hx)
theorem mostFar_le {w : Wanted} {B : Nat} (hB : 1 ≤ B) (h : ∀ t, w.1 = some t ∨ w.2 = some t → bitLen t.d ≤ B) : mostFar w ≤ B + 1 := by
  have hall : ∀ x ∈ lens w, x ≤ B := by
    intro x hx
    obtain ⟨t, ht, rfl⟩ := List.mem_map.mp hx
    refine h t ?_
    rcases List.mem_append.mp ht with q | q
    · left; simpa [Option.mem_toList] using q
    · right; simpa [Option.mem_toList] using q
  unfold mostFar
  cases e : lens w with
  | nil => simp only; omega
  | cons a as =>
    rw [e] at hall
    have := foldl_max_bound B as a (hall a List.mem_cons_self) fun x hx => hall x (List.mem_cons_of_mem _ hx)
    simp only
    omega
/-- beyond the bit length a step only repeats -/
theorem before1_far {t : Th} (g : Good t) (r : Rule) (par B f : Nat) (hB : bitLen t.d + 1 ≤ B) (hf : B ≤ f) {q : Nat × Th} (h : before1 t r f par = some q) : before1 t r B par = some q := by
  have hb2 := lt_bitLen t.d
  obtain ⟨b, rfl⟩ : ∃ b, B = b + 2 := ⟨B - 2, by
    have : bitLen t.d ≠ 0 := by
      unfold bitLen
      rw [if_neg (Nat.ne_of_gt g.pos)]
      omega
    omega⟩
  obtain ⟨c, rfl⟩ : ∃ c, f = c + 2 := ⟨f - 2, by omega⟩
  have hbl : 2 ^ bitLen t.d ≤ 2 ^ (b + 1) := Nat.pow_le_pow_right (by decide) (by omega)
  have hcl : 2 ^ (b + 1) ≤ 2 ^ (c + 1) := Nat.pow_le_pow_right (by decide) (by omega)
  have e1 : 2 ^ (b + 2) = 2 * 2 ^ (b + 1) := by rw [Nat.pow_succ]; omega
  have e2 : 2 ^ (c + 2) = 2 * 2 ^ (c + 1) := by rw [Nat.pow_succ]; omega
  have c1 : (2 : Int) ^ (b + 2) = 2 * ((2 ^ (b + 1) : Nat) : Int) := by
    have := congrArg (Nat.cast (R := Int)) e1; push_cast at this ⊢; exact this
  have c2 : (2 : Int) ^ (c + 2) = 2 * ((2 ^ (c + 1) : Nat) : Int) := by
    have := congrArg (Nat.cast (R := Int)) e2; push_cast at this ⊢; exact this
  have pb : 2 ^ (b + 1) % 2 = 0 := by rw [Nat.pow_succ]; omega
  have pc : 2 ^ (c + 1) % 2 = 0 := by rw [Nat.pow_succ]; omega
  unfold before1 at h ⊢
  simp only at h ⊢
  rw [c2] at h
  rw [c1]
  have gle := g.le
  have gpos := g.pos
  split at h
  · cases h
  rename_i hn
  have h := Option.some.inj h
  rcases kinds r par with k | k | k | k
  · rw [ld_never k] at h hn ⊢
    rw [e2] at h hn
    rw [e1]
    generalize 2 ^ (c + 1) = x at *
    generalize 2 ^ (b + 1) = y at *
    have a1 : (((2 * x - 1 : Nat)) : Int) = 2 * (x : Int) - 1 := by omega
    have a2 : (((2 * y - 1 : Nat)) : Int) = 2 * (y : Int) - 1 := by omega
    rw [a1] at h hn
    rw [a2]
    have b1 : (t.n : Int) * (2 * (x : Int)) - (2 * (x : Int) - 1) * (t.d : Int) = 2 * ((t.n * x : Nat) : Int) - 2 * ((t.d * x : Nat) : Int) + t.d := by
      push_cast; rw [Int.sub_mul, Int.mul_left_comm, Int.mul_assoc, Int.mul_comm (x : Int) (t.d : Int)]; omega
    have b2 : (t.n : Int) * (2 * (y : Int)) - (2 * (y : Int) - 1) * (t.d : Int) = 2 * ((t.n * y : Nat) : Int) - 2 * ((t.d * y : Nat) : Int) + t.d := by
      push_cast; rw [Int.sub_mul, Int.mul_left_comm, Int.mul_assoc, Int.mul_comm (y : Int) (t.d : Int)]; omega
    rw [b1] at h hn
    rw [b2]
    have eq : t.n = t.d := by
      apply Nat.le_antisymm gle
      apply Nat.le_of_not_lt
      intro hlt
      have hm : (t.n + 1) * x ≤ t.d * x := Nat.mul_le_mul_right _ hlt
      rw [Nat.add_mul, Nat.one_mul] at hm
      apply hn
      left
      omega
    rw [eq] at h hn ⊢
    have m1 : (2 * x - 1) % 2 = 1 := by omega
    have m2 : (2 * y - 1) % 2 = 1 := by omega
    rw [m1] at h
    rw [m2]
    have z : ∀ A : Int, A - A + (t.d : Int) = t.d := by intro A; omega
    rw [z] at h hn ⊢
    rw [if_neg hn]
    exact congrArg some h
  · rw [ld_always k] at h hn ⊢
    generalize 2 ^ (c + 1) = x at *
    generalize 2 ^ (b + 1) = y at *
    have b1 : (t.n : Int) * (2 * (x : Int)) - ((0 : Nat) : Int) * (t.d : Int) = 2 * ((t.n * x : Nat) : Int) := by
      push_cast; rw [Int.mul_left_comm, Int.zero_mul]; omega
    have b2 : (t.n : Int) * (2 * (y : Int)) - ((0 : Nat) : Int) * (t.d : Int) = 2 * ((t.n * y : Nat) : Int) := by
      push_cast; rw [Int.mul_left_comm, Int.zero_mul]; omega
    rw [b1] at h hn
    rw [b2]
    have eq : t.n = 0 := by
      apply Nat.eq_zero_of_not_pos
      intro hp
      have hm : 1 * x ≤ t.n * x := Nat.mul_le_mul_right _ hp
      apply hn
      right; left
      omega
    rw [eq, Nat.zero_mul] at h hn ⊢
    rw [if_neg hn]
    exact congrArg some h
  · rw [ld_tieDown k] at h hn ⊢
    generalize hx : 2 ^ (c + 1) = x at *
    generalize hy : 2 ^ (b + 1) = y at *
    have b1 : (t.n : Int) * (2 * (x : Int)) - (x : Int) * (t.d : Int) = 2 * ((t.n * x : Nat) : Int) - ((t.d * x : Nat) : Int) := by
      push_cast; rw [Int.mul_left_comm, Int.mul_comm (x : Int) (t.d : Int)]
    have b2 : (t.n : Int) * (2 * (y : Int)) - (y : Int) * (t.d : Int) = 2 * ((t.n * y : Nat) : Int) - ((t.d * y : Nat) : Int) := by
      push_cast; rw [Int.mul_left_comm, Int.mul_comm (y : Int) (t.d : Int)]
    rw [b1] at h hn
    rw [b2]
    have eq : 2 * t.n = t.d := by
      rcases Nat.lt_trichotomy (2 * t.n) t.d with q | q | q
      · exfalso; apply hn; left
        have hm : (2 * t.n + 1) * x ≤ t.d * x := Nat.mul_le_mul_right _ q
        rw [Nat.add_mul, Nat.one_mul, Nat.mul_assoc] at hm
        omega
      · exact q
      · exfalso; apply hn; right; left
        have hm : (t.d + 1) * x ≤ 2 * t.n * x := Nat.mul_le_mul_right _ q
        rw [Nat.add_mul, Nat.one_mul, Nat.mul_assoc] at hm
        omega
    have q1 : t.d * x = 2 * (t.n * x) := by rw [← eq, Nat.mul_assoc]
    have q2 : t.d * y = 2 * (t.n * y) := by rw [← eq, Nat.mul_assoc]
    rw [q1] at h hn
    rw [q2]
    have z : ∀ A : Nat, 2 * (A : Int) - ((2 * A : Nat) : Int) = 0 := by intro A; omega
    rw [z] at h hn ⊢
    rw [if_neg hn, pb]
    rw [pc] at h
    exact congrArg some h
  · rw [ld_tieUp k] at h hn ⊢
    generalize hx : 2 ^ (c + 1) = x at *
    generalize hy : 2 ^ (b + 1) = y at *
    have a1 : (((x - 1 : Nat)) : Int) = (x : Int) - 1 := by omega
    have a2 : (((y - 1 : Nat)) : Int) = (y : Int) - 1 := by omega
    rw [a1] at h hn
    rw [a2]
    have b1 : (t.n : Int) * (2 * (x : Int)) - ((x : Int) - 1) * (t.d : Int) = 2 * ((t.n * x : Nat) : Int) - ((t.d * x : Nat) : Int) + t.d := by
      push_cast; rw [Int.sub_mul, Int.mul_left_comm, Int.mul_comm (x : Int) (t.d : Int)]; omega
    have b2 : (t.n : Int) * (2 * (y : Int)) - ((y : Int) - 1) * (t.d : Int) = 2 * ((t.n * y : Nat) : Int) - ((t.d * y : Nat) : Int) + t.d := by
      push_cast; rw [Int.sub_mul, Int.mul_left_comm, Int.mul_comm (y : Int) (t.d : Int)]; omega
    rw [b1] at h hn
    rw [b2]
    have eq : 2 * t.n = t.d := by
      rcases Nat.lt_trichotomy (2 * t.n) t.d with q | q | q
      · exfalso; apply hn; left
        have hm : (2 * t.n + 1) * x ≤ t.d * x := Nat.mul_le_mul_right _ q
        rw [Nat.add_mul, Nat.one_mul, Nat.mul_assoc] at hm
        omega
      · exact q
      · exfalso; apply hn; right; left
        have hm : (t.d + 1) * x ≤ 2 * t.n * x := Nat.mul_le_mul_right _ q
        rw [Nat.add_mul, Nat.one_mul, Nat.mul_assoc] at hm
        omega
    have q1 : t.d * x = 2 * (t.n * x) := by rw [← eq, Nat.mul_assoc]
    have q2 : t.d * y = 2 * (t.n * y) := by rw [← eq, Nat.mul_assoc]
    rw [q1] at h hn
    rw [q2]
    have z : ∀ A : Nat, 2 * (A : Int) - ((2 * A : Nat) : Int) + (t.d : Int) = t.d := by intro A; omega
    rw [z] at h hn ⊢
    have m1 : (x - 1) % 2 = 1 := by omega
    have m2 : (y - 1) % 2 = 1 := by omega
    rw [m1] at h
    rw [if_neg hn, m2]
    exact congrArg some h
end SR
set_option linter.all false
namespace SR
/-! ### thresholds, from the first step on -/
def thrStep (a : (Th × Th) × Nat) (s : Step) : (Th × Th) × Nat := (combined a.1 s.2 (a.2 - s.1), s.1)
def thrF : Chain → (Th × Th) × Nat
  | [] => (byRule .down, 0)
  | s :: r => r.foldl thrStep (byRule s.2, s.1)
theorem toC_ne (w : Nat) (r : Rule) (gs : List (Nat × Rule)) : toC w r gs ≠ [] := by
  cases gs <;> unfold toC <;> simp
theorem toC_len : ∀ (gs : List (Nat × Rule)) (w : Nat) (r : Rule), (toC w r gs).length = gs.length + 1
  | [], w, r => rfl
  | (g, r') :: gs, w, r => by
    show (toC (w + g) r' gs ++ [(w, r)]).length = _
    rw [List.length_append, toC_len gs, List.length_cons]
    rfl
theorem thrF_snoc {c : Chain} (h : c ≠ []) (s : Step) : thrF (c ++ [s]) = thrStep (thrF c) s := by
  cases c with
  | nil => exact absurd rfl h
  | cons a c => unfold thrF; rw [List.cons_append]; simp only [List.foldl_append, List.foldl_cons, List.foldl_nil]
theorem thrF_toC : ∀ (gs : List (Nat × Rule)) (w : Nat) (r : Rule), thrF (toC w r gs) = (T r gs, w)
  | [], w, r => rfl
  | (g, r') :: gs, w, r => by
    show thrF (toC (w + g) r' gs ++ [(w, r)]) = _
    rw [thrF_snoc (toC_ne _ _ _), thrF_toC gs]
    show (combined (T r' gs) r (w + g - w), w) = (combined (T r' gs) r g, w)
    rw [Nat.add_sub_cancel_left]
theorem toC_take : ∀ (gs : List (Nat × Rule)) (r : Rule) (w n : Nat), 1 ≤ n → n ≤ gs.length + 1 → GapsOk gs → ∃ w' r' gs', (toC w r gs).take n = toC w' r' gs' ∧ GapsOk gs' ∧ total gs' + w' = total gs + w ∧ gs'.length + 1 = n
  | [], r, w, n, h1, h2, hg => by
    have : n = 1 := by simp at h2; omega
    subst this
    exact ⟨w, r, [], rfl, hg, rfl, rfl⟩
  | (g, r') :: gs, r, w, n, h1, h2, hg => by
    by_cases hn : n = gs.length + 2
    · refine ⟨w, r, (g, r') :: gs, ?_, hg, rfl, by rw [List.length_cons]; omega⟩
      apply List.take_of_length_le
      rw [toC_len, List.length_cons]
      omega
    · rw [List.length_cons] at h2
      obtain ⟨w', r'', gs', e1, e2, e3, e4⟩ := toC_take gs r' (w + g) n h1 (by omega) fun p hp => hg p (List.mem_cons_of_mem _ hp)
      refine ⟨w', r'', gs', ?_, e2, ?_, e4⟩
      · show (toC (w + g) r' gs ++ [(w, r)]).take n = _
        rw [List.take_append_of_le_length (by rw [toC_len]; omega)]
        exact e1
      · rw [e3]
        unfold total
        rw [List.map_cons, List.sum_cons]
        omega
theorem toC_snoc {c : Chain} {s : Step} {w : Nat} {r : Rule} {gs : List (Nat × Rule)} (h : c ++ [s] = toC w r gs) (hc : c ≠ []) : ∃ g r' gs', gs = (g, r') :: gs' ∧ s = (w, r) ∧ c = toC (w + g) r' gs' := by
  cases gs with
  | nil =>
    have hl := congrArg List.length h
    rw [List.length_append, toC_len] at hl
    have : c.length = 0 := by simpa using hl
    exact absurd (List.length_eq_zero_iff.mp this) hc
  | cons p gs =>
    obtain ⟨g, r'⟩ := p
    unfold toC at h
    have := List.append_inj' h rfl
    exact ⟨g, r', gs, rfl, by simpa using this.2, this.1⟩
theorem toC_head : ∀ (gs : List (Nat × Rule)) (w : Nat) (r : Rule), ∃ s rest, toC w r gs = s :: rest ∧ s.1 = w + total gs
  | [], w, r => ⟨(w, r), [], rfl, by simp [total]⟩
  | (g, r') :: gs, w, r => by
    obtain ⟨s, rest, e, h⟩ := toC_head gs (w + g) r'
    refine ⟨s, rest ++ [(w, r)], by show toC (w + g) r' gs ++ [(w, r)] = _; rw [e]; rfl, ?_⟩
    rw [h]
    unfold total
    rw [List.map_cons, List.sum_cons]
    omega
/-- denominators -/
theorem T_den : ∀ (gs : List (Nat × Rule)) (r : Rule) (i : Nat), (sel (T r gs) i).d ∣ 2 ^ (total gs + 1)
  | [], r, i => by
    unfold T
    rcases kinds r i with k | k | k | k <;> rw [k] <;> simp [never, always, tieDown, tieUp, total]
  | (g, r') :: gs, r, i => by
    have ih := T_den gs r'
    show (sel (combined (T r' gs) r g) i).d ∣ _
    rw [comb1_sel]
    unfold comb1 mkTh
    simp only
    refine Nat.dvd_trans red_dvd ?_
    have := ih (lastDown r g (i % 2))
    have e : 2 ^ (total ((g, r') :: gs) + 1) = 2 ^ (total gs + 1) * 2 ^ g := by
      rw [← Nat.pow_add]
      congr 1
      unfold total
      rw [List.map_cons, List.sum_cons]
      simp only
      omega
    rw [e]
    exact Nat.mul_dvd_mul_right this _
theorem T_den_le (gs : List (Nat × Rule)) (r : Rule) (i : Nat) : (sel (T r gs) i).d ≤ 2 ^ (total gs + 1) := Nat.le_of_dvd (Nat.two_pow_pos _) (T_den gs r i)
theorem gap_le_total {gs : List (Nat × Rule)} {p : Nat × Rule} (h : p ∈ gs) : p.1 ≤ total gs := by
  unfold total
  induction gs with
  | nil => cases h
  | cons a gs ih =>
    rw [List.map_cons, List.sum_cons]
    rcases List.mem_cons.mp h with rfl | h
    · omega
    · have := ih h; omega
def wantedOf (w : Nat) (P : Th × Th) : Wanted := (if w > 1 then some P.1 else none, some P.2)
end SR
set_option linter.all false
namespace SR
/-! ### the search -/
def lsStep (rec_ : Wanted → Option Chain) (wn : Wanted) (r : Rule) (far : Nat) : Option Chain :=
  match allBefore wn r far with
  | none => none
  | some l => match merged l with
    | none => none
    | some e => (rec_ e).map fun s => widened s far ++ [(0, r)]
def fars (wn : Wanted) (r : Rule) : List Nat := (List.range' 1 (mostFar wn)).takeWhile fun far => (allBefore wn r far).isSome
def foundFor (n : Nat) (rec_ : Wanted → Option Chain) (wn : Wanted) (r : Rule) : List Chain :=
  (if n = 0 ∧ FitsW wn (byRule r) then [[(0, r)]] else []) ++ (if n = 0 then [] else (fars wn r).filterMap fun far => lsStep rec_ wn r far)
def ls : Nat → Wanted → Option Chain
  | 0, _ => none
  | n + 1, wn => minL (rules.flatMap fun r => foundFor n (ls n) wn r)

theorem toC_wid : ∀ (gs : List (Nat × Rule)) (w k : Nat) (r : Rule), toC (w + k) r gs = widened (toC w r gs) k
  | [], w, k, r => rfl
  | (g, r') :: gs, w, k, r => by
    show toC (w + k + g) r' gs ++ [(w + k, r)] = widened (toC (w + g) r' gs ++ [(w, r)]) k
    rw [show w + k + g = w + g + k by omega, toC_wid gs (w + g) k]
    unfold widened
    rw [List.map_append]
    rfl
theorem tell_good {w : Option Th} (gw : GoodO w) {r : Rule} {far par : Nat} {l m : List (Nat × Th)} (h : tell w r far par (some l) = some m) (hl : ∀ q ∈ l, Good q.2 ∧ q.1 < 2) : ∀ q ∈ m, Good q.2 ∧ q.1 < 2 := by
  rcases tell_some h with ⟨_, rfl⟩ | ⟨t, q, hw, hb, rfl⟩
  · exact hl
  · intro x hx
    rcases List.mem_append.mp hx with hx | hx
    · exact hl x hx
    · rw [List.mem_singleton] at hx
      subst hx
      have := before1_good (gw t hw).pos hb
      exact ⟨this.1, this.2.2⟩
theorem tell_den {w : Option Th} (gw : GoodO w) {B : Nat} (hB : ∀ t, w = some t → t.d ≤ B) {r : Rule} {far par : Nat} {l m : List (Nat × Th)} (h : tell w r far par (some l) = some m) (hl : ∀ q ∈ l, q.2.d ≤ B) : ∀ q ∈ m, q.2.d ≤ B := by
  rcases tell_some h with ⟨_, rfl⟩ | ⟨t, q, hw, hb, rfl⟩
  · exact hl
  · intro x hx
    rcases List.mem_append.mp hx with hx | hx
    · exact hl x hx
    · rw [List.mem_singleton] at hx
      subst hx
      have := before1_good (gw t hw).pos hb
      exact Nat.le_trans (Nat.le_of_dvd (gw t hw).pos this.2.1) (hB t hw)
theorem allBefore_good {wn : Wanted} (g : GoodW wn) {r : Rule} {far : Nat} {l : List (Nat × Th)} (h : allBefore wn r far = some l) : ∀ q ∈ l, Good q.2 ∧ q.1 < 2 := by
  unfold allBefore at h
  cases e : tell wn.1 r far 0 (some []) with
  | none => rw [e] at h; simp [tell] at h
  | some l' =>
    rw [e] at h
    exact tell_good g.2 h (tell_good g.1 e (by simp))
def DenLe (B : Nat) (wn : Wanted) : Prop := ∀ t, wn.1 = some t ∨ wn.2 = some t → t.d ≤ B
theorem allBefore_den {wn : Wanted} (g : GoodW wn) {B : Nat} (hB : DenLe B wn) {r : Rule} {far : Nat} {l : List (Nat × Th)} (h : allBefore wn r far = some l) : ∀ q ∈ l, q.2.d ≤ B := by
  unfold allBefore at h
  cases e : tell wn.1 r far 0 (some []) with
  | none => rw [e] at h; simp [tell] at h
  | some l' =>
    rw [e] at h
    exact tell_den g.2 (fun t ht => hB t (.inr ht)) h (tell_den g.1 (fun t ht => hB t (.inl ht)) e (by simp))
theorem mergeFrom_all {p : Th → Prop} : ∀ (l : List (Nat × Th)) (w e : Wanted), mergeFrom w l = some e → (∀ q ∈ l, p q.2) → (∀ t, w.1 = some t ∨ w.2 = some t → p t) → ∀ t, e.1 = some t ∨ e.2 = some t → p t
  | [], w, e, h, _, hw => by cases h; exact hw
  | q :: l, w, e, h, hl, hw => by
    unfold mergeFrom at h
    split at h
    · cases h
    · rename_i w' hp
      refine mergeFrom_all l w' e h (fun x hx => hl x (List.mem_cons_of_mem _ hx)) ?_
      have hq : p q.2 := hl q List.mem_cons_self
      unfold put at hp
      split at hp <;> split at hp
      · cases hp
        rintro t (ht | ht)
        · cases ht; exact hq
        · exact hw t (.inr ht)
      · cases hp
      · cases hp
        rintro t (ht | ht)
        · exact hw t (.inl ht)
        · cases ht; exact hq
      · cases hp
theorem merged_good {l : List (Nat × Th)} {e : Wanted} (h : merged l = some e) (hl : ∀ q ∈ l, Good q.2) : GoodW e := by
  have := mergeFrom_all (p := Good) l _ e h hl (by rintro t (h | h) <;> cases h)
  exact ⟨fun t ht => this t (.inl ht), fun t ht => this t (.inr ht)⟩
theorem merged_den {l : List (Nat × Th)} {e : Wanted} {B : Nat} (h : merged l = some e) (hl : ∀ q ∈ l, q.2.d ≤ B) : DenLe B e :=
  mergeFrom_all (p := fun t => t.d ≤ B) l _ e h hl (by rintro t (h | h) <;> cases h)
/-- once too long, always -/
theorem tell_mono {w : Option Th} (gw : GoodO w) {r : Rule} {f par : Nat} {l l' : List (Nat × Th)} (h : tell w r (f + 1) par (some l) = none) : tell w r (f + 2) par (some l') = none := by
  unfold tell at h ⊢
  cases w with
  | none => simp at h
  | some t =>
    simp only at h ⊢
    split at h
    · rename_i e
      rw [before1_mono (gw t rfl).le r f par e]
    · cases h
theorem allBefore_mono {wn : Wanted} (g : GoodW wn) {r : Rule} {f : Nat} (h : allBefore wn r (f + 1) = none) : allBefore wn r (f + 2) = none := by
  unfold allBefore at h ⊢
  cases e : tell wn.1 r (f + 1) 0 (some []) with
  | none => rw [tell_mono g.1 e]; rfl
  | some l =>
    rw [e] at h
    cases e2 : tell wn.1 r (f + 2) 0 (some []) with
    | none => rfl
    | some l' => exact tell_mono g.2 h
theorem allBefore_some_le {wn : Wanted} (g : GoodW wn) {r : Rule} {far k : Nat} (h : (allBefore wn r far).isSome = true) (h1 : 1 ≤ k) (h2 : k ≤ far) : (allBefore wn r k).isSome = true := by
  cases hk : allBefore wn r k with
  | some _ => rfl
  | none =>
    exfalso
    have : ∀ d, allBefore wn r (k + d) = none := by
      intro d
      induction d with
      | zero => exact hk
      | succ d ih =>
        obtain ⟨f, rfl⟩ : ∃ f, k = f + 1 := ⟨k - 1, by omega⟩
        have e1 : f + 1 + (d + 1) = (f + d) + 2 := by omega
        have e2 : f + 1 + d = (f + d) + 1 := by omega
        rw [e1]
        rw [e2] at ih
        exact allBefore_mono g ih
    have e := this (far - k)
    rw [show k + (far - k) = far by omega] at e
    rw [e] at h
    cases h
theorem tell_far {w : Option Th} (gw : GoodO w) {r : Rule} {par B f : Nat} (hB : ∀ t, w = some t → bitLen t.d + 1 ≤ B) (hf : B ≤ f) {l m : List (Nat × Th)} (h : tell w r f par (some l) = some m) : tell w r B par (some l) = some m := by
  unfold tell at h ⊢
  cases w with
  | none => exact h
  | some t =>
    simp only at h ⊢
    split at h
    · cases h
    · rename_i q e
      rw [before1_far (gw t rfl) r par B f (hB t rfl) hf e]
      exact h
theorem allBefore_far {wn : Wanted} (g : GoodW wn) {r : Rule} {f : Nat} (hf : mostFar wn ≤ f) {l : List (Nat × Th)} (h : allBefore wn r f = some l) : allBefore wn r (mostFar wn) = some l := by
  unfold allBefore at h ⊢
  cases e : tell wn.1 r f 0 (some []) with
  | none => rw [e] at h; simp [tell] at h
  | some l' =>
    rw [e] at h
    rw [tell_far g.1 (fun t ht => mostFar_ge (.inl ht)) hf e]
    exact tell_far g.2 (fun t ht => mostFar_ge (.inr ht)) hf h
theorem mem_takeWhile {p : Nat → Bool} : ∀ (n s k : Nat), s ≤ k → k < s + n → (∀ j, s ≤ j → j ≤ k → p j = true) → k ∈ (List.range' s n).takeWhile p
  | 0, s, k, h1, h2, _ => by omega
  | n + 1, s, k, h1, h2, h => by
    rw [List.range'_succ, List.takeWhile_cons, h s (Nat.le_refl _) h1]
    simp only [if_true]
    by_cases e : k = s
    · subst e; exact List.mem_cons_self
    · exact List.mem_cons_of_mem _ (mem_takeWhile n (s + 1) k (by omega) (by omega) fun j h3 h4 => h j (by omega) h4)
theorem mostFar_pos (wn : Wanted) : 1 ≤ mostFar wn := by unfold mostFar; omega
theorem mem_fars {wn : Wanted} (g : GoodW wn) {r : Rule} {k : Nat} (h1 : 1 ≤ k) (h2 : k ≤ mostFar wn) (h : (allBefore wn r k).isSome = true) : k ∈ fars wn r :=
  mem_takeWhile _ _ _ h1 (by omega) fun j h3 h4 => allBefore_some_le g h h3 h4
theorem fars_le {wn : Wanted} {r : Rule} {k : Nat} (h : k ∈ fars wn r) : 1 ≤ k ∧ k ≤ mostFar wn := by
  have := (List.takeWhile_sublist _).mem h
  rw [List.mem_range'_1] at this
  omega
theorem mem_ls {n : Nat} {wn : Wanted} {c : Chain} (r : Rule) (h : c ∈ foundFor n (ls n) wn r) : ∃ m, ls (n + 1) wn = some m ∧ chLe m c := by
  have hm : c ∈ rules.flatMap fun r => foundFor n (ls n) wn r := List.mem_flatMap.mpr ⟨r, mem_rules r, h⟩
  show ∃ m, minL _ = some m ∧ chLe m c
  cases e : minL (rules.flatMap fun r => foundFor n (ls n) wn r) with
  | none => rw [minL_none.mp e] at hm; cases hm
  | some m => exact ⟨m, rfl, (minL_spec _ m e).2 c hm⟩
/-- what is found is a chain with the wanted thresholds -/
theorem ls_sound : ∀ (n : Nat) (wn : Wanted) (s : Chain), ls (n + 1) wn = some s → GoodW wn → ∃ r gs, GapsOk gs ∧ gs.length = n ∧ s = toC 0 r gs ∧ FitsW wn (T r gs) ∧ ∀ B D, 1 ≤ B → DenLe D wn → (∀ d, d ≤ D → bitLen d ≤ B) → ∀ p ∈ gs, p.1 ≤ B + 1
  | n, wn, s, h, g => by
    obtain ⟨hm, _⟩ := minL_spec _ s h
    obtain ⟨r, _, hr⟩ := List.mem_flatMap.mp hm
    unfold foundFor at hr
    rcases List.mem_append.mp hr with hr | hr
    · split at hr
      · rename_i hc
        rw [List.mem_singleton] at hr
        subst hr
        exact ⟨r, [], fun p hp => (by cases hp), hc.1.symm, rfl, hc.2, fun B D _ _ _ p hp => (by cases hp)⟩
      · cases hr
    · split at hr
      · cases hr
      · rename_i hn
        obtain ⟨far, hfar, hs⟩ := List.mem_filterMap.mp hr
        obtain ⟨m, rfl⟩ : ∃ m, n = m + 1 := ⟨n - 1, by omega⟩
        unfold lsStep at hs
        split at hs
        · cases hs
        · rename_i l hl
          split at hs
          · cases hs
          · rename_i e he
            cases hrec : ls (m + 1) e with
            | none => rw [hrec] at hs; cases hs
            | some s' =>
              rw [hrec] at hs
              have hs := Option.some.inj hs
              subst hs
              have hgl := allBefore_good g hl
              have ge := merged_good he fun q hq => (hgl q hq).1
              obtain ⟨r', gs, h1, h2, rfl, h4, h5⟩ := ls_sound m e s' hrec ge
              obtain ⟨f1, f2⟩ := fars_le hfar
              obtain ⟨f, rfl⟩ : ∃ f, far = f + 1 := ⟨far - 1, by omega⟩
              refine ⟨r, (f + 1, r') :: gs, ?_, by rw [List.length_cons, h2], ?_, ?_, ?_⟩
              · intro p hp
                rcases List.mem_cons.mp hp with rfl | hp
                · exact f1
                · exact h1 p hp
              · show _ = toC (0 + (f + 1)) r' gs ++ [(0, r)]
                rw [toC_wid]
              · exact (allBefore_iff g (good_T gs r' h1) r f).mpr ⟨l, hl, e, he, h4⟩
              · intro B D hB hD hbl p hp
                rcases List.mem_cons.mp hp with rfl | hp
                · refine Nat.le_trans f2 (mostFar_le hB fun t ht => hbl _ (hD t ht))
                · exact h5 B D hB (merged_den he (allBefore_den g hD hl)) hbl p hp
/-- and every chain with them is at least as great -/
theorem ls_complete : ∀ (gs : List (Nat × Rule)) (r : Rule) (wn : Wanted), GapsOk gs → GoodW wn → FitsW wn (T r gs) → ∃ s, ls (gs.length + 1) wn = some s ∧ chLe s (toC 0 r gs)
  | [], r, wn, _, _, hf => by
    refine mem_ls r ?_
    unfold foundFor
    refine List.mem_append_left _ ?_
    rw [if_pos ⟨rfl, hf⟩]
    exact List.mem_singleton.mpr rfl
  | (gp, r') :: gs, r, wn, hg, g, hf => by
    have hg' : GapsOk gs := fun p hp => hg p (List.mem_cons_of_mem _ hp)
    have hg1 : 1 ≤ gp := hg (gp, r') List.mem_cons_self
    obtain ⟨f, rfl⟩ : ∃ f, gp = f + 1 := ⟨gp - 1, by omega⟩
    obtain ⟨l, hl, e, he, hfe⟩ := (allBefore_iff g (good_T gs r' hg') r f).mp hf
    have ge := merged_good he fun q hq => (allBefore_good g hl q hq).1
    obtain ⟨s', hs', hle⟩ := ls_complete gs r' e hg' ge hfe
    obtain ⟨r2, gs2, _, hl2, rfl, _⟩ := ls_sound _ _ _ hs' ge
    -- the gap, cut to the most that the search tries
    obtain ⟨k, hk1, hk2, hk3, hk4⟩ : ∃ k, 1 ≤ k ∧ k ≤ mostFar wn ∧ k ≤ f + 1 ∧ allBefore wn r k = some l := by
      by_cases hb : f + 1 ≤ mostFar wn
      · exact ⟨f + 1, by omega, hb, Nat.le_refl _, hl⟩
      · exact ⟨mostFar wn, mostFar_pos wn, Nat.le_refl _, by omega, allBefore_far g (by omega) hl⟩
    have hc : widened (toC 0 r2 gs2) k ++ [(0, r)] ∈ foundFor (gs.length + 1) (ls (gs.length + 1)) wn r := by
      unfold foundFor
      refine List.mem_append_right _ ?_
      rw [if_neg (by omega)]
      refine List.mem_filterMap.mpr ⟨k, mem_fars g hk1 hk2 (by rw [hk4]; rfl), ?_⟩
      unfold lsStep
      rw [hk4]
      simp only [he, hs']
      rfl
    obtain ⟨m, hm, hmle⟩ := mem_ls r hc
    refine ⟨m, hm, chLe_trans hmle ?_⟩
    show chLe _ (toC (0 + (f + 1)) r' gs ++ [(0, r)])
    rw [toC_wid]
    refine chLe_app _ ?_ (chLe_trans (chLe_wid k hle) (chLe_wider (toC_ne _ _ _) hk3))
    rw [widened_len, widened_len, toC_len, toC_len, hl2]
end SR
set_option linter.all false
namespace SR
/-! ### rounding, in whole numbers -/
def goesUp (r : Rule) (k n d : Nat) : Bool :=
  match r with
  | .down => false
  | .up => true
  | .odd => decide (k % 2 = 0)
  | .hdown => if 2 * n = d then false else decide (d < 2 * n)
  | .heven => if 2 * n = d then decide (k % 2 = 1) else decide (d < 2 * n)
  | .hup => if 2 * n = d then true else decide (d < 2 * n)
def rndB (b : Nat) (r : Rule) (m : Nat) : Nat := if m % 2 ^ b = 0 then m else (m / 2 ^ b + (if goesUp r (m / 2 ^ b) (m % 2 ^ b) (2 ^ b) = true then 1 else 0)) * 2 ^ b
def above (t : Th) (rem u : Nat) : Bool := decide (t.n * u < rem * t.d) || (decide (t.n * u = rem * t.d) && t.up)
def app (M : Nat) (c : Chain) (m : Nat) : Nat := c.foldl (fun m s => rndB (M - s.1) s.2 m) m
theorem above_zero {t : Th} (g : Good t) {u : Nat} (hu : 0 < u) : above t 0 u = false := by
  unfold above
  rw [Nat.zero_mul]
  have h1 : decide (t.n * u < 0) = false := decide_eq_false (by omega)
  rw [h1, Bool.false_or]
  by_cases h : t.n = 0
  · rw [g.lo h, Bool.and_false]
  · rw [decide_eq_false (show ¬ t.n * u = 0 from fun z => by
      rcases Nat.mul_eq_zero.mp z with z | z <;> omega), Bool.false_and]
theorem above_one {t : Th} (g : Good t) {u : Nat} (hu : 0 < u) : above t u u = true := by
  unfold above
  by_cases h : t.n = t.d
  · rw [g.hi h, h, Nat.mul_comm u, decide_eq_true (rfl : t.d * u = t.d * u)]
    simp
  · have h2 : t.n * u < t.d * u := Nat.mul_lt_mul_of_pos_right (by have := g.le; omega) hu
    rw [decide_eq_true (show t.n * u < u * t.d by rw [Nat.mul_comm u]; exact h2)]
    rfl
theorem rule_above (r : Rule) (k rem u : Nat) (h0 : 0 < rem) (h1 : rem < u) : goesUp r k rem u = above (sel (byRule r) k) rem u := by
  have hN : above never rem u = false := by
    unfold above never
    simp only [Nat.one_mul, Nat.mul_one, Bool.and_true]
    rw [decide_eq_false (by omega), decide_eq_false (by omega)]
    rfl
  have hA : above always rem u = true := by
    unfold above always
    simp only [Nat.zero_mul, Nat.mul_one]
    rw [decide_eq_true h0]
    rfl
  have hD : above tieDown rem u = if 2 * rem = u then false else decide (u < 2 * rem) := by
    unfold above tieDown
    simp only [Nat.one_mul, Bool.and_false, Bool.or_false, Nat.mul_comm rem 2]
    split
    · rw [decide_eq_false (by omega)]
    · rfl
  have hU : above tieUp rem u = if 2 * rem = u then true else decide (u < 2 * rem) := by
    unfold above tieUp
    simp only [Nat.one_mul, Bool.and_true, Nat.mul_comm rem 2]
    split
    · rename_i h; rw [decide_eq_true h.symm, Bool.or_true]
    · rename_i h; rw [decide_eq_false (show ¬ u = 2 * rem from fun z => h z.symm), Bool.or_false]
  rcases sel_cases (byRule r) k with ⟨hk, e⟩ | ⟨hk, e⟩ <;> rw [e] <;> cases r <;> simp only [byRule, goesUp, hN, hA, hD, hU, hk] <;> simp
theorem rndB_above (b : Nat) (r : Rule) (m : Nat) : rndB b r m = (m / 2 ^ b + (if above (sel (byRule r) (m / 2 ^ b)) (m % 2 ^ b) (2 ^ b) = true then 1 else 0)) * 2 ^ b := by
  have hp : 0 < 2 ^ b := Nat.two_pow_pos b
  unfold rndB
  by_cases h : m % 2 ^ b = 0
  · rw [if_pos h, h, above_zero (good_byRule r _) hp]
    simp only [Bool.false_eq_true, if_false, Nat.add_zero]
    exact (Nat.div_mul_cancel (Nat.dvd_of_mod_eq_zero h)).symm
  · rw [if_neg h, rule_above r _ _ _ (by omega) (Nat.mod_lt _ hp)]
theorem rndB_same {b : Nat} {r : Rule} {m : Nat} (h : 2 ^ b ∣ m) : rndB b r m = m := by
  unfold rndB
  rw [if_pos (Nat.mod_eq_zero_of_dvd h)]
theorem rndB_dvd (b : Nat) (r : Rule) (m : Nat) : 2 ^ b ∣ rndB b r m := by
  rw [rndB_above]
  exact Nat.dvd_mul_left _ _
/-- up, beyond the last part down -/
theorem above_ld (r : Rule) (g par j : Nat) (hj : j < 2 ^ (g + 1)) : above (sel (byRule r) par) j (2 ^ (g + 1)) = decide (lastDown r (g + 1) par < j) := by
  have hp : 0 < 2 ^ g := Nat.two_pow_pos g
  have e : 2 ^ (g + 1) = 2 * 2 ^ g := by rw [Nat.pow_succ]; omega
  rcases kinds r par with h | h | h | h
  · rw [ld_never h, h]
    unfold above never
    simp only [Nat.one_mul, Nat.mul_one, Bool.and_true]
    rw [decide_eq_false (by omega), decide_eq_false (by omega), decide_eq_false (by omega)]
    rfl
  · rw [ld_always h, h]
    unfold above always
    simp only [Nat.zero_mul, Nat.mul_one, Bool.and_false, Bool.or_false]
  · rw [ld_tieDown h, h]
    unfold above tieDown
    simp only [Nat.one_mul, Bool.and_false, Bool.or_false]
    exact decide_eq_decide.mpr (by omega)
  · rw [ld_tieUp h, h]
    unfold above tieUp
    simp only [Nat.one_mul, Bool.and_true]
    rw [← Bool.decide_or]
    exact decide_eq_decide.mpr (by omega)
theorem above_red {n d : Nat} (hd : 0 < d) (up : Bool) (rem u : Nat) : above (mkTh (red n d) up) rem u = (decide (n * u < rem * d) || (decide (n * u = rem * d) && up)) := by
  have q := red_cross (a := n) (b := d)
  have p := red_pos (a := n) hd
  unfold above mkTh
  generalize red n d = z at q p
  obtain ⟨x, y⟩ := z
  simp only at q p ⊢
  have hl : x * u * d = n * u * y := by
    calc x * u * d = (x * d) * u := by ac_rfl
      _ = (n * y) * u := by rw [q]
      _ = n * u * y := by ac_rfl
  have hr : rem * y * d = rem * d * y := by ac_rfl
  have e1 : (x * u < rem * y) ↔ (n * u < rem * d) := by
    constructor
    · intro h
      have h2 : x * u * d < rem * y * d := Nat.mul_lt_mul_of_pos_right h hd
      rw [hl, hr] at h2
      exact Nat.lt_of_mul_lt_mul_right h2
    · intro h
      have h2 : n * u * y < rem * d * y := Nat.mul_lt_mul_of_pos_right h p
      rw [← hl, ← hr] at h2
      exact Nat.lt_of_mul_lt_mul_right h2
  have e2 : (x * u = rem * y) ↔ (n * u = rem * d) := by
    constructor
    · intro h
      have h2 : x * u * d = rem * y * d := by rw [h]
      rw [hl, hr] at h2
      exact Nat.eq_of_mul_eq_mul_right p h2
    · intro h
      have h2 : n * u * y = rem * d * y := by rw [h]
      rw [← hl, ← hr] at h2
      exact Nat.eq_of_mul_eq_mul_right hd h2
  rw [decide_eq_decide.mpr e1, decide_eq_decide.mpr e2]
/-- the threshold two steps have -/
theorem above_comb {P : Th × Th} (hP : ∀ i, Good (sel P i)) (r : Rule) (g par j rem v : Nat) (hj : j < 2 ^ (g + 1)) (hr : rem < v) :
    above (comb1 P r (g + 1) par) (j * v + rem) (v * 2 ^ (g + 1)) = decide (lastDown r (g + 1) par < j + (if above (sel P j) rem v = true then 1 else 0)) := by
  unfold comb1
  simp only
  have hi := ld_lt r g par
  generalize lastDown r (g + 1) par = i at hi
  have gi := hP i
  have hpow : 0 < 2 ^ (g + 1) := Nat.two_pow_pos _
  have hself : j = i → sel P j = sel P i := fun h => by rw [h]
  generalize hA : above (sel P j) rem v = A
  have hA' : j = i → above (sel P i) rem v = A := fun h => by rw [← h]; exact hA
  clear hA hself
  generalize sel P i = t at gi hA'
  rw [above_red (Nat.mul_pos gi.pos hpow)]
  have hle := gi.le
  have hpos := gi.pos
  -- divide by 2 ^ (g + 1)
  have eL : (i * t.d + t.n) * (v * 2 ^ (g + 1)) = ((i * t.d + t.n) * v) * 2 ^ (g + 1) := by ac_rfl
  have eR : (j * v + rem) * (t.d * 2 ^ (g + 1)) = ((j * v + rem) * t.d) * 2 ^ (g + 1) := by ac_rfl
  have x1 : (i * t.d + t.n) * v = i * (t.d * v) + t.n * v := by rw [Nat.add_mul, Nat.mul_assoc]
  have x2 : (j * v + rem) * t.d = j * (t.d * v) + rem * t.d := by rw [Nat.add_mul, Nat.mul_assoc, Nat.mul_comm v]
  have c1 : (i * t.d + t.n) * (v * 2 ^ (g + 1)) < (j * v + rem) * (t.d * 2 ^ (g + 1)) ↔ i * (t.d * v) + t.n * v < j * (t.d * v) + rem * t.d := by
    rw [eL, eR, x1, x2]
    exact ⟨fun h => Nat.lt_of_mul_lt_mul_right h, fun h => Nat.mul_lt_mul_of_pos_right h hpow⟩
  have c2 : (i * t.d + t.n) * (v * 2 ^ (g + 1)) = (j * v + rem) * (t.d * 2 ^ (g + 1)) ↔ i * (t.d * v) + t.n * v = j * (t.d * v) + rem * t.d := by
    rw [eL, eR, x1, x2]
    exact ⟨fun h => Nat.eq_of_mul_eq_mul_right hpow h, fun h => by rw [h]⟩
  rw [decide_eq_decide.mpr c1, decide_eq_decide.mpr c2]
  have hnv : t.n * v ≤ t.d * v := Nat.mul_le_mul_right _ hle
  have hrd : rem * t.d < t.d * v := by rw [Nat.mul_comm t.d]; exact Nat.mul_lt_mul_of_pos_right hr hpos
  rcases Nat.lt_trichotomy j i with h | h | h
  · have h2 : (j + 1) * (t.d * v) ≤ i * (t.d * v) := Nat.mul_le_mul_right _ h
    rw [Nat.succ_mul] at h2
    rw [decide_eq_false (by omega), decide_eq_false (by omega), decide_eq_false (by split <;> omega)]
    rfl
  · subst h
    have hA2 := hA' rfl
    unfold above at hA2
    rw [decide_eq_decide.mpr (show j * (t.d * v) + t.n * v < j * (t.d * v) + rem * t.d ↔ t.n * v < rem * t.d by omega), decide_eq_decide.mpr (show j * (t.d * v) + t.n * v = j * (t.d * v) + rem * t.d ↔ t.n * v = rem * t.d by omega), hA2]
    cases A <;> simp
  · have h2 : (i + 1) * (t.d * v) ≤ j * (t.d * v) := Nat.mul_le_mul_right _ h
    rw [Nat.succ_mul] at h2
    rw [decide_eq_true (show i < j + (if A = true then 1 else 0) by split <;> omega)]
    by_cases h3 : i * (t.d * v) + t.n * v < j * (t.d * v) + rem * t.d
    · rw [decide_eq_true h3]; rfl
    · have h4 : t.n * v = t.d * v := by omega
      have hv : 0 < v := by omega
      have h5 : t.n = t.d := Nat.eq_of_mul_eq_mul_right hv h4
      rw [decide_eq_true (show i * (t.d * v) + t.n * v = j * (t.d * v) + rem * t.d by omega), gi.hi h5]
      simp
theorem above_scale (t : Th) (x u : Nat) {v : Nat} (hv : 0 < v) : above t (x * v) (v * u) = above t x u := by
  unfold above
  have e1 : t.n * (v * u) = (t.n * u) * v := by ac_rfl
  have e2 : x * v * t.d = (x * t.d) * v := by ac_rfl
  have c1 : t.n * (v * u) < x * v * t.d ↔ t.n * u < x * t.d := by
    rw [e1, e2]
    exact ⟨fun h => Nat.lt_of_mul_lt_mul_right h, fun h => Nat.mul_lt_mul_of_pos_right h hv⟩
  have c2 : t.n * (v * u) = x * v * t.d ↔ t.n * u = x * t.d := by
    rw [e1, e2]
    exact ⟨fun h => Nat.eq_of_mul_eq_mul_right hv h, fun h => by rw [h]⟩
  rw [decide_eq_decide.mpr c1, decide_eq_decide.mpr c2]
theorem ld_mod (r : Rule) (f i : Nat) : lastDown r f (i % 2) = lastDown r f i := by unfold lastDown; rw [sel_mod]
theorem app_snoc (M : Nat) (c : Chain) (s : Step) (m : Nat) : app M (c ++ [s]) m = rndB (M - s.1) s.2 (app M c m) := by
  unfold app
  rw [List.foldl_append]
  rfl
/-- what a chain of falling widths does in a cell -/
theorem round_T : ∀ (gs : List (Nat × Rule)) (r : Rule) (w M m : Nat), GapsOk gs → w + total gs ≤ M →
    app M (toC w r gs) m = (m / 2 ^ (M - w) + (if above (sel (T r gs) (m / 2 ^ (M - w))) (m % 2 ^ (M - w)) (2 ^ (M - w)) = true then 1 else 0)) * 2 ^ (M - w)
  | [], r, w, M, m, _, _ => by
    show rndB (M - w) r m = _
    rw [rndB_above]
    rfl
  | (g, r') :: gs, r, w, M, m, hg, hM => by
    have htot : total ((g, r') :: gs) = g + total gs := by unfold total; rw [List.map_cons, List.sum_cons]
    rw [htot] at hM
    have hg1 : 1 ≤ g := hg (g, r') List.mem_cons_self
    have hgs : GapsOk gs := fun p hp => hg p (List.mem_cons_of_mem _ hp)
    have ih := round_T gs r' (w + g) M m hgs (by omega)
    have hP := good_T gs r' hgs
    show app M (toC (w + g) r' gs ++ [(w, r)]) m = _
    rw [app_snoc, ih]
    obtain ⟨g, rfl⟩ : ∃ g0, g = g0 + 1 := ⟨g - 1, by omega⟩
    have hb : M - w = (M - (w + (g + 1))) + (g + 1) := by omega
    show rndB (M - w) r _ = _
    rw [rndB_above]
    generalize M - (w + (g + 1)) = b' at hb
    rw [hb]
    have hp' : 0 < 2 ^ b' := Nat.two_pow_pos _
    have hpg : 0 < 2 ^ (g + 1) := Nat.two_pow_pos _
    rw [Nat.pow_add]
    -- K', j, rem'
    have hT : T r ((g + 1, r') :: gs) = combined (T r' gs) r (g + 1) := rfl
    rw [hT, comb1_sel]
    generalize hPP : T r' gs = P at hP
    have hdiv : m / (2 ^ b' * 2 ^ (g + 1)) = m / 2 ^ b' / 2 ^ (g + 1) := (Nat.div_div_eq_div_mul _ _ _).symm
    have hmod : m % (2 ^ b' * 2 ^ (g + 1)) = (m / 2 ^ b' % 2 ^ (g + 1)) * 2 ^ b' + m % 2 ^ b' := by
      rw [Nat.mod_mul]
      rw [Nat.mul_comm (2 ^ b'), Nat.add_comm]
    rw [hdiv, hmod]
    have hrem : m % 2 ^ b' < 2 ^ b' := Nat.mod_lt _ hp'
    generalize m % 2 ^ b' = rem at hrem
    generalize m / 2 ^ b' = K'
    have hj : K' % 2 ^ (g + 1) < 2 ^ (g + 1) := Nat.mod_lt _ hpg
    have hK : K' = 2 ^ (g + 1) * (K' / 2 ^ (g + 1)) + K' % 2 ^ (g + 1) := (Nat.div_add_mod _ _).symm
    have hpar : sel P K' = sel P (K' % 2 ^ (g + 1)) := by
      have : K' % 2 = K' % 2 ^ (g + 1) % 2 := by
        rw [Nat.mod_mod_of_dvd]
        exact ⟨2 ^ g, by rw [Nat.pow_succ, Nat.mul_comm]⟩
      unfold sel
      rw [this]
    rw [hpar]
    rw [above_comb hP r g _ _ _ _ hj hrem]
    have hup : (if above (sel P (K' % 2 ^ (g + 1))) rem (2 ^ b') = true then 1 else 0) ≤ 1 := by split <;> omega
    generalize (if above (sel P (K' % 2 ^ (g + 1))) rem (2 ^ b') = true then 1 else 0) = up at hup
    have hQd : (K' + up) * 2 ^ b' / (2 ^ b' * 2 ^ (g + 1)) = (K' + up) / 2 ^ (g + 1) := by
      rw [Nat.mul_comm (2 ^ b')]
      exact Nat.mul_div_mul_right _ _ hp'
    have hQm : (K' + up) * 2 ^ b' % (2 ^ b' * 2 ^ (g + 1)) = ((K' + up) % 2 ^ (g + 1)) * 2 ^ b' := by
      rw [Nat.mul_comm (2 ^ b')]
      exact Nat.mul_mod_mul_right _ _ _
    rw [hQd, hQm, above_scale _ _ _ hp', ld_mod]
    have hld := ld_lt r g (K' / 2 ^ (g + 1))
    generalize hj2 : K' % 2 ^ (g + 1) = j at *
    generalize K' / 2 ^ (g + 1) = Kw at *
    by_cases hlast : j + up = 2 ^ (g + 1)
    · have e : K' + up = 2 ^ (g + 1) * (Kw + 1) := by rw [Nat.mul_add, Nat.mul_one]; omega
      rw [e, Nat.mul_div_cancel_left _ hpg, Nat.mul_mod_right, above_zero (good_byRule r _) hpg, decide_eq_true (show lastDown r (g + 1) Kw < j + up by omega)]
      simp
    · have e : K' + up = 2 ^ (g + 1) * Kw + (j + up) := by omega
      have hlt : j + up < 2 ^ (g + 1) := by omega
      rw [e, Nat.mul_add_div hpg, Nat.div_eq_of_lt hlt, Nat.mul_add_mod, Nat.mod_eq_of_lt hlt, Nat.add_zero, above_ld r g _ _ hlt]
end SR
set_option linter.all false
namespace SR
theorem red_scale (a b c : Nat) (hc : 0 < c) : red (a * c) (b * c) = red a b := by
  unfold red
  rw [Nat.gcd_mul_right, Nat.mul_div_mul_right _ _ hc, Nat.mul_div_mul_right _ _ hc]
theorem red_one (k : Nat) : red k 1 = (k, 1) := by unfold red; simp
theorem red_full (k u : Nat) (hu : 0 < u) : red (k * u) u = (k, 1) := by
  have := red_scale k 1 u hu
  rw [Nat.one_mul] at this
  rw [this, red_one]
theorem goesUp_cross (r : Rule) (k : Nat) {n d rem u : Nat} (hd : 0 < d) (hu : 0 < u) (h : n * u = rem * d) : goesUp r k n d = goesUp r k rem u := by
  have e1 : (2 * n = d) ↔ (2 * rem = u) := by
    constructor
    · intro z
      have : 2 * rem * d = u * d := by rw [Nat.mul_assoc, ← h, ← Nat.mul_assoc, z, Nat.mul_comm]
      exact Nat.eq_of_mul_eq_mul_right hd this
    · intro z
      have : 2 * n * u = d * u := by rw [Nat.mul_assoc, h, ← Nat.mul_assoc, z, Nat.mul_comm]
      exact Nat.eq_of_mul_eq_mul_right hu this
  have e2 : (d < 2 * n) ↔ (u < 2 * rem) := by
    constructor
    · intro z
      have h1 : d * u < 2 * n * u := Nat.mul_lt_mul_of_pos_right z hu
      rw [Nat.mul_assoc, h, ← Nat.mul_assoc, Nat.mul_comm d] at h1
      exact Nat.lt_of_mul_lt_mul_right h1
    · intro z
      have h1 : u * d < 2 * rem * d := Nat.mul_lt_mul_of_pos_right z hd
      rw [Nat.mul_assoc, ← h, ← Nat.mul_assoc, Nat.mul_comm u] at h1
      exact Nat.lt_of_mul_lt_mul_right h1
  unfold goesUp
  cases r <;> simp only [e1, e2]
/-! ### the cell of a number -/
def dn (e : Int) : Nat := (max (0 - e) 0).toNat
def upE (e : Int) : Nat := (max e 0).toNat
theorem up_dn (e : Int) : (upE e : Int) - dn e = e := by unfold upE dn; omega
def cOk (n d p : Nat) (e : Int) : Prop := n * 2 ^ dn e < d * 2 ^ (upE e + p)
instance (n d p : Nat) (e : Int) : Decidable (cOk n d p e) := by unfold cOk; infer_instance
theorem cOk_iff {n d p : Nat} {e : Int} (S T : Nat) (hS : 0 ≤ (S : Int) + e) (hT : (T : Int) = S + e + p) : cOk n d p e ↔ n * 2 ^ S < d * 2 ^ T := by
  have h := up_dn e
  have hd : dn e ≤ S := by unfold dn; omega
  obtain ⟨x, rfl⟩ := Nat.le.dest hd
  have eT : T = upE e + p + x := by omega
  subst eT
  unfold cOk
  have hp : 0 < 2 ^ x := Nat.two_pow_pos x
  rw [Nat.pow_add _ (dn e), Nat.pow_add _ (upE e + p), ← Nat.mul_assoc, ← Nat.mul_assoc]
  exact ⟨fun z => Nat.mul_lt_mul_of_pos_right z hp, fun z => Nat.lt_of_mul_lt_mul_right z⟩
theorem cOk_mono {n d p : Nat} {e e' : Int} (h : cOk n d p e) (he : e ≤ e') : cOk n d p e' := by
  obtain ⟨S, hS⟩ : ∃ S : Nat, 0 ≤ (S : Int) + e := ⟨(-e).toNat, by omega⟩
  obtain ⟨T, hT⟩ : ∃ T : Nat, (T : Int) = S + e + p := ⟨((S : Int) + e + p).toNat, by omega⟩
  obtain ⟨T', hT'⟩ : ∃ T : Nat, (T : Int) = S + e' + p := ⟨((S : Int) + e' + p).toNat, by omega⟩
  rw [cOk_iff S T hS hT] at h
  rw [cOk_iff S T' (by omega) hT']
  refine Nat.lt_of_lt_of_le h (Nat.mul_le_mul_left _ (Nat.pow_le_pow_right (by decide) (by omega)))
theorem bitLen_le {n : Nat} (h : 0 < n) : 2 ^ (bitLen n - 1) ≤ n ∧ 1 ≤ bitLen n := by
  unfold bitLen
  rw [if_neg (by omega)]
  exact ⟨by simpa using Nat.log2_self_le (by omega), by omega⟩
/-- where the search begins, it's not yet beyond -/
theorem cOk_start {n d p : Nat} (hn : 0 < n) : ¬ cOk n d p ((bitLen n : Int) - bitLen d - p - 1) := by
  obtain ⟨h1, h2⟩ := bitLen_le hn
  have h3 := lt_bitLen d
  obtain ⟨S, hS⟩ : ∃ S : Nat, 0 ≤ (S : Int) + ((bitLen n : Int) - bitLen d - p - 1) := ⟨bitLen d + p + 1, by omega⟩
  obtain ⟨T, hT⟩ : ∃ T : Nat, (T : Int) = S + ((bitLen n : Int) - bitLen d - p - 1) + p := ⟨((S : Int) + ((bitLen n : Int) - bitLen d - p - 1) + p).toNat, by omega⟩
  rw [cOk_iff S T hS hT]
  intro z
  have e : bitLen d + T = bitLen n - 1 + S := by omega
  have a : d * 2 ^ T ≤ 2 ^ bitLen d * 2 ^ T := Nat.mul_le_mul_right _ (Nat.le_of_lt h3)
  rw [← Nat.pow_add, e, Nat.pow_add] at a
  have b : 2 ^ (bitLen n - 1) * 2 ^ S ≤ n * 2 ^ S := Nat.mul_le_mul_right _ h1
  omega
theorem start_le {n d p : Nat} {e : Int} (hn : 0 < n) (h : cOk n d p e) : (bitLen n : Int) - bitLen d - p ≤ e := by
  by_cases z : (bitLen n : Int) - bitLen d - p ≤ e
  · exact z
  · exact absurd (cOk_mono h (by omega)) (cOk_start hn)
/-- rounded: by the cell's number and the place in it -/
def rndF (n d : Nat) (e : Int) (r : Rule) : Nat × Nat :=
  if (n * 2 ^ dn e) % (d * 2 ^ upE e) = 0 then (n, d)
  else red (((n * 2 ^ dn e) / (d * 2 ^ upE e) + (if goesUp r ((n * 2 ^ dn e) / (d * 2 ^ upE e)) (red ((n * 2 ^ dn e) % (d * 2 ^ upE e)) (d * 2 ^ upE e)).1 (red ((n * 2 ^ dn e) % (d * 2 ^ upE e)) (d * 2 ^ upE e)).2 = true then 1 else 0)) * 2 ^ upE e) (2 ^ dn e)
theorem cell_at {m N w p : Nat} (hw : 1 ≤ w) (h1 : 2 ^ (w - 1) * 2 ^ N ≤ m) (h2 : m < 2 ^ w * 2 ^ N) : cOk (red m (2 ^ N)).1 (red m (2 ^ N)).2 p ((w : Int) - p) ∧ ¬ cOk (red m (2 ^ N)).1 (red m (2 ^ N)).2 p ((w : Int) - p - 1) := by
  have hN : 0 < 2 ^ N := Nat.two_pow_pos N
  have q := red_cross (a := m) (b := 2 ^ N)
  have pd := red_pos (a := m) hN
  generalize red m (2 ^ N) = z at *
  obtain ⟨n, d⟩ := z
  simp only at q pd ⊢
  have hp : 0 < 2 ^ p := Nat.two_pow_pos p
  rw [cOk_iff p (w + p) (by omega) (by omega), cOk_iff p (w - 1 + p) (by omega) (by omega)]
  rw [Nat.pow_add, Nat.pow_add, ← Nat.mul_assoc, ← Nat.mul_assoc]
  constructor
  · refine Nat.mul_lt_mul_of_pos_right ?_ hp
    refine Nat.lt_of_mul_lt_mul_right (a := 2 ^ N) ?_
    rw [q, Nat.mul_comm d, Nat.mul_right_comm]
    exact Nat.mul_lt_mul_of_pos_right h2 pd
  · rw [Nat.not_lt]
    refine Nat.mul_le_mul_right _ ?_
    refine Nat.le_of_mul_le_mul_right ?_ hN
    rw [q, Nat.mul_comm d, Nat.mul_right_comm]
    exact Nat.mul_le_mul_right _ h1
theorem rnd_eq {m N w p : Nat} (r : Rule) (hw : 1 ≤ w) (hp : w ≤ p) (hpN : p ≤ N + w) (h1 : 2 ^ (w - 1) * 2 ^ N ≤ m) (h2 : m ≤ 2 ^ w * 2 ^ N) :
    ∃ e : Int, cOk (red m (2 ^ N)).1 (red m (2 ^ N)).2 p e ∧ ¬ cOk (red m (2 ^ N)).1 (red m (2 ^ N)).2 p (e - 1) ∧ (w : Int) - p ≤ e ∧ e ≤ (w : Int) + 1 - p ∧ rndF (red m (2 ^ N)).1 (red m (2 ^ N)).2 e r = red (rndB (N + w - p) r m) (2 ^ N) := by
  have hN : 0 < 2 ^ N := Nat.two_pow_pos N
  by_cases hm : m < 2 ^ w * 2 ^ N
  · obtain ⟨c1, c2⟩ := cell_at (p := p) hw h1 hm
    refine ⟨(w : Int) - p, c1, c2, Int.le_refl _, by omega, ?_⟩
    have q := red_cross (a := m) (b := 2 ^ N)
    have pd := red_pos (a := m) hN
    have hself : ((red m (2 ^ N)).1, (red m (2 ^ N)).2) = red m (2 ^ N) := rfl
    generalize hz : red m (2 ^ N) = z at *
    obtain ⟨n, d⟩ := z
    simp only at q pd ⊢
    have hu : upE ((w : Int) - p) = 0 := by unfold upE; omega
    have hd : dn ((w : Int) - p) = p - w := by unfold dn; omega
    unfold rndF
    rw [hu, hd, Nat.pow_zero, Nat.mul_one, Nat.mul_one]
    have hb : N = (p - w) + (N + w - p) := by omega
    generalize p - w = s at hb
    generalize N + w - p = b at hb
    subst hb
    rw [Nat.pow_add] at q hN
    have hpb : 0 < 2 ^ b := Nat.two_pow_pos b
    have hps : 0 < 2 ^ s := Nat.two_pow_pos s
    have q' : n * 2 ^ s * 2 ^ b = m * d := by rw [Nat.mul_assoc]; exact q
    have hK : n * 2 ^ s / d = m / 2 ^ b := by
      rw [← Nat.mul_div_mul_right (n * 2 ^ s) d hpb, q', Nat.mul_comm d, Nat.mul_div_mul_right _ _ pd]
    have hR : n * 2 ^ s % d * 2 ^ b = m % 2 ^ b * d := by
      rw [← Nat.mul_mod_mul_right, q', Nat.mul_comm d, Nat.mul_mod_mul_right]
    rw [hK]
    have h0 : (n * 2 ^ s % d = 0) ↔ (m % 2 ^ b = 0) := by
      constructor
      · intro z
        rw [z, Nat.zero_mul] at hR
        exact (Nat.mul_eq_zero.mp hR.symm).resolve_right (by omega)
      · intro z
        rw [z, Nat.zero_mul] at hR
        exact (Nat.mul_eq_zero.mp hR).resolve_right (by omega)
    have q2 := red_cross (a := n * 2 ^ s % d) (b := d)
    have pd2 := red_pos (a := n * 2 ^ s % d) pd
    have hgo : goesUp r (m / 2 ^ b) (red (n * 2 ^ s % d) d).1 (red (n * 2 ^ s % d) d).2 = goesUp r (m / 2 ^ b) (m % 2 ^ b) (2 ^ b) := by
      generalize red (n * 2 ^ s % d) d = zz at q2 pd2
      refine goesUp_cross r _ pd2 hpb ?_
      refine Nat.eq_of_mul_eq_mul_right pd ?_
      rw [Nat.mul_right_comm, q2, Nat.mul_right_comm, hR, Nat.mul_right_comm]
    rw [hgo]
    unfold rndB
    by_cases hz0 : m % 2 ^ b = 0
    · rw [if_pos (h0.mpr hz0), if_pos hz0, hz]
    · rw [if_neg (fun z => hz0 (h0.mp z)), if_neg hz0, Nat.pow_add, red_scale _ _ _ hpb]
  · have em : m = 2 ^ w * 2 ^ N := by omega
    have hlt : 2 ^ w * 2 ^ N < 2 ^ (w + 1) * 2 ^ N := Nat.mul_lt_mul_of_pos_right (by rw [Nat.pow_succ]; have := Nat.two_pow_pos w; omega) hN
    obtain ⟨c1, c2⟩ := cell_at (p := p) (w := w + 1) (m := m) (N := N) (by omega) (by rw [em]; exact Nat.le_refl _) (by rw [em]; exact hlt)
    refine ⟨(w : Int) + 1 - p, by simpa using c1, by simpa using c2, by omega, Int.le_refl _, ?_⟩
    have hdv : 2 ^ (N + w - p) ∣ m := by
      rw [em]
      exact Nat.dvd_trans (Nat.pow_dvd_pow 2 (by omega)) (Nat.dvd_mul_left _ _)
    rw [rndB_same hdv]
    have hred : red m (2 ^ N) = (2 ^ w, 1) := by rw [em]; exact red_full _ _ hN
    rw [hred]
    unfold rndF
    simp only
    rw [if_pos]
    rw [Nat.one_mul]
    apply Nat.mod_eq_zero_of_dvd
    rw [← Nat.pow_add]
    exact Nat.pow_dvd_pow 2 (by unfold upE dn; omega)
/-! ### the search for a cut -/
theorem above_tau {t : Th} (g : Good t) {tau u : Nat} (h : t.n * u = tau * t.d) (i : Nat) : above t i u = (decide (tau < i) || (decide (tau = i) && t.up)) := by
  unfold above
  rw [h]
  have e1 : tau * t.d < i * t.d ↔ tau < i := ⟨fun z => Nat.lt_of_mul_lt_mul_right z, fun z => Nat.mul_lt_mul_of_pos_right z g.pos⟩
  have e2 : tau * t.d = i * t.d ↔ tau = i := ⟨fun z => Nat.eq_of_mul_eq_mul_right g.pos z, fun z => by rw [z]⟩
  rw [decide_eq_decide.mpr e1, decide_eq_decide.mpr e2]
theorem cut_end {t : Th} (g : Good t) {N lo : Nat} (hN : t.d ∣ 2 ^ N) (h1 : above t lo (2 ^ (N + 1)) = false) (h2 : above t (lo + 1) (2 ^ (N + 1)) = true) :
    (if (lo + 1) % 2 = 0 then mkTh (red (lo + 1) (2 ^ (N + 1))) true else mkTh (red lo (2 ^ (N + 1))) false) = t := by
  obtain ⟨x, hx⟩ := hN
  have htau : t.n * 2 ^ (N + 1) = (2 * (t.n * x)) * t.d := by
    rw [Nat.pow_succ, hx]
    ac_rfl
  generalize hy : t.n * x = y at htau
  have hred : ∀ z, z = 2 * y → red z (2 ^ (N + 1)) = (t.n, t.d) := fun z hz => (red_eq (Nat.two_pow_pos _) g.pos g.co).mpr (by rw [hz, htau])
  rw [above_tau g htau] at h1 h2
  cases hup : t.up with
  | true =>
    rw [hup] at h1 h2
    simp only [Bool.and_true, Bool.or_eq_false_iff, decide_eq_false_iff_not, Bool.or_eq_true, decide_eq_true_eq] at h1 h2
    have e : lo + 1 = 2 * y := by omega
    rw [if_pos (by omega), hred _ e]
    show (⟨t.n, t.d, true⟩ : Th) = t
    rw [← hup]
  | false =>
    rw [hup] at h1 h2
    simp only [Bool.and_false, Bool.or_false, decide_eq_false_iff_not, decide_eq_true_eq] at h1 h2
    have e : lo = 2 * y := by omega
    rw [if_neg (by omega), hred _ e]
    show (⟨t.n, t.d, false⟩ : Th) = t
    rw [← hup]
end SR
set_option linter.all false
namespace SR
/-! ### thresholds in parts of 2 ^ 20 -/
def fix (t : Th) : Nat := t.n * 1048576 / t.d
theorem fix_mul {t : Th} (hd : t.d ∣ 1048576) : fix t * t.d = t.n * 1048576 := by
  unfold fix
  exact Nat.div_mul_cancel (Nat.dvd_trans hd (Nat.dvd_mul_left _ _))
theorem fix_inj {t u : Th} (g : Good t) (h : Good u) (hd : t.d ∣ 1048576) (he : u.d ∣ 1048576) (e : fix t = fix u) (eu : t.up = u.up) : t = u := by
  have a := fix_mul hd
  have b := fix_mul he
  rw [e] at a
  have c : (t.n * u.d) * 1048576 = (u.n * t.d) * 1048576 := by
    calc (t.n * u.d) * 1048576 = (t.n * 1048576) * u.d := by ac_rfl
      _ = (fix u * t.d) * u.d := by rw [a]
      _ = (fix u * u.d) * t.d := by ac_rfl
      _ = (u.n * 1048576) * t.d := by rw [b]
      _ = (u.n * t.d) * 1048576 := by ac_rfl
  have c2 : t.n * u.d = u.n * t.d := Nat.eq_of_mul_eq_mul_right (by decide) c
  obtain ⟨e1, e2⟩ := cross_uniq g.pos h.pos g.co h.co c2
  obtain ⟨n, d, s⟩ := t
  obtain ⟨n', d', s'⟩ := u
  simp only at e1 e2 eu
  rw [e1, e2, eu]
theorem fix_comb {P : Th × Th} (hP : ∀ i, Good (sel P i)) (r : Rule) (far par : Nat) (h1 : ∀ i, (sel P i).d ∣ 1048576) (h2 : (comb1 P r far par).d ∣ 1048576) :
    (lastDown r far par * 1048576 + fix (sel P (lastDown r far par))) / 2 ^ far = fix (comb1 P r far par) := by
  have e : comb1 P r far par = mkTh (red (lastDown r far par * (sel P (lastDown r far par)).d + (sel P (lastDown r far par)).n) ((sel P (lastDown r far par)).d * 2 ^ far)) (sel P (lastDown r far par)).up := rfl
  rw [e] at h2 ⊢
  clear e
  generalize lastDown r far par = i at *
  have g := hP i
  have hd := h1 i
  have a := fix_mul hd
  generalize sel P i = t at *
  have hp : 0 < 2 ^ far := Nat.two_pow_pos far
  have hb : 0 < t.d * 2 ^ far := Nat.mul_pos g.pos hp
  have q := red_cross (a := i * t.d + t.n) (b := t.d * 2 ^ far)
  have pd := red_pos (a := i * t.d + t.n) hb
  have b := fix_mul h2
  generalize fix (mkTh (red (i * t.d + t.n) (t.d * 2 ^ far)) t.up) = F at b ⊢
  unfold mkTh at b
  generalize red (i * t.d + t.n) (t.d * 2 ^ far) = z at q pd b
  obtain ⟨x, y⟩ := z
  simp only at q pd b
  have key : F * 2 ^ far = i * 1048576 + fix t := by
    have h : (F * 2 ^ far) * (t.d * y) = (i * 1048576 + fix t) * (t.d * y) := by
      calc (F * 2 ^ far) * (t.d * y) = (F * y) * (t.d * 2 ^ far) := by ac_rfl
        _ = (x * 1048576) * (t.d * 2 ^ far) := by rw [b]
        _ = (x * (t.d * 2 ^ far)) * 1048576 := by ac_rfl
        _ = ((i * t.d + t.n) * y) * 1048576 := by rw [q]
        _ = (i * t.d * 1048576 + t.n * 1048576) * y := by rw [Nat.mul_right_comm, Nat.add_mul]
        _ = (i * t.d * 1048576 + fix t * t.d) * y := by rw [a]
        _ = ((i * 1048576 + fix t) * t.d) * y := by rw [Nat.add_mul (i * 1048576), Nat.mul_right_comm]
        _ = (i * 1048576 + fix t) * (t.d * y) := by rw [Nat.mul_assoc]
    exact Nat.eq_of_mul_eq_mul_right (Nat.mul_pos g.pos pd) h
  rw [← key, Nat.mul_div_cancel _ hp]
theorem dvd20 {t : Th} {n : Nat} (h : t.d ∣ 2 ^ n) (hn : n ≤ 20) : t.d ∣ 1048576 := Nat.dvd_trans h (show 2 ^ n ∣ 2 ^ 20 from Nat.pow_dvd_pow 2 hn)
theorem T_dvd20 {gs : List (Nat × Rule)} (r : Rule) (h : total gs ≤ 19) (i : Nat) : (sel (T r gs) i).d ∣ 1048576 := dvd20 (T_den gs r i) (by omega)
/-- what the law's split says -/
theorem split_eq (r : Rule) (f par : Nat) (hp : par < 2) : lastDown r (f + 1) par =
    match r with
    | .down => 2 ^ (f + 1) - 1
    | .up => 0
    | .odd => if par = 0 then 0 else 2 ^ (f + 1) - 1
    | .hdown => 2 ^ f
    | .hup => 2 ^ f - 1
    | .heven => if par = 0 then 2 ^ f else 2 ^ f - 1 := by
  have h2 : par = 0 ∨ par = 1 := by omega
  rcases h2 with rfl | rfl <;> cases r
  · exact ld_never rfl _
  · exact ld_tieDown rfl _
  · exact ld_tieDown rfl _
  · exact ld_tieUp rfl _
  · exact ld_always rfl _
  · exact ld_always rfl _
  · exact ld_never rfl _
  · exact ld_tieDown rfl _
  · exact ld_tieUp rfl _
  · exact ld_tieUp rfl _
  · exact ld_never rfl _
  · exact ld_always rfl _
/-! ### chains of given length -/
theorem toC_front : ∀ (gs : List (Nat × Rule)) (w : Nat) (r : Rule) (g : Nat) (r' : Rule), toC w r (gs ++ [(g, r')]) = (w + total gs + g, r') :: toC w r gs
  | [], w, r, g, r' => by simp [toC, total]
  | (g0, r0) :: gs, w, r, g, r' => by
    rw [List.cons_append]
    show toC (w + g0) r0 (gs ++ [(g, r')]) ++ [(w, r)] = _
    rw [toC_front gs]
    show _ = (w + total ((g0, r0) :: gs) + g, r') :: (toC (w + g0) r0 gs ++ [(w, r)])
    rw [List.cons_append]
    have e : total ((g0, r0) :: gs) = g0 + total gs := by unfold total; rw [List.map_cons, List.sum_cons]
    rw [e, Nat.add_assoc w g0 (total gs)]
theorem total_app (gs : List (Nat × Rule)) (g : Nat) (r : Rule) : total (gs ++ [(g, r)]) = total gs + g := by
  unfold total
  rw [List.map_append, List.sum_append]
  simp
end SR
set_option Elab.async false
set_option linter.all false
set_option maxRecDepth 100000
set_option maxHeartbeats 4000000
namespace K69
open PySem PySem.Spec PyProof.Rows L2
/-! ### the text by places -/
def topS (i : Nat) : Stmt := PySem.Challenge.pw_stagedrounding_k69_whole_no_shorter_chai.main.body.getD i (.Pass ⟨0, 0, 0, 0⟩)

/-! ### a def of the text, its promise -/
/-- a def stands behind the top as the text says -/
structure Df (K : PySem.W.Frag) (mg : Str → Option Value) (x : Str) (st : Stmt) (ps : List Str) : Prop where
  ex : ∃ (f : Addr) (fd : FuncData), Fun K x x st f fd ∧ mg x = some (.ref f) ∧ Binds K fd ps []
structure Fx (P : Program) (w : World) (K : PySem.W.Frag) (mg : Str → Option Value) (base : Heap) (k : Nat) (x : Str) (ps : List Str) (sp : Sp) : Prop where
  ex : ∃ (f : Addr) (fd : FuncData), FnOk P w K mg base CX0 k f fd ps sp ∧ mg x = some (.ref f) ∧ PySem.W.keepIn K (.ref f) = true ∧ Binds K fd ps []
section
variable {P : Program} {w : World} {K : PySem.W.Frag} {mg : Str → Option Value} {base : Heap} {k : Nat} {x : Str} {st : Stmt} {ps : List Str} {sp : Sp}
theorem Df.fx (D : Df K mg x st ps) (h : ∀ f fd, Fun K x x st f fd → FnOk P w K mg base CX0 k f fd ps sp) : Fx P w K mg base k x ps sp := by
  obtain ⟨f, fd, F, m, b⟩ := D.ex
  exact ⟨f, fd, h f fd F, m, F.kp, b⟩
/-- the rule for a def: its scope, its body -/
theorem Df.ok {N : List Str} (D : Df K mg x st ps) (S : FnScope N ps (defScope st)) (len : ∀ vs H Q E, sp vs H Q E → vs.length = ps.length)
    (hbody : ∀ (f : Addr) (cdv : Value) (A : Around) (outer : List Env) (s : Shared) (H : Hp) (vs : List V) (Q : VK) (E : XK), Room k (A.deeper (envOfC x (defScope st) s.heap.objs.size f cdv)) → sp vs H Q E →
      ∃ t, PSs (cxOf CX0 P w K mg base N x (defScope st) f cdv A outer s H E).nox (defBody st) t ∧ t { nx := fun _ H' => Q .non H', rt := Q } (start N vs) H) : Fx P w K mg base (k + 1) x ps sp :=
  D.fx fun f fd F => F.ok S len fun cdv A outer s H vs Q E hr h => hbody f cdv A outer s H vs Q E hr h
theorem Fx.mono {j : Nat} (F : Fx P w K mg base j x ps sp) (h : j ≤ k) : Fx P w K mg base k x ps sp := by
  obtain ⟨f, fd, G, r⟩ := F.ex
  exact ⟨f, fd, G.mono h, r⟩
theorem Fx.imp {sp' : Sp} (F : Fx P w K mg base k x ps sp) (h : ∀ vs H Q E, sp' vs H Q E → sp vs H Q E) : Fx P w K mg base k x ps sp' := by
  obtain ⟨f, fd, G, r⟩ := F.ex
  exact ⟨f, fd, G.imp h, r⟩
end
section
variable {X : Cx} {k : Nat} {x : Str} {ps : List Str} {sp : Sp} {p pos : Pos} {e : Expr} {es : List Expr} {t : TA}
/-- the call of such a def -/
theorem pe_fx (F : Fx X.prog X.w X.K X.mg X.base k x ps sp) (hr : Room k X.A) (ha : PA X (e :: es) t) (hg : Gl X x := by rfl) (hdb : (x == ("__debug__" : Str)) = false := by decide)
    (he : starEach (e :: es) X.env = (false, eval e X.env) :: starEach es X.env := by rfl) (hpl : (backTo pos (starEach es X.env)).any (·.1) = false := by rfl) : PE X (.Call (.Name x p) (e :: es) [] pos) (tCall sp [] E0 t) := by
  obtain ⟨f, fd, G, m, kp, b⟩ := F.ex
  exact pe_call G hr hg m kp b .nil pass0 ha hdb he hpl
end
/-- what was tracked stays: a new object -/
theorem same_new {H : Hp} {p : Addr} (h : H p = none) (o : HO) : Same H (upd H p o) := fun b u q => by rw [upd_ne (ne_of_none q h)]; exact q
theorem small {n : Nat} (h : n ≤ 1000) : n ≤ sizeLine := Nat.le_of_lt (small1000 h)
/-- the built-in names that the module doesn't bind -/
structure Blt (mg : Str → Option Value) : Prop where
  len : mg "len" = none
  range : mg "range" = none
  min : mg "min" = none
  max : mg "max" = none
  abs : mg "abs" = none
  int : mg "int" = none
  bool : mg "bool" = none
  str : mg "str" = none
  tuple : mg "tuple" = none
  isinstance : mg "isinstance" = none
  all : mg "all" = none
  any : mg "any" = none
  zip : mg "zip" = none
  enumerate : mg "enumerate" = none
  sorted : mg "sorted" = none

/-! ### is_int, common_divisor, lowest -/
abbrev sIsInt : Stmt := topS 5
theorem scIsInt : FnScope ["value", "least"] ["value", "least"] (defScope sIsInt) := ⟨rfl, rfl, rfl, by decide +kernel, rfl, by decide +kernel, by decide +kernel⟩
abbrev sGcd : Stmt := topS 6
theorem scGcd : FnScope ["one", "other"] ["one", "other"] (defScope sGcd) := ⟨rfl, rfl, rfl, by decide +kernel, rfl, by decide +kernel, by decide +kernel⟩
abbrev sLowest : Stmt := topS 7
theorem scLowest : FnScope ["n", "d", "divisor"] ["n", "d"] (defScope sLowest) := ⟨rfl, rfl, rfl, by decide +kernel, rfl, by decide +kernel, by decide +kernel⟩

def spGcd : Sp := fun vs H Q _ => ∃ a b : Nat, vs = [.int a, .int b] ∧ Q (.int (Nat.gcd a b : Nat)) H
section
variable {P : Program} {w : World} {K : PySem.W.Frag} {mg : Str → Option Value} {base : Heap}
theorem ok_gcd (D : Df K mg "common_divisor" sGcd ["one", "other"]) : Fx P w K mg base 1 "common_divisor" ["one", "other"] spGcd := by
  refine D.ok scGcd (fun vs H Q E h => ?_) (fun f cdv A outer s H vs Q E hr h => ?_)
  · obtain ⟨a, b, rfl, _⟩ := h
    rfl
  obtain ⟨a, b, rfl, q⟩ := h
  refine ⟨_, pss_cons (ps_while PassesOwn.never (pt_cmpR op_ne (pv 1) pe_int (nomark _)) (pss_one (ps_par (i := 0) (j := 1) (by rfl) scGcd.nd rfl rfl (by decide) rfl rfl (pa_cons (pv 1) (pa_cons (pe_op op_mod (pv 0) (pv 1)) pa_nil)) (by rfl)))) (pss_one (ps_ret (pv 0))), ?_⟩
  refine while_by (fun σ H' => ∃ x y : Nat, σ = [some (.int x), some (.int y)] ∧ H' = H ∧ Nat.gcd x y = Nat.gcd a b) (fun σ _ => match σ with | [_, some (.int y)] => y.toNat | _ => 0) ⟨a, b, rfl, rfl, rfl⟩ (fun σ H' h => ?_) (fun σ H Q Q' hQ h => ?_)
  · obtain ⟨x, y, rfl, rfl, e⟩ := h
    refine ⟨_, rfl, rfl, _, rfl, ?_⟩
    by_cases hy : y = 0
    · subst hy
      refine iteF ⟨_, rfl, ?_⟩
      rw [Nat.gcd_zero_right] at e
      rw [← e] at q
      exact q
    · have e1 : (!decide (V.int (y : Int) = V.int 0)) = true := by
        rw [decide_eq_false (fun z => hy (by have := V.int.inj z; omega))]
        rfl
      rw [e1]
      refine iteT ⟨_, rfl, _, rfl, _, rfl, _, _, rfl, rfl, by omega, _, _, rfl, ⟨y, x % y, rfl, rfl, ?_⟩, ?_⟩
      · rw [← e, Nat.gcd_comm x y, Nat.gcd_rec y x, Nat.gcd_comm]
      · show ((((x : Int) % (y : Int))).toNat) < ((y : Int)).toNat
        have : ((x : Int) % (y : Int)) = ((x % y : Nat) : Int) := rfl
        rw [this, Int.toNat_natCast, Int.toNat_natCast]
        exact Nat.mod_lt _ (Nat.pos_of_ne_zero hy)
  · obtain ⟨v, e, s, k, ek, q⟩ := h
    exact ⟨v, e, s, k, ek, hQ _ _ q⟩
def spLowest : Sp := fun vs H Q _ => ∃ a b : Nat, vs = [.int a, .int b] ∧ 0 < b ∧ Nat.gcd a b < 1073741824 ∧ ∀ p H', Same H H' → H' p = some (.tup [.int (a / Nat.gcd a b : Nat), .int (b / Nat.gcd a b : Nat)]) → Q (.ref p) H'
theorem ok_lowest (D : Df K mg "lowest" sLowest ["n", "d"]) (G : Fx P w K mg base 1 "common_divisor" ["one", "other"] spGcd) : Fx P w K mg base 2 "lowest" ["n", "d"] spLowest := by
  refine D.ok scLowest (fun vs H Q E h => ?_) (fun f cdv A outer s H vs Q E hr h => ?_)
  · obtain ⟨a, b, rfl, _⟩ := h
    rfl
  obtain ⟨a, b, rfl, hb, hs, q⟩ := h
  refine ⟨_, pss_cons (ps_set (i := 2) scLowest.nd rfl (.inl rfl) (pe_fx G hr (pa_cons (pv 0) (pa_cons (pv 1) pa_nil))))
    (pss_one (ps_ret (pe_tup (pa_cons (pe_op op_fdivNN (pv 0) (pv 2)) (pa_cons (pe_op op_fdivNN (pv 1) (pv 2)) pa_nil))))), ?_⟩
  have hg : 0 < Nat.gcd a b := Nat.gcd_pos_of_pos_right a hb
  refine ⟨_, rfl, _, rfl, a, b, rfl, _, rfl, _, rfl, _, _, rfl, rfl, ⟨by omega, by omega⟩, _, rfl, _, rfl, _, _, rfl, rfl, ⟨by omega, by omega⟩, (by show 2 ≤ sizeLine; decide), fun p hp => q _ _ (same_new hp _) upd_same⟩
end
end K69
set_option Elab.async false
set_option linter.all false
set_option maxRecDepth 100000
set_option maxHeartbeats 4000000
namespace L2
open PySem PySem.Spec PyProof.Rows
/-! ### data: what stays, a < b, min, max -/
theorem Same.tup {K : PySem.W.Frag} {H H' : Hp} {a : Addr} {xs : List V} (e : Same H H') (h : SqT K H a xs) : SqT K H' a xs := by
  rcases h with (h | ⟨o, h⟩) | h
  · exact .inl (.inl (e _ _ h))
  · exact .inl (.inr ⟨o, e _ _ h⟩)
  · exact .inr h
mutual
theorem Dp.same {K : PySem.W.Frag} {H H' : Hp} (e : Same H H') : ∀ (d : PyData) (v : V), Dp K H v d → Dp K H' v d
  | .none, _, h => by cases h; exact .non
  | .bool _, _, h => by cases h; exact .bl _
  | .int _, _, h => by cases h; exact .int _
  | .str _, _, h => by cases h; exact .str _
  | .list ds, _, h => by
    cases h with
    | lst hs ha => exact .lst (Same.seq e hs) (DpAll.same e ds _ ha)
  | .tuple ds, _, h => by
    cases h with
    | tup hs ha => exact .tup (Same.tup e hs) (DpAll.same e ds _ ha)
  | .dict _, _, h => by cases h
theorem DpAll.same {K : PySem.W.Frag} {H H' : Hp} (e : Same H H') : ∀ (ds : List PyData) (vs : List V), DpAll K H vs ds → DpAll K H' vs ds
  | [], _, h => by cases h; exact .nil
  | d :: ds, _, h => by
    cases h with
    | cons h1 h2 => exact .cons (Dp.same e d _ h1) (DpAll.same e ds _ h2)
end
theorem DpAll.len {K : PySem.W.Frag} {H : Hp} : ∀ {vs : List V} {ds : List PyData}, DpAll K H vs ds → vs.length = ds.length
  | _, _, .nil => rfl
  | _, _, .cons _ h => congrArg (· + 1) (DpAll.len h)
theorem DpAll.get {K : PySem.W.Frag} {H : Hp} : ∀ {vs : List V} {ds : List PyData} {i : Nat} {v : V}, DpAll K H vs ds → vs[i]? = some v → ∃ d, ds[i]? = some d ∧ Dp K H v d
  | _, _, _, _, .nil, h => by simp at h
  | _, _, 0, _, .cons h1 _, h => by simp at h; subst h; exact ⟨_, rfl, h1⟩
  | _, _, i + 1, _, .cons _ h2, h => by
    obtain ⟨d, e, q⟩ := DpAll.get (i := i) h2 (by simpa using h)
    exact ⟨d, by simpa using e, q⟩
theorem DpAll.append {K : PySem.W.Frag} {H : Hp} : ∀ {vs ws : List V} {ds es : List PyData}, DpAll K H vs ds → DpAll K H ws es → DpAll K H (vs ++ ws) (ds ++ es)
  | _, _, _, _, .nil, h => h
  | _, _, _, _, .cons h1 h2, h => .cons h1 (DpAll.append h2 h)
theorem DpAll.drop {K : PySem.W.Frag} {H : Hp} : ∀ {vs : List V} {ds : List PyData} (n : Nat), DpAll K H vs ds → DpAll K H (vs.drop n) (ds.drop n)
  | _, _, 0, h => h
  | _, _, _ + 1, .nil => .nil
  | _, _, n + 1, .cons _ h => DpAll.drop n h
theorem DpAll.take {K : PySem.W.Frag} {H : Hp} : ∀ {vs : List V} {ds : List PyData} (n : Nat), DpAll K H vs ds → DpAll K H (vs.take n) (ds.take n)
  | _, _, 0, _ => .nil
  | _, _, _ + 1, .nil => .nil
  | _, _, n + 1, .cons h1 h => .cons h1 (DpAll.take n h)
theorem Dp.tuple_inv {K : PySem.W.Frag} {H : Hp} {v : V} {ds : List PyData} (h : Dp K H v (.tuple ds)) : ∃ a xs, v = .ref a ∧ SqT K H a xs ∧ DpAll K H xs ds := by
  cases h with
  | tup h1 h2 => exact ⟨_, _, rfl, h1, h2⟩
theorem Dp.list_inv {K : PySem.W.Frag} {H : Hp} {v : V} {ds : List PyData} (h : Dp K H v (.list ds)) : ∃ a xs, v = .ref a ∧ SqL K H a xs ∧ DpAll K H xs ds := by
  cases h with
  | lst h1 h2 => exact ⟨_, _, rfl, h1, h2⟩
theorem Dp.int_inv {K : PySem.W.Frag} {H : Hp} {v : V} {i : Int} (h : Dp K H v (.int i)) : v = .int i := by cases h; rfl
theorem Dp.str_inv {K : PySem.W.Frag} {H : Hp} {v : V} {i : Str} (h : Dp K H v (.str i)) : v = .str i := by cases h; rfl
theorem Dp.non_inv {K : PySem.W.Frag} {H : Hp} {v : V} (h : Dp K H v .none) : v = .non := by cases h; rfl
theorem DpAll.two {K : PySem.W.Frag} {H : Hp} {vs : List V} {d e : PyData} (h : DpAll K H vs [d, e]) : ∃ x y, vs = [x, y] ∧ Dp K H x d ∧ Dp K H y e := by
  cases h with
  | cons h1 h2 =>
    cases h2 with
    | cons h3 h4 => cases h4; exact ⟨_, _, rfl, h1, h3⟩
/-- a pair, taken apart -/
theorem Dp.pair_inv {K : PySem.W.Frag} {H : Hp} {v : V} {d e : PyData} (h : Dp K H v (.tuple [d, e])) : ∃ a x y, v = .ref a ∧ SqT K H a [x, y] ∧ Dp K H x d ∧ Dp K H y e := by
  obtain ⟨a, xs, rfl, h1, h2⟩ := h.tuple_inv
  obtain ⟨x, y, rfl, h3, h4⟩ := h2.two
  exact ⟨a, x, y, rfl, h1, h3, h4⟩
theorem Dp.mkPair {K : PySem.W.Frag} {H : Hp} {p : Addr} {x y : V} {d e : PyData} (h : H p = some (.tup [x, y])) (h1 : Dp K H x d) (h2 : Dp K H y e) : Dp K H (.ref p) (.tuple [d, e]) :=
  .tup (SqT.of h) (.cons h1 (.cons h2 .nil))
/-- a new tuple of data -/
theorem Dp.newTup {K : PySem.W.Frag} {H : Hp} {p : Addr} {xs : List V} {ds : List PyData} (hp : H p = none) (h : DpAll K H xs ds) : Dp K (upd H p (.tup xs)) (.ref p) (.tuple ds) :=
  .tup (SqT.of upd_same) (DpAll.same (K69.same_new hp _) _ _ h)
theorem Dp.newLst {K : PySem.W.Frag} {H : Hp} {p : Addr} {xs : List V} {ds : List PyData} (hp : H p = none) (h : DpAll K H xs ds) : Dp K (upd H p (.lst xs)) (.ref p) (.list ds) :=
  .lst (SqL.of upd_same) (DpAll.same (K69.same_new hp _) _ _ h)

/-- the fold of min stays among the items -/
theorem fold_mem {f : PyData → PyData → Bool} : ∀ (l : List PyData) (x : PyData), l.foldl (fun a y => if f y a then y else a) x ∈ x :: l
  | [], x => by simp
  | b :: l, x => by
    rw [List.foldl_cons]
    have h := fold_mem (f := f) l (if f b x then b else x)
    generalize l.foldl (fun a y => if f y a then y else a) (if f b x then b else x) = z at h ⊢
    rcases List.mem_cons.mp h with q | q
    · rw [q]
      split <;> simp
    · simp [q]
end L2

namespace K69
open PySem PySem.Spec PyProof.Rows L2
section
variable {X : Cx}
/-- data that read the same value are the same -/
theorem dp_unique {pins : List (Addr × Obj)} {σ : L2.St} {H : Hp} {s : Shared} (I : Inv X pins σ H s) {v : V} {u : Value} {d e : PyData} {as : List Addr} (h : Dp X.K H v d) (r : RelV v u) (q : Reads s.heap u e as) (ha : PySem.W.alike d e = true) : d = e := by
  obtain ⟨bs, p⟩ := Dp.reads I d v u h r
  exact PySem.W.alike_unique d e u bs as ha p q

def rLtD (K : PySem.W.Frag) : R2 := fun x y H Q => ∃ d e, Dp K H x d ∧ Dp K H y e ∧ PySem.W.alike d e = true ∧ d ≠ .none ∧ d.depth ≤ 64 ∧ Q (.bl (PySem.W.dataLt d e)) H
theorem op_ltD (hu : X.A.units + 64 < cLine) : OpR X (compareOp .Lt) (rLtD X.K) := by
  intro pins s σ H x y v u Q I rx ry h
  obtain ⟨d, e, hd, he, ha, hn, hz, q⟩ := h
  obtain ⟨as, r1⟩ := Dp.reads I d x v hd rx
  obtain ⟨bs, r2⟩ := Dp.reads I e y u he ry
  exact PySem.W.rcLt_alike d e X.A s v u as bs r1 r2 ha hn (by have := Nat.min_le_left d.depth e.depth; omega) X.prog X.w X.xe _ ⟨.bl _, H, I, rfl, q⟩

def rMinD (K : PySem.W.Frag) : List V → Hp → VK → Prop := fun vs H Q => ∃ (a : Addr) (xs : List V) (d : PyData) (ds : List PyData), vs = [V.ref a] ∧ SqL K H a xs ∧ DpAll K H xs (d :: ds) ∧ PySem.W.AlikeAll (d :: ds) ∧ PyData.depthAll (d :: ds) ≤ 60 ∧
  ∀ v, Dp K H v (PySem.W.minD d ds) → Q v H
theorem cr_minD (hc : X.calm = true) (hu : X.A.units + 64 < cLine) : CallR X (.builtin "min") (rMinD X.K) := by
  intro pins s σ H vs us Q I r h
  obtain ⟨a, xs, d, ds, rfl, hs, hd, hal, hz, q⟩ := h
  obtain ⟨its, rv, hl, _⟩ := I.list hs
  rw [Vals.ref1 r]
  obtain ⟨as, hr⟩ := Dp.readsAll I (d :: ds) xs its hd rv
  refine PySem.W.min_list_data (vs := its.toArray) (I.ok.hd hc) hl.isList (by simpa using hr) hal (by omega) fun i v h' tk bs hv hrd hk => ?_
  have hv' : its[i]? = some v := by simpa using hv
  cases hx : xs[i]? with
  | none => rw [Vals.none_of rv hx] at hv'; cases hv'
  | some x =>
    obtain ⟨u, e, ru⟩ := rv.get hx
    rw [hv'] at e
    cases e
    obtain ⟨e, he, hde⟩ := hd.get hx
    have I' : Inv X pins σ H { s with heap := h', toks := tk } := I.kept hk
    have hm : PySem.W.minD d ds ∈ d :: ds := fold_mem ds d
    have e2 := dp_unique I' hde ru hrd (hal.1 e (List.mem_of_getElem? he) _ hm)
    exact ⟨x, H, I', ru, q x (by rw [← e2]; exact hde)⟩
/-- max(xs, default=n), xs whole numbers -/
def rMaxDef (K : PySem.W.Frag) : List V → List V → Hp → VK → Prop := fun vs zs H Q => ∃ (a : Addr) (ns : List Int) (n : Int), vs = [V.ref a] ∧ zs = [.int n] ∧ SqL K H a (ns.map V.int) ∧
  Q (.int (match ns with | [] => n | m :: ms => ms.foldl max m)) H
theorem dpAll_ints {K : PySem.W.Frag} {H : Hp} : ∀ ns : List Int, DpAll K H (ns.map V.int) (ns.map PyData.int)
  | [] => .nil
  | n :: ns => .cons (.int n) (dpAll_ints ns)
theorem depthAll_ints : ∀ ns : List Int, PyData.depthAll (ns.map PyData.int) = 0
  | [] => by simp [PyData.depthAll]
  | n :: ns => by simp [PyData.depthAll, PyData.depth, depthAll_ints ns]
theorem cr_maxDef (hc : X.calm = true) (hu : X.A.units + 64 < cLine) : CallRK X (.builtin "max") [Str.ofString "default"] (rMaxDef X.K) := by
  intro pins s σ H vs us zs ws Q I r rz h
  obtain ⟨a, ns, n, rfl, rfl, hs, q⟩ := h
  obtain ⟨its, rv, hl, _⟩ := I.list hs
  rw [Vals.ref1 r]
  obtain ⟨as, hr⟩ := Dp.readsAll I (ns.map PyData.int) (ns.map V.int) its (dpAll_ints ns) rv
  obtain ⟨uz, rfl, hz⟩ := vals1 rz
  obtain ⟨t, rfl⟩ := hz
  refine PySem.W.max_list_default (d := .int n t) (vs := its.toArray) (I.ok.hd hc) hl.isList (by simpa using hr) ⟨fun x hx y hy => ?_, fun x hx => ?_⟩ (by rw [depthAll_ints]; omega) (fun e h' tk hk => ?_) fun y ys i v h' tk bs e hv hrd hk => ?_
  · obtain ⟨i, _, rfl⟩ := List.mem_map.mp hx
    obtain ⟨j, _, rfl⟩ := List.mem_map.mp hy
    rfl
  · obtain ⟨i, _, rfl⟩ := List.mem_map.mp hx
    exact fun z => by cases z
  · have : ns = [] := List.map_eq_nil_iff.mp e
    subst this
    exact ⟨.int n, H, I.kept hk, ⟨t, rfl⟩, q⟩
  · cases ns with
    | nil => cases e
    | cons m ms =>
      obtain ⟨e1, e2⟩ := List.cons.inj e
      rw [← e1, ← e2, PySem.W.maxD_ints] at hrd
      cases hrd with
      | int _ t' => exact ⟨.int (ms.foldl max m), H, I.kept hk, ⟨t', rfl⟩, q⟩
end
end K69
set_option Elab.async false
set_option linter.all false
set_option maxRecDepth 100000
set_option maxHeartbeats 4000000
/-! enumerate over a tuple -/
namespace PySem
open AutoSeq1 (wpAny_loadPart')
theorem k69_enumerate_newT (l : Addr) (items : Array Value) :
    Meets (Builtin.«enumerate.__new__» ⟨[.type "enumerate", .ref l], []⟩) (fun _ R s => s.heap.IsTuple l items ∧
      R (.ok (.ret (.ref (s.heap.push { cls := .type "tuple_iterator", data := .fields #[.ref l, .int 0 0] }).objs.size)))
        { s with heap := (s.heap.push { cls := .type "tuple_iterator", data := .fields #[.ref l, .int 0 0] }).push { cls := .type "enumerate", data := .fields #[.none, .bool false, .ref s.heap.objs.size, rawInt 0, .none, .none] } }) :=
  .of_wp fun prog w A R s h => by
    obtain ⟨hp, g, d, tk, os⟩ := s; obtain ⟨hL, h⟩ := h
    have hsub := sub_enumerate
    have q1 : ∀ {A' : Around} {E : Value → Shared → Prop} {Q : Value → Shared → Prop}, Q (.ref hp.objs.size) ⟨hp.push { cls := .type "tuple_iterator", data := .fields #[.ref l, .int 0 0] }, g, d, tk, os⟩ → wpAny (model prog w) A' (pyIter (.ref l)) Q E ⟨hp, g, d, tk, os⟩ :=
      fun q => (begins_tuple l items).iter prog w _ _ ⟨hp, g, d, tk, os⟩ _ hL q
    wp_walk using q1
    refine wpAny_stack_any fun st => wpAny_pure ?_
    split
    · rename_i c _ _ _ _ _
      cases (c == Value.type "enumerate")
      · wp_walk using q1
        exact ⟨_, rfl, h⟩
      · wp_walk using q1
        exact ⟨_, rfl, h⟩
    · wp_walk using q1
      exact ⟨_, rfl, h⟩
theorem k69_call_enumerate_tuple {prog : Program} {w : World} {A : Around} {E : Value → Shared → Prop} {s : Shared} {l : Addr} {items : Array Value} {Q : Value → Shared → Prop} (hL : s.heap.IsTuple l items)
    (h : ∀ h', IsEnum h' (s.heap.objs.size + 1) s.heap.objs.size 0 .none → h'.IsTupleIter s.heap.objs.size l 0 → h'.objs.size = s.heap.objs.size + 2 →
      (∀ b o, s.heap.get? b = some o → h'.get? b = some o) → Q (.ref (s.heap.objs.size + 1)) { s with heap := h' }) :
    wpAny (model prog w) A (call (.type "enumerate") [.ref l]) Q E s := by
  refine callType_new F.called_enumerate (by decide) (F.typeCall_enumerate_1 _) (F.newCall_enumerate_1 _) (fun obj => F.args_object_init_2 obj _) F.entry_enumerate_new
    (k69_enumerate_newT l items) ⟨hL, ?_⟩
  have hz : (s.heap.push { cls := .type "tuple_iterator", data := .fields #[.ref l, .int 0 0] }).objs.size = s.heap.objs.size + 1 := Heap.size_push ..
  show _ ∧ _
  rw [hz]
  have he : IsEnum ((s.heap.push { cls := .type "tuple_iterator", data := .fields #[.ref l, .int 0 0] }).push
      { cls := .type "enumerate", data := .fields #[.none, .bool false, .ref s.heap.objs.size, rawInt 0, .none, .none] }) (s.heap.objs.size + 1) s.heap.objs.size 0 .none := by
    have := Heap.get?_push_size (s.heap.push { cls := .type "tuple_iterator", data := .fields #[.ref l, .int 0 0] })
      (o := { cls := .type "enumerate", data := .fields #[.none, .bool false, .ref s.heap.objs.size, rawInt 0, .none, .none] }) rfl
    rw [hz] at this; exact this
  refine ⟨⟨_, he, rfl⟩, h _ he ⟨_, Heap.get?_push_of_some _ (Heap.get?_push_size _ rfl), rfl, rfl⟩ (by rw [Heap.size_push, hz]) fun b o x => Heap.get?_push_of_some _ (Heap.get?_push_of_some _ x)⟩
end PySem

namespace K69
open PySem PySem.Spec PyProof.Rows L2
/-- the tuple at a as it stands at each turn, its items in new pairs (index, item) -/
def IteT (K : PySem.W.Frag) (a : Addr) : It :=
  ⟨fun i H => ∃ (xs : List V) (x : V), SqT K H a xs ∧ xs[i]? = some x, fun i H v H' => ∃ T x, v = .ref T ∧ H T = none ∧ H' = upd H T (.tup [.int (i : Nat), x]) ∧ ∀ xs, SqT K H a xs → xs[i]? = some x, fun i H => ∃ xs : List V, SqT K H a xs ∧ xs.length ≤ i⟩
theorem turn_enumT {P : Program} {w : World} {K : PySem.W.Frag} {elts : List Expr} {kk : Nat} {tpos : Pos} (a e it : Addr) :
    Turn P w K (.Tuple elts kk tpos) (IteT K a) [e, it] e (fun i h => (∃ old, IsEnum h e it ((i : Nat) : Int) old) ∧ h.IsTupleIter it a i ∧ e ≠ it ∧ a ≠ it ∧ a ≠ e) where
  mem := by simp
  obj := fun i h st b hb => by
    obtain ⟨⟨old, he⟩, ⟨o, ho, hc, hd⟩, _⟩ := st
    have e' : b = e ∨ b = it := by simpa using hb
    rcases e' with z | z
    · rw [z]; exact ⟨_, he, fun v q => nomatch q⟩
    · rw [z]; exact ⟨o, ho, fun v q => by rw [hd] at q; cases q⟩
  keep := fun i h h' st k => let ⟨⟨old, he⟩, hi, hne⟩ := st; ⟨⟨old, k e (by simp) _ he⟩, hi.at fun o q => k it (by simp) o q, hne⟩
  item := by
    intro X hP hw hK hc i pins s σ H E I hf st hg
    subst hP hw hK
    obtain ⟨⟨old, he⟩, hit, hne, hai, hae⟩ := st
    obtain ⟨xs, x, hq, hx⟩ := hg
    obtain ⟨its, rv, p, hz⟩ := I.tuple hq
    obtain ⟨u, hu, ru⟩ := rv.get hx
    have hel : e < s.heap.objs.size := Heap.lt_size he
    have hil : it < s.heap.objs.size := by obtain ⟨_, q, _⟩ := hit; exact Heap.lt_size q
    have hlt : i < its.toArray.size := by
      have := (List.getElem?_eq_some_iff.mp hu).1
      simpa using this
    have hT0 : s.heap.IsTuple a its.toArray := by
      obtain ⟨o, ho, h1, n, h2⟩ := p
      exact ⟨o, ho, h1, n, h2⟩
    refine wpAny_pyNext_enum_itemD (Draws.tuple (A := X.A.in1) (I.ok.hd hc) it a hai its.toArray) he ⟨hit, hT0⟩ hlt hne (by
      intro hm
      rcases List.mem_cons.mp hm with q | q
      · exact hne q
      · exact hae (List.mem_singleton.mp q).symm) fun x' h' tk hPx ho hit' hT hsz hk => ?_
    have hxu : x' = u := by
      have : its.toArray[i]? = some u := by simpa using hu
      rw [this] at hPx
      exact (Option.some.inj hPx).symm
    subst hxu
    refine ⟨_, rfl, wpAny_letOwnedTupleGo_enum (s := { s with heap := h', toks := tk + 1 }) ho fun h'' he' sb => ?_⟩
    have hT2 : h''.get? s.heap.objs.size = some { cls := .type "tuple", data := .seq #[.int i tk, x'] } := (sb.2 _ (Nat.ne_of_gt hel)).trans hT
    have new : ObjOk X.prog X.w (upd H s.heap.objs.size (.tup [.int (i : Nat), x])) h'' s.heap.objs.size (.tup [.int (i : Nat), x]) :=
      ⟨by show 2 ≤ sizeLine; decide, [.int i tk, x'], .cons ⟨_, rfl⟩ (.cons ru .nil), ⟨_, hT2, rfl, _, rfl⟩⟩
    have I1 : Inv X pins σ (upd H s.heap.objs.size (.tup [.int (i : Nat), x])) { s with heap := h'', toks := tk + 1 } :=
      I.turnedNew (ch := [e, it]) (fun b ob hb q => (sb.2 b (fun z => hb (by simp [z]))).trans (hk b ob (fun z => hb (by simp [z])) (fun z => hb (by simp [z])) q)) hf (Nat.le_refl _) new
    refine ⟨.ref s.heap.objs.size, _, I1, rfl, ⟨_, x, rfl, I.hok.fresh (Nat.le_refl _), rfl, fun ys hy => by rw [I.tuple_inj hy hq]; exact hx⟩, ⟨⟨x', ?_⟩, hit'.1.at fun o q => (sb.2 it (Ne.symm hne)).trans q, hne, hai, hae⟩, fun b hb => ?_⟩
    · have e1 : ((i + 1 : Nat) : Int) = (i : Int) + 1 := by omega
      rw [e1]; exact he'
    · have hb' : b < s.heap.objs.size := by
        have e' : b = e ∨ b = it := by simpa using hb
        rcases e' with z | z
        · rw [z]; exact hel
        · rw [z]; exact hil
      rw [upd_ne (Nat.ne_of_lt hb')]
      exact (hf b hb).1
  done := by
    intro X hP hw hK hc i pins s σ H E I hf st hg
    subst hP hw hK
    obtain ⟨⟨old, he⟩, hit, hne, hai, hae⟩ := st
    obtain ⟨xs, hq, hx⟩ := hg
    obtain ⟨its, rv, p, hz⟩ := I.tuple hq
    obtain ⟨f0, f1, f2, f3, f4, f5⟩ := hf it (by simp)
    have hl := rv.length
    have hT0 : s.heap.IsTuple a its.toArray := by
      obtain ⟨o, ho, h1, n, h2⟩ := p
      exact ⟨o, ho, h1, n, h2⟩
    obtain ⟨old', he'⟩ : ∃ old', IsEnum s.heap e it ((i : Nat) : Int) old' := ⟨old, he⟩
    have hT : s.TypeIs (.ref e) "enumerate" := ⟨_, he, rfl⟩
    unfold pyNext
    refine wpAny_bind (wpAny_attempt (wpAny_callSpecial?_slot (name := Str.ofString "__next__") hT F.slot_enumerate_next
      (wpAny_call_entry F.slot_enumerate_next hT F.entry_enumerate_next ?_ (F.args_enumerate_next_1 _))))
    show wpAny _ _ (field (.ref e) 2 >>= _) _ _ _
    refine wpAny_bind (wpAny_field he rfl (x := .ref it) rfl ?_)
    refine wpAny_bind (wpAny_nextOf_tuple_end (I.ok.hd hc) hit hT0 (by simp; omega) fun h' x hx1 hx' => ?_)
    obtain ⟨o, ho, hc'⟩ := hx'
    refine wpAny_bind (wpAny_isInstance (T := "StopIteration") (b := true) ⟨o, ho, hc'⟩ isSubtype_stop ?_)
    exact wpAny_pure ⟨rfl, I.turned (t' := s.toks) (fun b o hb q => hx1 b o hb q) f0 f1 f3 f4 f5⟩
  self := fun A i s Q E st h => let ⟨⟨_, he⟩, _⟩ := st; wpAny_pyIter_enum he h
def iEnumT (K : PySem.W.Frag) (ta : TA) : TI := fun σ H R => ta σ H fun vs H1 => ∃ a xs, vs = [.ref a] ∧ SqT K H1 a xs ∧ R (IteT K a) H1
theorem pi_enumT {X : Cx} {e : Expr} {ta : TA} {p pos tpos : Pos} {elts : List Expr} {kk : Nat} (hg : Gl X "enumerate") (hm : X.mg "enumerate" = none) (ha : PA X [e] ta) (hs : starEach [e] X.env = [(false, eval e X.env)] := by rfl) :
    PI X (.Tuple elts kk tpos) (.Call (.Name "enumerate" p) [e] [] pos) (iEnumT X.K ta) := by
  refine ⟨fun pins s σ H R I h => ?_⟩
  refine Call_ (ld_blt I hg hm boot_enumerate (PyProof.Rows.callWith_type1 (thn (ha.run pos pins s σ H _ I h) fun us s1 ⟨vs, H1, I1, r1, q1⟩ => ?_) hs rfl))
  obtain ⟨a, xs, ex, hq, q⟩ := q1
  subst ex
  cases r1 with
  | cons r rr =>
    cases rr
    cases r
    obtain ⟨its, rv, p', hz⟩ := I1.tuple hq
    have hT0 : s1.heap.IsTuple a its.toArray := by
      obtain ⟨o, ho, h1, n, h2⟩ := p'
      exact ⟨o, ho, h1, n, h2⟩
    have hal : a < s1.heap.objs.size := p'.lt
    refine k69_call_enumerate_tuple hT0 fun h' he hit hsz hk => wpAny_pyIter_enum he ?_
    have I2 : Inv X pins σ H1 { s1 with heap := h' } := I1.kept (t' := s1.toks) hk
    refine ⟨s1.heap.objs.size + 1, [s1.heap.objs.size + 1, s1.heap.objs.size], _, _, H1, rfl, I2, turn_enumT a (s1.heap.objs.size + 1) s1.heap.objs.size, ⟨⟨.none, he⟩, hit, Nat.succ_ne_self _, Nat.ne_of_lt hal, Nat.ne_of_lt (Nat.lt_succ_of_lt hal)⟩, fun b hb => ?_, q⟩
    have e' : b = s1.heap.objs.size + 1 ∨ b = s1.heap.objs.size := by simpa using hb
    have hle : s1.heap.objs.size ≤ b := by
      rcases e' with z | z
      · rw [z]; exact Nat.le_add_right _ _
      · rw [z]; exact Nat.le_refl _
    exact I1.fpOk hle (I1.hok.fresh hle)
end K69
set_option Elab.async false
set_option linter.all false
set_option maxRecDepth 100000
set_option maxHeartbeats 4000000
/-! sorted of data, not in a tuple of data, a dict whose keys are nested tuples -/
namespace K69
open PySem PySem.Spec PyProof.Rows L2
section
variable {X : Cx}
/-! ### sorted(xs), xs a list of data -/
theorem each_of {K : PySem.W.Frag} {H : Hp} : ∀ {xs : List V} {its : List Value} {ds : List PyData}, Vals xs its → DpAll K H xs ds → PySem.W.EachIs (fun (v : Value) (b : V × PyData) => RelV b.1 v ∧ Dp K H b.1 b.2) its (xs.zip ds)
  | _, _, _, .nil, .nil => .nil
  | _, _, _, .cons r t, .cons h1 h2 => .cons ⟨r, h1⟩ (each_of t h2)
theorem of_each {K : PySem.W.Frag} {H : Hp} : ∀ {its : List Value} {bs : List (V × PyData)}, PySem.W.EachIs (fun (v : Value) (b : V × PyData) => RelV b.1 v ∧ Dp K H b.1 b.2) its bs → Vals (bs.map (·.1)) its ∧ DpAll K H (bs.map (·.1)) (bs.map (·.2))
  | _, _, .nil => ⟨.nil, .nil⟩
  | _, _, .cons ⟨r, h⟩ t => let ⟨a, b⟩ := of_each t; ⟨.cons r a, .cons h b⟩
def rSortD (K : PySem.W.Frag) : List V → Hp → VK → Prop := fun vs H Q => ∃ (a : Addr) (xs : List V) (ds : List PyData), vs = [V.ref a] ∧ SqL K H a xs ∧ DpAll K H xs ds ∧ PySem.W.AllAlike ds ∧ PySem.W.Sortable ds ∧ (∀ d ∈ ds, d.depth ≤ 60) ∧
  ∀ (ys : List V) (es : List PyData) (p : Addr), es.Perm ds → DpAll K H ys es → H p = none → Q (.ref p) (upd H p (.lst ys))
theorem zip_snd {K : PySem.W.Frag} {H : Hp} : ∀ {xs : List V} {ds : List PyData}, DpAll K H xs ds → (xs.zip ds).map (·.2) = ds
  | _, _, .nil => rfl
  | _, _, .cons _ h => congrArg (List.cons _) (zip_snd h)
theorem cr_sortD (hu : X.A.units + 64 < cLine) : CallR X (.builtin "sorted") (rSortD X.K) := by
  intro pins s σ H vs us Q I r h
  obtain ⟨a, xs, ds, rfl, hs, hd, hal, hso, hz, q⟩ := h
  obtain ⟨its, rv, hl, hlen⟩ := I.list hs
  rw [Vals.ref1 r]
  have E := each_of rv hd
  have ez := zip_snd hd
  have hxl : (xs.zip ds).length = xs.length := by rw [List.length_zip, hd.len, Nat.min_self]
  refine PySem.W.sorted_data (vs := its) (bs := xs.zip ds) (enc := fun b => b.2) hl.isList E (E.mono fun v b hb => Dp.reads I b.2 b.1 v hb.2 hb.1) (by rw [ez]; exact hal) (by rw [ez]; exact hso) (by rw [hxl]; exact hlen) (fun b hb => ?_) fun out ho hE => ?_
  · have : b.2 ∈ ds := by rw [← ez]; exact List.mem_map.mpr ⟨b, hb, rfl⟩
    have := hz _ this
    show X.A.units + 2 + b.2.depth < cLine
    omega
  · obtain ⟨ep, he'⟩ := PyProof.Rows.sortedAll_at s.heap its (List.toArray out)
    obtain ⟨rv', hd'⟩ := of_each hE
    have hp := List.mergeSort_perm (xs.zip ds) (PySem.W.dataLe false fun b : V × PyData => b.2)
    have hperm : (((xs.zip ds).mergeSort (PySem.W.dataLe false fun b : V × PyData => b.2)).map (·.2)).Perm ds := by
      have := hp.map (·.2)
      rw [ez] at this
      exact this
    have hlen' : (((xs.zip ds).mergeSort (PySem.W.dataLe false fun b : V × PyData => b.2)).map (·.1)).length ≤ sizeLine := by
      rw [List.length_map, hp.length_eq, hxl]
      exact hlen
    exact ⟨.ref _, upd H (s.heap.objs.size + 1) (.lst _), I.laid (t' := s.toks) (fun _ _ => PyProof.Rows.sortedAll_old) (Nat.le_succ _) ⟨hlen', out, ep, rv', he'⟩, rfl, q _ _ _ hperm hd' (I.hok.fresh (Nat.le_succ _))⟩

/-! ### x not in t, t a tuple of data -/
def rNotInT (K : PySem.W.Frag) : R2 := fun x y H Q => ∃ d ds, Dp K H x d ∧ Dp K H y (.tuple ds) ∧ SeqAt.shaped d = true ∧ SeqAt.shaped (.tuple ds) = true ∧ Q (.bl (!ds.any fun z => PyData.eqv z d)) H
theorem op_notInT (hu : X.A.units + 65 < cLine) : OpR X (compareOp .NotIn) (rNotInT X.K) := by
  intro pins s σ H x y v u Q I rx ry h
  obtain ⟨d, ds, hd, he, sd, se, q⟩ := h
  obtain ⟨as, r1⟩ := Dp.reads I d x v hd rx
  obtain ⟨bs, r2⟩ := Dp.reads I (.tuple ds) y u he ry
  exact SeqAt.notIn_tuple_reads r2 r1 (SeqAt.canLay_of_shaped se) (SeqAt.canLay_of_shaped sd) (room_in_shaped sd hu) ⟨.bl _, H, I, rfl, q⟩
def rInT (K : PySem.W.Frag) : R2 := fun x y H Q => ∃ d ds, Dp K H x d ∧ Dp K H y (.tuple ds) ∧ SeqAt.shaped d = true ∧ SeqAt.shaped (.tuple ds) = true ∧ Q (.bl (ds.any fun z => PyData.eqv z d)) H
theorem op_inT (hu : X.A.units + 65 < cLine) : OpR X (compareOp .In) (rInT X.K) := by
  intro pins s σ H x y v u Q I rx ry h
  obtain ⟨d, ds, hd, he, sd, se, q⟩ := h
  obtain ⟨as, r1⟩ := Dp.reads I d x v hd rx
  obtain ⟨bs, r2⟩ := Dp.reads I (.tuple ds) y u he ry
  exact SeqAt.in_tuple_reads r2 r1 (SeqAt.canLay_of_shaped se) (SeqAt.canLay_of_shaped sd) (room_in_shaped sd hu) ⟨.bl _, H, I, rfl, q⟩
end

/-! ### a dict whose keys are nested tuples -/
abbrev NK := NestedKey × Addr × V
def NRel : List NK → List (NestedKey × Addr × Value) → Prop := Paired fun p q => p.1 = q.1 ∧ p.2.1 = q.2.1 ∧ RelV p.2.2 q.2.2
def NRaw (P : Program) (w : World) (d : Addr) (kvs : List NK) : Heap → Prop := fun h => ∃ xs, NRel kvs xs ∧ kvs.length ≤ sizeLine ∧ (d == sysModules) = false ∧
  ∃ o es ep, h.get? d = some o ∧ o.ExactDict ∧ o.data = .dict es ep ∧ es.toList = xs.map (entryOfKey (nestedKind P w)) ∧ (xs.map (·.1)).Nodup
def ND (P : Program) (w : World) (d : Addr) (kvs : List NK) : HO := .ext (NRaw P w d kvs)
def look (kvs : List NK) (k : NestedKey) : Option V := (kvs.find? fun x => decide (x.1 = k)).map (·.2.2)
def putN (kvs : List NK) (k : NestedKey) (a : Addr) (v : V) : List NK :=
  if (look kvs k).isSome then kvs.map (fun x => if x.1 = k then (x.1, x.2.1, v) else x) else kvs ++ [(k, a, v)]
theorem look_nil (k : NestedKey) : look [] k = none := rfl
theorem look_cons (x : NK) (l : List NK) (k : NestedKey) : look (x :: l) k = if x.1 = k then some x.2.2 else look l k := by
  unfold look
  rw [List.find?_cons]
  by_cases h : x.1 = k
  · simp [h]
  · simp [h]
theorem look_map (k j : NestedKey) (v : V) : ∀ l : List NK, look (l.map fun x => if x.1 = k then (x.1, x.2.1, v) else x) j = (look l j).map fun y => if j = k then v else y
  | [] => rfl
  | x :: l => by
    rw [List.map_cons, look_cons, look_cons, look_map k j v l]
    by_cases h : x.1 = k
    · rw [if_pos h]
      by_cases e : x.1 = j
      · rw [if_pos e, if_pos e, Option.map_some, if_pos (e.symm.trans h)]
      · rw [if_neg e, if_neg e]
    · rw [if_neg h]
      by_cases e : x.1 = j
      · rw [if_pos e, if_pos e, Option.map_some, if_neg (fun z => h (e.trans z))]
      · rw [if_neg e, if_neg e]
theorem look_app (j : NestedKey) (x : NK) : ∀ l : List NK, look (l ++ [x]) j = match look l j with | some v => some v | none => if x.1 = j then some x.2.2 else none
  | [] => by rw [List.nil_append, look_cons, look_nil]
  | y :: l => by
    rw [List.cons_append, look_cons, look_cons, look_app j x l]
    by_cases e : y.1 = j
    · rw [if_pos e, if_pos e]
    · rw [if_neg e, if_neg e]
theorem look_put (kvs : List NK) (k j : NestedKey) (a : Addr) (v : V) : look (putN kvs k a v) j = if j = k then some v else look kvs j := by
  unfold putN
  split
  · rename_i h
    obtain ⟨y, hy⟩ := Option.isSome_iff_exists.mp h
    rw [look_map]
    by_cases e : j = k
    · subst e; rw [hy, if_pos rfl]; simp
    · rw [if_neg e]
      cases look kvs j with
      | none => rfl
      | some y => rw [Option.map_some, if_neg e]
  · rename_i h
    rw [look_app]
    have hn : look kvs k = none := by
      cases q : look kvs k with
      | none => rfl
      | some y => rw [q] at h; exact absurd rfl h
    by_cases e : j = k
    · subst e; rw [hn, if_pos rfl]
    · rw [if_neg e, if_neg (fun z => e z.symm)]
      cases look kvs j <;> rfl
theorem putN_len (kvs : List NK) (k : NestedKey) (a : Addr) (v : V) : (putN kvs k a v).length ≤ kvs.length + 1 := by
  unfold putN
  split
  · rw [List.length_map]; omega
  · simp
theorem NRel.look {kvs : List NK} {xs : List (NestedKey × Addr × Value)} (r : NRel kvs xs) (k : NestedKey) : RelO (look kvs k) ((atKey xs k).map (·.2)) := by
  unfold NRel at r
  induction r with
  | nil => exact True.intro
  | @cons p q ps qs h t ih =>
    rw [look_cons]
    obtain ⟨h1, h2, h3⟩ := h
    by_cases e : p.1 = k
    · have e' : q.1 = k := h1.symm.trans e
      rw [if_pos e]
      have b : (atKey (q :: qs) k) = some q.2 := by simp [atKey, e']
      rw [b]
      exact h3
    · have e' : ¬ q.1 = k := fun z => e (h1.trans z)
      rw [if_neg e]
      have b : (atKey (q :: qs) k) = atKey qs k := by simp [atKey, e']
      rw [b]
      exact ih
theorem NRel.put {kvs : List NK} {xs : List (NestedKey × Addr × Value)} (r : NRel kvs xs) (k : NestedKey) (a : Addr) {v : V} {u : Value} (rv : RelV v u) : NRel (putN kvs k a v) (storedH xs k a u) := by
  have hs : (K69.look kvs k).isSome = (atKey xs k).isSome := by
    have := (r.look k).isSome_eq
    rw [this, Option.isSome_map]
  unfold putN storedH
  rw [hs]
  clear hs
  split
  · rename_i hz
    clear hz
    unfold NRel at r ⊢
    induction r with
    | nil => exact .nil
    | @cons p q ps qs h t ih =>
      rw [List.map_cons, List.map_cons]
      refine .cons ?_ ih
      obtain ⟨h1, h2, h3⟩ := h
      unfold putAt
      by_cases e : p.1 = k
      · rw [if_pos e, if_pos (h1.symm.trans e)]; exact ⟨h1, h2, rv⟩
      · rw [if_neg e, if_neg (fun z => e (h1.trans z))]; exact ⟨h1, h2, h3⟩
  · rename_i hz
    clear hz
    unfold NRel at r ⊢
    induction r with
    | nil => exact .cons ⟨rfl, rfl, rv⟩ .nil
    | cons h t ih => exact .cons h ih
/-- the dict at d, its keys' tuples in H -/
structure NAt (K : PySem.W.Frag) (P : Program) (w : World) (H : Hp) (d : Addr) (kvs : List NK) : Prop where
  obj : H d = some (ND P w d kvs)
  keys : ∀ x ∈ kvs, Dp K H (.ref x.2.1) x.1.data ∧ x.1.depth ≤ 8
mutual
theorem nest_of {K : PySem.W.Frag} {h : Heap} : ∀ (k : NestedKey) (u : Value) (as : List Addr), Reads h u k.data as → NestedIs h k u
  | .none, _, _, r => by simp only [NestedKey.data] at r; cases r; exact .none
  | .num i, _, _, r => by simp only [NestedKey.data] at r; cases r; exact .int _ _
  | .text x, _, _, r => by simp only [NestedKey.data] at r; cases r; exact .text _ _
  | .tup ks, _, _, r => by
    simp only [NestedKey.data] at r
    cases r with
    | tuple h1 h2 h3 h4 => exact .tup h1 h2 h3 (nests_of (K := K) ks _ _ h4)
theorem nests_of {K : PySem.W.Frag} {h : Heap} : ∀ (ks : List NestedKey) (us : List Value) (as : List Addr), ReadsAll h us (NestedKey.datas ks) as → NestedAll h ks us
  | [], _, _, r => by simp only [NestedKey.datas] at r; cases r; exact .nil
  | k :: ks, _, _, r => by
    simp only [NestedKey.datas] at r
    cases r with
    | cons h1 h2 => exact .cons (nest_of (K := K) k _ _ h1) (nests_of (K := K) ks _ _ h2)
end
section
variable {X : Cx} {pins : List (Addr × Obj)} {σ : L2.St} {H : Hp} {s : Shared} {d a : Addr} {kvs : List NK} {k : NestedKey} {y v : V} {u r : Value} {A : Around} {E : Value → Shared → Prop}
theorem key_is (I : Inv X pins σ H s) (h : Dp X.K H (.ref a) k.data) (hz : k.depth ≤ 8) : (nestedKind X.prog X.w).is s.heap k a := by
  obtain ⟨as, q⟩ := Dp.reads I k.data (.ref a) (.ref a) h rfl
  exact ⟨nest_of (K := X.K) k _ as q, hz⟩
theorem raw_of (I : Inv X pins σ H s) (N : NAt X.K X.prog X.w H d kvs) : ∃ xs, NRel kvs xs ∧ kvs.length ≤ sizeLine ∧ (d == sysModules) = false ∧ s.heap.DictOfH (nestedKind X.prog X.w) d xs := by
  obtain ⟨⟨xs, r, hl, hd, o, es, ep, h1, h2, h3, h4, h5⟩, _, _⟩ := (show ObjOk X.prog X.w H s.heap d (ND X.prog X.w d kvs) from I.hok d _ N.obj)
  refine ⟨xs, r, hl, hd, o, es, ep, h1, h2, h3, h4, fun x hx => ?_, h5⟩
  have hk : ∀ {kvs : List NK} {xs : List (NestedKey × Addr × Value)}, NRel kvs xs → (∀ x ∈ kvs, Dp X.K H (.ref x.2.1) x.1.data ∧ x.1.depth ≤ 8) → ∀ x ∈ xs, (nestedKind X.prog X.w).is s.heap x.1 x.2.1 := by
    intro kvs xs r
    unfold NRel at r
    induction r with
    | nil => intro _ x hx; cases hx
    | @cons p q ps qs h t ih =>
      intro hk x hx
      rcases List.mem_cons.mp hx with rfl | hx
      · obtain ⟨a1, a2⟩ := hk p List.mem_cons_self
        rw [h.1, h.2.1] at a1
        rw [h.1] at a2
        exact key_is I a1 a2
      · exact ih (fun x hx => hk x (List.mem_cons_of_mem _ hx)) x hx
  exact hk r N.keys x hx
theorem n_in {Q : Value → Shared → Prop} (hu : A.units + 10 < cLine) (I : Inv X pins σ H s) (N : NAt X.K X.prog X.w H d kvs) (hk : Dp X.K H (.ref a) k.data) (hz : k.depth ≤ 8) (h : ∀ s', Inv X pins σ H s' → Q (.bool (look kvs k).isSome) s') :
    wpAny (model X.prog X.w) A (compareOp .In (.ref a) (.ref d)) Q E s := by
  obtain ⟨xs, rel, hl, hd, dd⟩ := raw_of I N
  refine wpAny_in_heap (knd := nestedKind X.prog X.w) (by show A.units + 1 + 8 < cLine; omega) (key_is I hk hz) hd dd ?_
  have q := (rel.look k).isSome_eq
  rw [Option.isSome_map] at q
  rw [← q]
  exact h _ (I.tok _)
theorem n_get {Q : Value → Shared → Prop} (hu : A.units + 10 < cLine) (I : Inv X pins σ H s) (N : NAt X.K X.prog X.w H d kvs) (hk : Dp X.K H (.ref a) k.data) (hz : k.depth ≤ 8) (hv : look kvs k = some v) (h : ∀ w' s', Inv X pins σ H s' → RelV v w' → Q w' s') :
    wpAny (model X.prog X.w) A (getItem (.ref d) (.ref a)) Q E s := by
  obtain ⟨xs, rel, hl, hd, dd⟩ := raw_of I N
  obtain ⟨w', hw, rw'⟩ := RelO.some_of (v := v) (o := (atKey xs k).map (·.2)) (by rw [← hv]; exact rel.look k)
  obtain ⟨p, hp, hp2⟩ := Option.map_eq_some_iff.mp hw
  refine wpAny_getItem_heap (knd := nestedKind X.prog X.w) (by show A.units + 1 + 8 < cLine; omega) (key_is I hk hz) dd hp ?_
  rw [hp2]
  exact h w' _ (I.tok _) rw'
theorem dp_ext {K : PySem.W.Frag} {H : Hp} {d : Addr} {φ : Heap → Prop} {o : HO} (e : H d = some (.ext φ)) {dd : PyData} {v : V} (h : Dp K H v dd) : Dp K (upd H d o) v dd := by
  -- the data stand at other addresses
  have tup : ∀ {a xs}, SqT K H a xs → SqT K (upd H d o) a xs := by
    intro a xs q
    rcases q with (q | ⟨u, q⟩) | q
    · exact .inl (.inl (by rw [upd_ne (ne_of q e (fun z => nomatch z))]; exact q))
    · exact .inl (.inr ⟨u, by rw [upd_ne (ne_of q e (fun z => nomatch z))]; exact q⟩)
    · exact .inr q
  have lst : ∀ {a xs}, SqL K H a xs → SqL K (upd H d o) a xs := by
    intro a xs q
    rcases q with (q | ⟨u, q⟩) | q
    · exact .inl (.inl (by rw [upd_ne (ne_of q e (fun z => nomatch z))]; exact q))
    · exact .inl (.inr ⟨u, by rw [upd_ne (ne_of q e (fun z => nomatch z))]; exact q⟩)
    · exact .inr q
  have all : (∀ v dd, Dp K H v dd → Dp K (upd H d o) v dd) := by
    intro v dd h
    refine Dp.rec (motive_1 := fun v dd _ => Dp K (upd H d o) v dd) (motive_2 := fun vs ds _ => DpAll K (upd H d o) vs ds) ?_ ?_ ?_ ?_ ?_ ?_ ?_ ?_ h
    · exact .non
    · exact fun b => .bl b
    · exact fun i => .int i
    · exact fun x => .str x
    · exact fun hs _ ih => .lst (lst hs) ih
    · exact fun hs _ ih => .tup (tup hs) ih
    · exact .nil
    · exact fun _ _ ih1 ih2 => .cons ih1 ih2
  exact all v dd h
theorem n_put {Q : Unit → Shared → Prop} (hu : A.units + 10 < cLine) (I : Inv X pins σ H s) (N : NAt X.K X.prog X.w H d kvs) (hk : Dp X.K H (.ref a) k.data) (hz : k.depth ≤ 8) (hl' : kvs.length < sizeLine) (rv : RelV v r)
    (h : ∀ s', NAt X.K X.prog X.w (upd H d (ND X.prog X.w d (putN kvs k a v))) d (putN kvs k a v) → Inv X pins σ (upd H d (ND X.prog X.w d (putN kvs k a v))) s' → Q () s') :
    wpAny (model X.prog X.w) A (setItem (.ref d) (.ref a) r) Q E s := by
  obtain ⟨xs, rel, hl, hd, dd⟩ := raw_of I N
  have hzx : xs.length ≤ sizeLine := by rw [← Paired.length rel]; exact hl
  have hl2 : (putN kvs k a v).length ≤ sizeLine := by have := putN_len kvs k a v; omega
  refine wpAny_setItem_heap (knd := nestedKind X.prog X.w) (hsz := hzx) (by show A.units + 1 + 8 < cLine; omega) (key_is I hk hz) dd fun h' dd' hs => h _ ⟨upd_same, fun x hx => ?_⟩ ?_
  · have hx' : Dp X.K H (.ref x.2.1) x.1.data ∧ x.1.depth ≤ 8 := by
      unfold putN at hx
      split at hx
      · obtain ⟨y, hy, e⟩ := List.mem_map.mp hx
        have := N.keys y hy
        split at e
        · subst e; exact this
        · subst e; exact this
      · rcases List.mem_append.mp hx with hx | hx
        · exact N.keys x hx
        · rw [List.mem_singleton] at hx
          subst hx
          exact ⟨hk, hz⟩
    exact ⟨dp_ext N.obj hx'.1, hx'.2⟩
  · obtain ⟨q, es, ep, hq, h2, h3, h4, _, h5⟩ := dd'
    refine d_write I (by rw [N.obj]; exact True.intro) hs ⟨q, hq⟩ ?_
    exact ⟨⟨_, rel.put k a rv, hl2, hd, q, es, ep, hq, h2, h3, h4, h5⟩, ⟨q, hq⟩, fun h1 h2 hphi ho => by
      obtain ⟨xs', r', l', d', o', es', ep', k1, k2, k3, k4, k5⟩ := hphi
      exact ⟨xs', r', l', d', o', es', ep', ho _ k1, k2, k3, k4, k5⟩⟩
theorem NAt.same {K : PySem.W.Frag} {P : Program} {w : World} {H H' : Hp} {d : Addr} {kvs : List NK} (N : NAt K P w H d kvs) (e : Same H H') : NAt K P w H' d kvs :=
  ⟨e _ _ N.obj, fun x hx => ⟨Dp.same e _ _ (N.keys x hx).1, (N.keys x hx).2⟩⟩
theorem n_type (I : Inv X pins σ H s) (N : NAt X.K X.prog X.w H d kvs) : s.TypeIs (.ref d) "dict" := let ⟨_, _, _, _, dd⟩ := raw_of I N; dd.typeIs
end
/-! the rules -/
section
variable {X : Cx} {o i e value : Expr} {pos pos' tpos : Pos} {td ty tv : TE}
def rInN (K : PySem.W.Frag) (P : Program) (w : World) : R2 := fun x y H Q => ∃ (a d : Addr) (kvs : List NK) (k : NestedKey), x = .ref a ∧ y = .ref d ∧ NAt K P w H d kvs ∧ Dp K H (.ref a) k.data ∧ k.depth ≤ 8 ∧ Q (.bl (look kvs k).isSome) H
theorem op_inN (hu : X.A.units + 64 < cLine) : OpR X (compareOp .In) (rInN X.K X.prog X.w) := by
  intro pins s σ H x y v u Q I rx ry h
  obtain ⟨a, d, kvs, k, rfl, rfl, N, hk, hz, q⟩ := h
  cases rx
  cases ry
  exact n_in (by omega) I N hk hz fun s' I' => ⟨.bl _, H, I', rfl, q⟩
def tNGet (K : PySem.W.Frag) (P : Program) (w : World) (td ty : TE) : TE := fun σ H Q => td σ H fun x H1 => ty σ H1 fun y H2 => ∃ (a d : Addr) (kvs : List NK) (k : NestedKey) (v : V), x = .ref d ∧ y = .ref a ∧ NAt K P w H2 d kvs ∧ Dp K H2 (.ref a) k.data ∧ k.depth ≤ 8 ∧ look kvs k = some v ∧ Q v H2
theorem pe_nget (hu : X.A.units + 64 < cLine) (ho : PE X o td) (hi : PE X i ty) (hs : NoSl i) : PE X (.Subscript o i pos) (tNGet X.K X.prog X.w td ty) := by
  refine ⟨fun pins s σ H Q I h => ?_⟩
  refine subD_of PySem.F.slot_dict_getitem.lookup hs (thn (ho.run pins s σ H _ I h) fun u s1 ⟨x, H1, I1, rx, q1⟩ => thn (hi.run pins s1 σ H1 _ I1 q1) fun iv s2 ⟨y, H2, I2, ry, a, d, kvs, k, v, ex, ey, N, hk, hz, hv, q2⟩ => ?_)
  subst ex ey
  obtain rfl : u = Value.ref d := rx
  obtain rfl : iv = Value.ref a := ry
  exact ⟨n_type I2 N, n_get (by omega) I2 N hk hz hv fun w' s3 I3 rw' => ⟨v, H2, I3, rw', q2⟩⟩
def sNPut (K : PySem.W.Frag) (P : Program) (w : World) (td ty tv : TE) : TS := fun D σ H => tv σ H fun v H1 => td σ H1 fun x H2 => ty σ H2 fun y H3 => ∃ (a d : Addr) (kvs : List NK) (k : NestedKey), x = .ref d ∧ y = .ref a ∧ NAt K P w H3 d kvs ∧ Dp K H3 (.ref a) k.data ∧ k.depth ≤ 8 ∧ kvs.length < sizeLine ∧
  (NAt K P w (upd H3 d (ND P w d (putN kvs k a v))) d (putN kvs k a v) → D.nx σ (upd H3 d (ND P w d (putN kvs k a v))))
theorem ps_nput (hu : X.A.units + 64 < cLine) (ho : PE X o td) (hi : PE X i ty) (hv : PE X value tv) (hs : swapsWith value (some (.Subscript o i pos')) pos.line X.env = pure false) :
    PS X (.Assign [.Subscript o i pos'] value pos) (sNPut X.K X.prog X.w td ty tv) := by
  refine ⟨fun pins s σ H D I h => ?_⟩
  refine wpAny_Assign_Subscript (thn (hv.run pins s σ H _ I h) fun r s1 ⟨v, H1, I1, rv, q1⟩ => thn (ho.run pins s1 σ H1 _ I1 q1) fun u s2 ⟨x, H2, I2, rx, q2⟩ => thn (hi.run pins s2 σ H2 _ I2 q2) fun iv s3 ⟨y, H3, I3, ry, a, d, kvs, k, ex, ey, N, hk, hz, hl, q3⟩ => ?_) hs
  subst ex ey
  obtain rfl : u = Value.ref d := rx
  obtain rfl : iv = Value.ref a := ry
  exact n_put (by omega) I3 N hk hz hl rv fun s4 N' I4 => ⟨σ, _, I4, q3 N'⟩
/-- {} -/
def tDNewN (K : PySem.W.Frag) (P : Program) (w : World) : TE := fun _ H Q => ∀ p, H p = none → NAt K P w (upd H p (ND P w p [])) p [] → Q (.ref p) (upd H p (ND P w p []))
theorem pe_dnewN : PE X (.Dict [] [] pos) (tDNewN X.K X.prog X.w) := ⟨fun pins s σ H Q I h => by
  refine wpAny_Dict_empty ⟨.ref s.heap.objs.size, _, I.laid (a := s.heap.objs.size) (o := ND X.prog X.w s.heap.objs.size []) (t' := s.toks) (fun _ _ q => Heap.get?_push_of_some _ q) (Nat.le_refl _) ?_, rfl, h _ (I.hok.fresh (Nat.le_refl _)) ⟨upd_same, fun x hx => by cases hx⟩⟩
  have e := Heap.get?_push_size s.heap (o := { cls := .type "dict", data := .dict #[] }) rfl
  refine ⟨⟨[], .nil, Nat.zero_le _, beq_eq_false_iff_ne.mpr (Ne.symm (Nat.ne_of_lt I.big)), _, #[], 0, e, ⟨rfl, rfl, rfl⟩, rfl, rfl, List.nodup_nil⟩, ⟨_, e⟩, fun h1 h2 hphi ho => ?_⟩
  obtain ⟨xs', r', l', d', o', es', ep', k1, k2, k3, k4, k5⟩ := hphi
  exact ⟨xs', r', l', d', o', es', ep', ho _ k1, k2, k3, k4, k5⟩⟩
end
end K69
set_option Elab.async false
set_option linter.all false
set_option maxRecDepth 100000
set_option maxHeartbeats 4000000
/-! dict.update of two dicts, ** of any size -/
namespace K69
open PySem PySem.Spec PyProof.Rows L2
section
variable {X : Cx}
def rDUpd : V → List V → Hp → VK → Prop := fun x vs H Q => ∃ (d o : Addr) (kvs more : List (Key × V)), x = .ref d ∧ vs = [.ref o] ∧ d ≠ o ∧ H d = some (.dK kvs) ∧ H o = some (.dK more) ∧ kvs.length + more.length ≤ sizeLine ∧ Q .non (upd H d (.dK (mergeK kvs more)))
theorem mt_dupdate : MtR X "dict.update" rDUpd := by
  intro pins s σ H x vs v us Q I rx rv h
  obtain ⟨d, o, kvs, more, rfl, rfl, hne, hd, ho, hz, q⟩ := h
  cases rx
  obtain ⟨u, rfl, ru⟩ := rv.one
  cases ru
  obtain ⟨z1, l1, vs1, r1, d1⟩ := dk_of I.hok hd
  obtain ⟨z2, l2, vs2, r2, d2⟩ := dk_of I.hok ho
  refine call_meetsIn PySem.F.slot_dict_update d1.typeIs PySem.F.entry_dict_update (PySem.F.args_dict_update_2 _ _) (meets_dict_update (mixKind X.prog X.w) d o hne l2) ⟨_, _, d1, d2, by rw [← r1.length, ← r2.length]; exact hz, fun h' d1' d2' hs => ?_⟩
  have hl : (mergeK kvs more).length ≤ sizeLine := Nat.le_trans (length_mergeK more kvs) hz
  have he : ∃ q, h'.get? d = some q := let ⟨q, _, _, hq, _⟩ := d1'; ⟨q, hq⟩
  exact ⟨.non, _, d_write (t' := s.toks) I (by rw [hd]; exact True.intro) hs he (dk_new hl l1 (KV.merge r2 r1) d1'), rfl, q⟩
def CPowB (i j : Int) : Prop := 0 ≤ j ∧ (Builtin.Int.intBits i : Int) * j ≤ 2 ^ 27
theorem op_powB : OpR X (binaryOp .Pow) (rI CPowB fun i j => .int (i ^ j.toNat)) := opI fun _ _ _ _ _ _ _ hc q => pow_int hc.1 hc.2 q
end
end K69
set_option Elab.async false
set_option linter.all false
set_option maxRecDepth 100000
set_option maxHeartbeats 4000000
namespace K69
open PySem PySem.Spec PyProof.Rows L2 SR
/-! ### the data of the program -/
def _root_.SR.Rule.str : Rule → Str
  | .down => "down" | .hdown => "half_down" | .heven => "half_even" | .hup => "half_up" | .odd => "odd" | .up => "up"
def side (u : Bool) : Str := if u then "up" else "down"
def dStep (s : SR.Step) : PyData := .tuple [.int (s.1 : Nat), .str s.2.str]
def dChain (c : Chain) : PyData := .tuple (c.map dStep)
def dTh (t : Th) : PyData := .tuple [.tuple [.int (t.n : Nat), .int (t.d : Nat)], .str (side t.up)]
def dThO : Option Th → PyData
  | none => .none
  | some t => dTh t
def dW (w : Wanted) : PyData := .tuple [dThO w.1, dThO w.2]
def dP (P : Th × Th) : PyData := .tuple [dTh P.1, dTh P.2]
/-- a call hands back the datum d, what was tracked stays -/
def Gives (K : PySem.W.Frag) (H : Hp) (Q : VK) (d : PyData) : Prop := ∀ v H', Same H H' → Dp K H' v d → Q v H'
theorem Gives.at {K : PySem.W.Frag} {H H1 : Hp} {Q : VK} {d : PyData} (g : Gives K H Q d) (s : Same H H1) : Gives K H1 Q d := fun v H' s' h => g v H' (s.trans s') h
theorem Gives.int {K : PySem.W.Frag} {H : Hp} {Q : VK} {i : Int} (h : ∀ H', Same H H' → Q (.int i) H') : Gives K H Q (.int i) := fun v H' s d => by obtain rfl := d.int_inv; exact h H' s
theorem Gives.bl {K : PySem.W.Frag} {H : Hp} {Q : VK} {b : Bool} (h : ∀ H', Same H H' → Q (.bl b) H') : Gives K H Q (.bool b) := fun v H' s d => by cases d; exact h H' s
theorem str_inj : ∀ a b : Rule, a.str = b.str → a = b := by
  intro a b h
  cases a <;> cases b <;> first | rfl | exact absurd h (by decide +kernel)
/-- the module's own constants -/
structure Tf (K : PySem.W.Frag) (w : World) (mg : Str → Option Value) : Prop where
  most : ∃ t, mg "MOST_WIDTH" = some (.int 100 t)
  pair : ∃ t, mg "PAIR" = some (.int 2 t)
  steps : ∃ t, mg "MOST_STEPS" = some (.int 12 t)
  down : ∃ t, mg "DOWN" = some (.str "down" t)
  up : ∃ t, mg "UP" = some (.str "up" t)
  rules : ∃ a, mg "RULES" = some (.ref a) ∧ ∀ H, SqT K H a (rules.map fun r => V.str r.str)
  byRule : ∃ d, mg "BY_RULE" = some (.ref d) ∧ ∀ r : Rule, ∃ a, KDct K w d r.str (.ref a) ∧ ∀ H, Dp K H (.ref a) (dP (byRule r))

/-! ### isinstance, by the value's type -/
theorem tyx_tup {K : PySem.W.Frag} {H : Hp} {a : Addr} {xs : List V} (h : SqT K H a xs) : TyX K H (.ref a) (.type "tuple") := by
  rcases h with (h | ⟨o, h⟩) | ⟨o, its, n, h, hc, _⟩
  · exact .base (.tup h)
  · exact .fTuple h
  · exact .kTuple h hc

section
variable {P : Program} {w : World} {K : PySem.W.Frag} {mg : Str → Option Value} {base : Heap}
theorem kit_ii : kitB "int" "int" = some true := by decide +kernel
theorem kit_ib : kitB "int" "bool" = some false := by decide +kernel
theorem kit_ss : kitB "str" "str" = some true := by decide +kernel
theorem kit_tt : kitB "tuple" "tuple" = some true := by decide +kernel
/-! ### is_int, is_width, is_rule, is_step -/
def spIsInt : Sp := fun vs H Q _ => ∃ a b : Int, vs = [.int a, .int b] ∧ Q (.bl (decide (b ≤ a))) H
theorem ok_is_int (B : Blt mg) (D : Df K mg "is_int" sIsInt ["value", "least"]) : Fx P w K mg base 1 "is_int" ["value", "least"] spIsInt := by
  refine D.ok scIsInt (fun vs H Q E h => ?_) (fun f cdv A outer s H vs Q E hr h => ?_)
  · obtain ⟨a, b, rfl, _⟩ := h
    rfl
  obtain ⟨a, b, rfl, q⟩ := h
  refine ⟨_, pss_one (ps_ret (pe_and (pe_callB call_isi (by rfl) B.isinstance boot_isinstance (pa_cons (pv 0) (pa_cons (pe_bltn (v := .ty "int") (by rfl) B.int PyProof.Rows.boot_int rfl) pa_nil)))
    (pe_and (pe_not (pe_callB call_isi (by rfl) B.isinstance boot_isinstance (pa_cons (pv 0) (pa_cons (pe_bltn (v := .ty "bool") (by rfl) B.bool PyProof.Rows.boot_bool rfl) pa_nil))))
      (pe_one (pe_cmpR op_ge (pv 0) (pv 1) (nomark _)))))), ?_⟩
  refine ⟨_, rfl, _, _, _, _, _, rfl, .ty "int", .base (.int a), kit_ty kit_ii, true, rfl, ?_⟩
  refine iteT ⟨_, rfl, _, _, _, _, _, rfl, .ty "bool", .base (.int a), kit_ty kit_ib, false, rfl, true, rfl, ?_⟩
  exact iteT ⟨_, rfl, _, rfl, _, _, rfl, rfl, q⟩
abbrev sIsWidth : Stmt := topS 8
theorem scIsWidth : FnScope ["value"] ["value"] (defScope sIsWidth) := ⟨rfl, rfl, rfl, by decide +kernel, rfl, by decide +kernel, by decide +kernel⟩
def spIsWidth : Sp := fun vs H Q _ => ∃ a : Int, vs = [.int a] ∧ Q (.bl (decide (1 ≤ a ∧ a ≤ 100))) H
theorem ok_is_width (T : Tf K w mg) (D : Df K mg "is_width" sIsWidth ["value"]) (G : Fx P w K mg base 1 "is_int" ["value", "least"] spIsInt) : Fx P w K mg base 2 "is_width" ["value"] spIsWidth := by
  refine D.ok scIsWidth (fun vs H Q E h => ?_) (fun f cdv A outer s H vs Q E hr h => ?_)
  · obtain ⟨a, rfl, _⟩ := h
    rfl
  obtain ⟨a, rfl, q⟩ := h
  obtain ⟨t, ht⟩ := T.most
  refine ⟨_, pss_one (ps_ret (pe_and (pe_fx G hr (pa_cons (pv 0) (pa_cons pe_int pa_nil))) (pe_one (pe_cmpR op_le (pv 0) (pe_glob (v := .int 100) (by rfl) ht ⟨t, rfl⟩) (nomark _))))), ?_⟩
  refine ⟨_, rfl, a, 1, rfl, _, rfl, ?_⟩
  by_cases h1 : 1 ≤ a
  · rw [decide_eq_true h1]
    refine iteT ⟨_, rfl, _, _, rfl, rfl, ?_⟩
    have e : decide (1 ≤ a ∧ a ≤ 100) = decide (a ≤ 100) := by simp [h1]
    rw [e] at q
    exact q
  · rw [decide_eq_false h1]
    have e : decide (1 ≤ a ∧ a ≤ 100) = false := by simp [h1]
    rw [e] at q
    exact iteF q
abbrev sIsRule : Stmt := topS 17
theorem scIsRule : FnScope ["value"] ["value"] (defScope sIsRule) := ⟨rfl, rfl, rfl, by decide +kernel, rfl, by decide +kernel, by decide +kernel⟩
def spIsRule : Sp := fun vs H Q _ => ∃ r : Rule, vs = [.str r.str] ∧ Q (.bl true) H
theorem in_rules (r : Rule) : L2.inV (.str r.str) (rules.map fun r => V.str r.str) = true := by cases r <;> decide +kernel
theorem ok_is_rule (B : Blt mg) (T : Tf K w mg) (D : Df K mg "is_rule" sIsRule ["value"]) : Fx P w K mg base 1 "is_rule" ["value"] spIsRule := by
  refine D.ok scIsRule (fun vs H Q E h => ?_) (fun f cdv A outer s H vs Q E hr h => ?_)
  · obtain ⟨a, rfl, _⟩ := h
    rfl
  obtain ⟨r, rfl, q⟩ := h
  obtain ⟨a, ha, hR⟩ := T.rules
  refine ⟨_, pss_one (ps_ret (pe_and (pe_callB call_isi (by rfl) B.isinstance boot_isinstance (pa_cons (pv 0) (pa_cons (pe_bltn (v := .ty "str") (by rfl) B.str PyProof.Rows.boot_str rfl) pa_nil)))
    (pe_one (pe_cmpR op_in_seq (pv 0) (pe_glob (v := .ref a) (by rfl) ha rfl) (by rfl))))), ?_⟩
  refine ⟨_, rfl, _, _, _, _, _, rfl, .ty "str", .base (.str r.str), kit_ty kit_ss, true, rfl, ?_⟩
  refine iteT ⟨_, rfl, a, _, rfl, .inr (hR H), rfl, (by decide +kernel), ?_⟩
  rw [in_rules]
  exact q
end
end K69
set_option Elab.async false
set_option linter.all false
set_option maxRecDepth 100000
set_option maxHeartbeats 4000000
namespace K69
open PySem PySem.Spec PyProof.Rows L2 SR
theorem _root_.L2.Same.put {H H' : Hp} {p : Addr} {o : HO} (s : Same H H') (h : H p = none) : Same H (upd H' p o) := fun b u q => by
  rw [upd_ne (ne_of_none q h)]
  exact s b u q
/-- a chain that the program takes -/
structure ChainOk (c : Chain) : Prop where
  pos : 1 ≤ c.length
  le : c.length ≤ 12
  ws : ∀ s ∈ c, 1 ≤ s.1 ∧ s.1 ≤ 100
theorem dp_step {K : PySem.W.Frag} {H : Hp} {v : V} {s : SR.Step} (h : Dp K H v (dStep s)) : ∃ a, v = .ref a ∧ SqT K H a [.int (s.1 : Nat), .str s.2.str] := by
  obtain ⟨a, x, y, rfl, h1, h2, h3⟩ := h.pair_inv
  rw [h2.int_inv, h3.str_inv] at h1
  exact ⟨a, rfl, h1⟩
theorem dp_chain {K : PySem.W.Frag} {H : Hp} {v : V} {c : Chain} (h : Dp K H v (dChain c)) : ∃ a xs, v = .ref a ∧ SqT K H a xs ∧ DpAll K H xs (c.map dStep) := h.tuple_inv
theorem dpc_get {K : PySem.W.Frag} {H : Hp} {xs : List V} {c : Chain} {i : Nat} {x : V} (h : DpAll K H xs (c.map dStep)) (e : xs[i]? = some x) : ∃ s, c[i]? = some s ∧ Dp K H x (dStep s) := by
  obtain ⟨d, e2, h2⟩ := h.get e
  rw [List.getElem?_map] at e2
  cases hc : c[i]? with
  | none => rw [hc] at e2; cases e2
  | some s => rw [hc] at e2; cases e2; exact ⟨s, rfl, h2⟩
theorem dpc_at {K : PySem.W.Frag} {H : Hp} {xs : List V} {c : Chain} {i : Nat} {s : SR.Step} (h : DpAll K H xs (c.map dStep)) (e : c[i]? = some s) : ∃ x, xs[i]? = some x ∧ Dp K H x (dStep s) := by
  have hl := h.len
  rw [List.length_map] at hl
  have hi := (List.getElem?_eq_some_iff.mp e).1
  have hx : xs[i]? = some xs[i] := List.getElem?_eq_getElem (by omega)
  obtain ⟨s', e', h'⟩ := dpc_get h hx
  rw [e] at e'
  cases e'
  exact ⟨_, hx, h'⟩
section
variable {P : Program} {w : World} {K : PySem.W.Frag} {mg : Str → Option Value} {base : Heap}
abbrev sIsStep : Stmt := topS 21
theorem scIsStep : FnScope ["value"] ["value"] (defScope sIsStep) := ⟨rfl, rfl, rfl, by decide +kernel, rfl, by decide +kernel, by decide +kernel⟩
def spIsStep (K : PySem.W.Frag) : Sp := fun vs H Q _ => ∃ (v : V) (s : SR.Step), vs = [v] ∧ Dp K H v (dStep s) ∧ (1 ≤ s.1 ∧ s.1 ≤ 100) ∧ Q (.bl true) H
theorem ok_is_step (B : Blt mg) (T : Tf K w mg) (D : Df K mg "is_step" sIsStep ["value"]) (G1 : Fx P w K mg base 2 "is_width" ["value"] spIsWidth) (G2 : Fx P w K mg base 1 "is_rule" ["value"] spIsRule) : Fx P w K mg base 3 "is_step" ["value"] (spIsStep K) := by
  refine D.ok scIsStep (fun vs H Q E h => ?_) (fun f cdv A outer s H vs Q E hr h => ?_)
  · obtain ⟨a, b, rfl, _⟩ := h
    rfl
  obtain ⟨v, st, rfl, hd, hw, q⟩ := h
  obtain ⟨a, rfl, hs⟩ := dp_step hd
  obtain ⟨t, ht⟩ := T.pair
  refine ⟨_, pss_one (ps_ret (pe_and (pe_callB call_isi (by rfl) B.isinstance boot_isinstance (pa_cons (pv 0) (pa_cons (pe_bltn (v := .ty "tuple") (by rfl) B.tuple PyProof.Rows.boot_tuple rfl) pa_nil)))
    (pe_and (pe_cmpR op_eq (pe_callB call_len_seq (by rfl) B.len PySem.boot_len (pa_cons (pv 0) pa_nil)) (pe_glob (v := .int 2) (by rfl) ht ⟨t, rfl⟩) (nomark _))
    (pe_and (pe_fx G1 hr (pa_cons (pe_ix ix_tup (pv 0) pe_int (fun _ _ => rfl)) pa_nil))
    (pe_one (pe_fx G2 (hr.mono (by decide)) (pa_cons (pe_ix ix_tup (pv 0) pe_int (fun _ _ => rfl)) pa_nil))))))), ?_⟩
  refine ⟨_, rfl, _, _, _, _, _, rfl, .ty "tuple", tyx_tup hs, kit_ty kit_tt, true, rfl, ?_⟩
  refine iteT ⟨_, rfl, a, _, rfl, .inr hs, rfl, true, rfl, ?_⟩
  refine iteT ⟨_, rfl, a, _, _, .int (st.1 : Nat), rfl, rfl, hs, rfl, (st.1 : Nat), rfl, true, ?_, ?_⟩
  · exact congrArg V.bl (decide_eq_true (by omega))
  · exact iteT ⟨_, rfl, a, _, _, .str st.2.str, rfl, rfl, hs, rfl, st.2, rfl, q⟩
abbrev sIsChain : Stmt := topS 22
theorem scIsChain : FnScope ["value", "step"] ["value"] (defScope sIsChain) := ⟨rfl, rfl, rfl, by decide +kernel, rfl, by decide +kernel, by decide +kernel⟩
def spIsChain (K : PySem.W.Frag) : Sp := fun vs H Q _ => ∃ (v : V) (c : Chain), vs = [v] ∧ Dp K H v (dChain c) ∧ ChainOk c ∧ ∀ H', Same H H' → Q (.bl true) H'
theorem all_rep (n : Nat) : (List.replicate n true).all id = true := by
  induction n with
  | zero => rfl
  | succ n ih => rw [List.replicate_succ, List.all_cons, ih]; rfl
theorem ok_is_chain (B : Blt mg) (T : Tf K w mg) (D : Df K mg "is_chain" sIsChain ["value"]) (G : Fx P w K mg base 3 "is_step" ["value"] (spIsStep K)) : Fx P w K mg base 4 "is_chain" ["value"] (spIsChain K) := by
  refine D.ok scIsChain (fun vs H Q E h => ?_) (fun f cdv A outer s H vs Q E hr h => ?_)
  · obtain ⟨a, b, rfl, _⟩ := h
    rfl
  obtain ⟨v, c, rfl, hd, hok, q⟩ := h
  obtain ⟨a, xs, rfl, hs, hx⟩ := dp_chain hd
  obtain ⟨t, ht⟩ := T.steps
  have hl : xs.length = c.length := by rw [hx.len, List.length_map]
  have h1 := hok.pos
  have h2 := hok.le
  refine ⟨_, pss_one (ps_ret (pe_and (pe_callB call_isi (by rfl) B.isinstance boot_isinstance (pa_cons (pv 0) (pa_cons (pe_bltn (v := .ty "tuple") (by rfl) B.tuple PyProof.Rows.boot_tuple rfl) pa_nil)))
    (pe_and (pe_chain op_le op_le pe_int (pe_callB call_len_seq (by rfl) B.len PySem.boot_len (pa_cons (pv 0) pa_nil)) (pe_glob (v := .int 12) (by rfl) ht ⟨t, rfl⟩))
    (pe_one (pe_callB (cr_all rfl) (by rfl) B.all (by decide +kernel) (pa_cons (pe_lc (own := [("step", 1)]) (g := gName 1) (tt := tYes) rfl scIsChain.nd (pi_tup (pv 0)) (blkOk_by (N := ["value", "step"]) (sc := defScope sIsChain) (by decide +kernel)) (fun _ _ _ _ _ => pg_name (i := 1) scIsChain.nd rfl (Or.inl rfl)) (fun _ _ _ _ _ => pts_nil)
      (fun _ _ _ _ _ => pe_fx G hr (pa_cons (pv 1) pa_nil))) pa_nil)))))), ?_⟩
  refine ⟨_, rfl, _, _, _, _, _, rfl, .ty "tuple", tyx_tup hs, kit_ty kit_tt, true, rfl, ?_⟩
  refine iteT ⟨_, rfl, a, _, rfl, .inr hs, _, _, rfl, rfl, _, rfl, ?_⟩
  rw [decide_eq_true (show (1 : Int) ≤ (xs.length : Int) by omega)]
  refine iteT ⟨_, _, rfl, rfl, _, rfl, ?_⟩
  rw [decide_eq_true (show (xs.length : Int) ≤ 12 by omega)]
  refine iteT ⟨_, rfl, a, rfl, ⟨_, hs⟩, fun L hL => lc_tup (K := K) (a := a) (xs := xs) (fun i H1 => Same H H1 ∧ H1 L = some (.lst ((List.replicate i true).map V.bl))) ⟨same_new hL _, upd_same⟩ (fun i H1 _ p => p.1.tup hs) (fun i x H1 hi p => ?_) (fun H1 p => ?_)⟩
  · obtain ⟨st, e1, e2⟩ := dpc_get hx hi
    have hm := hok.ws st (List.mem_of_getElem? e1)
    refine ⟨rfl, _, rfl, x, st, rfl, Dp.same p.1 _ _ e2, hm, _, p.2, ?_, p.1.put hL, ?_⟩
    · have := (List.getElem?_eq_some_iff.mp hi).1
      rw [List.length_map, List.length_replicate]
      exact small1000 (by omega)
    · rw [upd_same, List.replicate_succ', List.map_append]
      rfl
  · refine ⟨L, _, rfl, .inl (.inl p.2), ?_⟩
    rw [all_rep]
    exact q H1 p.1
abbrev sCheckChain : Stmt := topS 23
theorem scCheckChain : FnScope ["value"] ["value"] (defScope sCheckChain) := ⟨rfl, rfl, rfl, by decide +kernel, rfl, by decide +kernel, by decide +kernel⟩
def spCheckChain (K : PySem.W.Frag) : Sp := fun vs H Q _ => ∃ (v : V) (c : Chain), vs = [v] ∧ Dp K H v (dChain c) ∧ ChainOk c ∧ ∀ H', Same H H' → Q .non H'
theorem ok_check_chain (D : Df K mg "check_chain" sCheckChain ["value"]) (G : Fx P w K mg base 4 "is_chain" ["value"] (spIsChain K)) : Fx P w K mg base 5 "check_chain" ["value"] (spCheckChain K) := by
  refine D.ok scCheckChain (fun vs H Q E h => ?_) (fun f cdv A outer s H vs Q E hr h => ?_)
  · obtain ⟨a, b, rfl, _⟩ := h
    rfl
  obtain ⟨v, c, rfl, hd, hok, q⟩ := h
  refine ⟨_, pss_one (ps_if (pt_not (pt_val (pe_fx G hr (pa_cons (pv 0) pa_nil)))) pss_never pss_nil), ?_⟩
  exact ⟨_, rfl, v, c, rfl, hd, hok, fun H' sm => ⟨true, rfl, iteF (q H' sm)⟩⟩
abbrev sLastWidth : Stmt := topS 24
theorem scLastWidth : FnScope ["chain", "width", "rule"] ["chain"] (defScope sLastWidth) := ⟨rfl, rfl, rfl, by decide +kernel, rfl, by decide +kernel, by decide +kernel⟩
/-- the least width -/
def IsLeast (c : Chain) (w : Nat) : Prop := (∃ s ∈ c, s.1 = w) ∧ ∀ s ∈ c, w ≤ s.1
def spLastWidth (K : PySem.W.Frag) : Sp := fun vs H Q _ => ∃ (v : V) (c : Chain), vs = [v] ∧ Dp K H v (dChain c) ∧ ChainOk c ∧ ∀ w H', IsLeast c w → Same H H' → Q (.int (w : Nat)) H'
theorem least_ints {c : Chain} {m : Int} (hm : m ∈ c.map (fun s => ((s.1 : Nat) : Int))) (hl : ∀ x ∈ c.map (fun s => ((s.1 : Nat) : Int)), m ≤ x) : ∃ w : Nat, m = (w : Int) ∧ IsLeast c w := by
  obtain ⟨s, hs, rfl⟩ := List.mem_map.mp hm
  refine ⟨s.1, rfl, ⟨s, hs, rfl⟩, fun t ht => ?_⟩
  have := hl _ (List.mem_map.mpr ⟨t, ht, rfl⟩)
  omega
theorem ok_last_width (B : Blt mg) (D : Df K mg "last_width" sLastWidth ["chain"]) (G : Fx P w K mg base 5 "check_chain" ["value"] (spCheckChain K)) : Fx P w K mg base 6 "last_width" ["chain"] (spLastWidth K) := by
  refine D.ok scLastWidth (fun vs H Q E h => ?_) (fun f cdv A outer s H vs Q E hr h => ?_)
  · obtain ⟨a, b, rfl, _⟩ := h
    rfl
  obtain ⟨v, c, rfl, hd, hok, q⟩ := h
  refine ⟨_, pss_cons (ps_expr (pe_fx G hr (pa_cons (pv 0) pa_nil))) (pss_one (ps_ret (pe_callB (cr_min rfl) (by rfl) B.min boot_min (pa_cons (pe_lc (own := [("width", 1), ("rule", 2)]) (g := gTup K 2 (gCons (gName 1) (gCons (gName 2) gNil))) (tt := tYes) rfl scLastWidth.nd (pi_tup (pv 0)) (blkOk_by (N := ["chain", "width", "rule"]) (sc := defScope sLastWidth) (by decide +kernel))
    (fun _ _ _ _ _ => pg_tup rfl (pgs_cons (pg_name (i := 1) scLastWidth.nd rfl (Or.inl rfl) (hf := Or.inr rfl)) (pgs_cons (pg_name (i := 2) scLastWidth.nd rfl (Or.inl rfl) (hf := Or.inr rfl)) pgs_nil))) (fun _ _ _ _ _ => pts_nil) (fun _ _ _ _ _ => pv 1)) pa_nil)))), ?_⟩
  refine ⟨_, rfl, v, c, rfl, hd, hok, fun H0 sm => ?_⟩
  obtain ⟨a, xs, rfl, hs, hx⟩ := dp_chain (Dp.same sm _ _ hd)
  have hl : xs.length = c.length := by rw [hx.len, List.length_map]
  refine ⟨_, rfl, a, rfl, ⟨_, hs⟩, fun L hL => lc_tup (K := K) (a := a) (xs := xs) (fun i H1 => Same H0 H1 ∧ H1 L = some (.lst (((c.take i).map (fun s => ((s.1 : Nat) : Int))).map V.int))) ⟨same_new hL _, upd_same⟩ (fun i H1 _ p => p.1.tup hs) (fun i x H1 hi p => ?_) (fun H1 p => ?_)⟩
  · obtain ⟨st, e1, e2⟩ := dpc_get hx hi
    obtain ⟨b, rfl, hb⟩ := dp_step (Dp.same p.1 _ _ e2)
    refine ⟨b, _, rfl, hb, rfl, _, _, rfl, _, _, rfl, rfl, rfl, _, rfl, _, p.2, ?_, p.1.put hL, ?_⟩
    · rw [List.length_map, List.length_map, List.length_take]
      have := hok.le
      exact small1000 (by omega)
    · rw [upd_same, List.take_add_one, e1, List.map_append, List.map_append]
      rfl
  · rw [hl, List.take_length] at p
    refine ⟨L, c.map (fun s => ((s.1 : Nat) : Int)), rfl, .inl (.inl p.2), by have := hok.pos; rw [List.length_map]; omega, fun m hm hle => ?_⟩
    obtain ⟨wd, rfl, hw⟩ := least_ints hm hle
    exact q wd H1 hw (sm.trans p.1)
end
end K69
set_option Elab.async false
set_option linter.all false
set_option maxRecDepth 100000
set_option maxHeartbeats 4000000
namespace K69
open PySem PySem.Spec PyProof.Rows L2 SR
mutual
/-- tuples of numbers, texts, None: nothing in it changes -/
def still : PyData → Bool
  | .none => true
  | .int _ => true
  | .str _ => true
  | .bool _ => true
  | .tuple ds => stillAll ds
  | .list _ => false
  | .dict _ => false
def stillAll : List PyData → Bool
  | [] => true
  | d :: ds => still d && stillAll ds
end
mutual
theorem dp_still {K : PySem.W.Frag} {H : Hp} {L : Addr} {xs : List V} {o : HO} (e : H L = some (.lst xs)) : ∀ (d : PyData) (v : V), still d = true → Dp K H v d → Dp K (upd H L o) v d
  | .none, _, _, h => by cases h; exact .non
  | .bool _, _, _, h => by cases h; exact .bl _
  | .int _, _, _, h => by cases h; exact .int _
  | .str _, _, _, h => by cases h; exact .str _
  | .list _, _, hp, _ => by simp [still] at hp
  | .dict _, _, hp, _ => by simp [still] at hp
  | .tuple ds, _, hp, h => by
    rw [still] at hp
    cases h with
    | tup hs ha =>
      refine .tup ?_ (dpa_still e ds _ hp ha)
      rcases hs with (q | ⟨u, q⟩) | q
      · exact .inl (.inl (by rw [upd_ne (ne_of q e (fun z => nomatch z))]; exact q))
      · exact .inl (.inr ⟨u, by rw [upd_ne (ne_of q e (fun z => nomatch z))]; exact q⟩)
      · exact .inr q
theorem dpa_still {K : PySem.W.Frag} {H : Hp} {L : Addr} {xs : List V} {o : HO} (e : H L = some (.lst xs)) : ∀ (ds : List PyData) (vs : List V), stillAll ds = true → DpAll K H vs ds → DpAll K (upd H L o) vs ds
  | [], _, _, h => by cases h; exact .nil
  | d :: ds, _, hp, h => by
    rw [stillAll, Bool.and_eq_true] at hp
    cases h with
    | cons h1 h2 => exact .cons (dp_still e d _ hp.1 h1) (dpa_still e ds _ hp.2 h2)
end
theorem stillAll_map {α : Type} (f : α → PyData) (h : ∀ a, still (f a) = true) : ∀ l : List α, stillAll (l.map f) = true
  | [] => rfl
  | a :: l => by rw [List.map_cons, stillAll, h a, stillAll_map f h l]; rfl
theorem still_step (s : SR.Step) : still (dStep s) = true := rfl
theorem still_chain (c : Chain) : still (dChain c) = true := by
  unfold dChain
  rw [still]
  exact stillAll_map _ still_step c
theorem still_th (t : Th) : still (dTh t) = true := rfl
theorem still_tho (t : Option Th) : still (dThO t) = true := by cases t <;> rfl
theorem still_w (t : Wanted) : still (dW t) = true := by
  unfold dW
  rw [still, stillAll, stillAll, stillAll, still_tho, still_tho]
  rfl
/-! ### trimmed -/
def tstep (a : Chain × Option Nat) (s : SR.Step) : Chain × Option Nat := if (match a.2 with | none => true | some l => decide (s.1 < l)) = true then (a.1 ++ [s], some s.1) else a
def trimS (c : Chain) : Chain × Option Nat := c.foldl tstep ([], none)
def trim (c : Chain) : Chain := (trimS c).1
theorem trimS_snoc (c : Chain) (s : SR.Step) : trimS (c ++ [s]) = tstep (trimS c) s := by
  unfold trimS
  rw [List.foldl_append]
  rfl
theorem trim_len (c : Chain) : (trimS c).1.length ≤ c.length := by
  have : ∀ (c : Chain) (a : Chain × Option Nat), (c.foldl tstep a).1.length ≤ a.1.length + c.length := by
    intro c
    induction c with
    | nil => intro a; simp
    | cons s c ih =>
      intro a
      rw [List.foldl_cons]
      have h := ih (tstep a s)
      have h2 : (tstep a s).1.length ≤ a.1.length + 1 := by
        unfold tstep
        generalize (match a.2 with | none => true | some l => decide (s.1 < l)) = b
        cases b <;> simp
      rw [List.length_cons]
      omega
  have h := this c ([], none)
  simp only [List.length_nil, Nat.zero_add] at h
  exact h
def vO : Option Nat → V
  | none => .non
  | some n => .int (n : Nat)
section
variable {P : Program} {w : World} {K : PySem.W.Frag} {mg : Str → Option Value} {base : Heap}
abbrev sTrimmed : Stmt := topS 25
theorem scTrimmed : FnScope ["chain", "found", "least", "width", "rule"] ["chain"] (defScope sTrimmed) := ⟨rfl, rfl, rfl, by decide +kernel, rfl, by decide +kernel, by decide +kernel⟩
def spTrimmed (K : PySem.W.Frag) : Sp := fun vs H Q _ => ∃ (v : V) (c : Chain), vs = [v] ∧ Dp K H v (dChain c) ∧ ChainOk c ∧ Gives K H Q (dChain (trim c))
theorem ok_trimmed (B : Blt mg) (D : Df K mg "trimmed" sTrimmed ["chain"]) (G : Fx P w K mg base 5 "check_chain" ["value"] (spCheckChain K)) : Fx P w K mg base 6 "trimmed" ["chain"] (spTrimmed K) := by
  refine D.ok scTrimmed (fun vs H Q E h => ?_) (fun f cdv A outer s H vs Q E hr h => ?_)
  · obtain ⟨a, b, rfl, _⟩ := h
    rfl
  obtain ⟨v, c, rfl, hd, hok, q⟩ := h
  refine ⟨_, pss_cons (ps_expr (pe_fx G hr (pa_cons (pv 0) pa_nil)))
    (pss_cons (ps_par (i := 1) (j := 2) (by rfl) scTrimmed.nd rfl rfl (by decide) rfl rfl (pa_cons (pe_lst pa_nil) (pa_cons pe_non pa_nil)) (by rfl))
    (pss_cons (ps_for PassesOwn.never rfl (pi_tup (pv 0)) (pg_tup rfl (pgs_cons (pg_name (i := 3) scTrimmed.nd rfl (.inl rfl)) (pgs_cons (pg_name (i := 4) scTrimmed.nd rfl (.inl rfl)) pgs_nil)))
      (pss_one (ps_if (PW.pt (pw_or (pt_cmp (pc_isN (pv 2))) (pw_or1 (pt_cmpR op_lt (pv 3) (pv 2) (nomark _)))))
        (pss_cons (ps_expr (pe_bm PySem.F.plainAttrs_list PySem.F.slot_list_append PySem.F.type_list_append mt_append (pv 1) (pa_cons (pe_tup (pa_cons (pv 3) (pa_cons (pv 4) pa_nil))) pa_nil)))
        (pss_one (ps_set (i := 2) scTrimmed.nd rfl (.inl rfl) (pv 3)))) pss_nil)))
    (pss_one (ps_ret (pe_callTy call_tuple_of (by rfl) B.tuple PyProof.Rows.boot_tuple (pa_cons (pv 1) pa_nil)))))), ?_⟩
  refine ⟨_, rfl, v, c, rfl, hd, hok, fun H0 sm => ?_⟩
  obtain ⟨a, xs, rfl, hs, hx⟩ := dp_chain (Dp.same sm _ _ hd)
  have hl : xs.length = c.length := by rw [hx.len, List.length_map]
  refine ⟨Nat.zero_le _, fun L hL => ⟨_, _, rfl, ?_⟩⟩
  refine ⟨_, rfl, a, rfl, ⟨xs, (same_new hL _).tup hs⟩, for_tup (K := K) (a := a) (xs := xs) (fun i σ H1 => ∃ y3 y4 acc, σ = [some (.ref a), some (.ref L), some (vO (trimS (c.take i)).2), y3, y4] ∧ Same H0 H1 ∧ H1 L = some (.lst acc) ∧ DpAll K H1 acc ((trimS (c.take i)).1.map dStep))
    ⟨none, none, [], rfl, same_new hL _, upd_same, .nil⟩ (fun i σ H1 _ p => ?_) (fun i x σ H1 hi p => ?_) (fun σ H1 p => ?_)⟩
  · obtain ⟨y3, y4, acc, rfl, s1, _⟩ := p
    exact s1.tup hs
  · obtain ⟨y3, y4, acc, rfl, s1, hL1, hacc⟩ := p
    obtain ⟨st, e1, e2⟩ := dpc_get hx hi
    obtain ⟨b, rfl, hb⟩ := dp_step (Dp.same s1 _ _ e2)
    have et : c.take (i + 1) = c.take i ++ [st] := by rw [List.take_add_one, e1]; rfl
    have hlen : acc.length < sizeLine := by
      rw [hacc.len, List.length_map]
      have h1 := trim_len (c.take i)
      rw [List.length_take] at h1
      have := hok.le
      exact small1000 (by omega)
    rw [et, trimS_snoc]
    refine ⟨b, _, rfl, hb, rfl, _, _, rfl, _, _, rfl, rfl, ?_⟩
    -- the step is taken
    have take : ∀ {D : Ends} {m : Option Nat}, (∀ p, H1 p = none → D.nx [some (.ref a), some (.ref L), some (.int (st.1 : Nat)), some (.int (st.1 : Nat)), some (.str st.2.str)] (upd (upd H1 p (.tup [.int (st.1 : Nat), .str st.2.str])) L (.lst (acc ++ [.ref p])))) → tSeq (tDrop (tBM K "list" (fun x vs H Q => rAppend x vs H Q) (tVar 1) (tCons (tTup (tCons (tVar 3) (tCons (tVar 4) tNil))) tNil))) (tAsg (tVar 3) (gName 2)) D [some (.ref a), some (.ref L), some (vO m), some (.int (st.1 : Nat)), some (.str st.2.str)] H1 := by
      intro D m hq
      refine ⟨_, rfl, .inl ⟨rfl, _, .inl (.inl hL1)⟩, _, rfl, _, rfl, (by show 2 ≤ sizeLine; decide), fun p hp => ⟨L, acc, _, rfl, rfl, ?_, hlen, _, rfl, hq p hp⟩⟩
      rw [upd_ne (ne_of_none hL1 hp)]
      exact hL1
    have next : ∀ p, H1 p = none → Same H0 (upd (upd H1 p (.tup [.int (st.1 : Nat), .str st.2.str])) L (.lst (acc ++ [.ref p]))) ∧ (upd (upd H1 p (.tup [.int (st.1 : Nat), .str st.2.str])) L (.lst (acc ++ [.ref p]))) L = some (.lst (acc ++ [.ref p])) ∧
        DpAll K (upd (upd H1 p (.tup [.int (st.1 : Nat), .str st.2.str])) L (.lst (acc ++ [.ref p]))) (acc ++ [.ref p]) (((trimS (c.take i)).1 ++ [st]).map dStep) := by
      intro p hp
      have hL2 : (upd H1 p (.tup [.int (st.1 : Nat), .str st.2.str])) L = some (.lst acc) := by
        rw [upd_ne (ne_of_none hL1 hp)]
        exact hL1
      refine ⟨(s1.trans (same_new hp _)).put hL, upd_same, ?_⟩
      rw [List.map_append]
      refine dpa_still hL2 _ _ ?_ ((DpAll.same (same_new hp _) _ _ hacc).append (.cons (Dp.mkPair upd_same (.int _) (.str _)) .nil))
      rw [← List.map_append]
      exact stillAll_map _ still_step _
    cases hm : (trimS (c.take i)).2 with
    | none =>
      have e3 : tstep (trimS (c.take i)) st = ((trimS (c.take i)).1 ++ [st], some st.1) := by
        unfold tstep
        rw [hm]
        rfl
      rw [e3]
      refine ⟨_, rfl, _, rfl, ?_⟩
      refine iteT (iteT (take (m := none) fun p hp => ?_))
      obtain ⟨n1, n2, n3⟩ := next p hp
      exact ⟨_, _, _, rfl, n1, n2, n3⟩
    | some l =>
      refine ⟨_, rfl, _, rfl, iteF ⟨_, rfl, _, rfl, _, _, rfl, rfl, _, rfl, ?_⟩⟩
      by_cases hlt : st.1 < l
      · have e3 : tstep (trimS (c.take i)) st = ((trimS (c.take i)).1 ++ [st], some st.1) := by
          unfold tstep
          rw [hm]
          simp [hlt]
        rw [e3, decide_eq_true (show (st.1 : Int) < (l : Int) by omega)]
        refine iteT (take (m := some l) fun p hp => ?_)
        obtain ⟨n1, n2, n3⟩ := next p hp
        exact ⟨_, _, _, rfl, n1, n2, n3⟩
      · have e3 : tstep (trimS (c.take i)) st = trimS (c.take i) := by
          unfold tstep
          rw [hm]
          simp [hlt]
        rw [e3, decide_eq_false (show ¬ (st.1 : Int) < (l : Int) by omega)]
        refine iteF ⟨some (.int (st.1 : Nat)), some (.str st.2.str), acc, ?_, s1, hL1, hacc⟩
        rw [hm]
        rfl
  · obtain ⟨y3, y4, acc, rfl, s1, hL1, hacc⟩ := p
    rw [hl, List.take_length] at hacc
    refine ⟨_, rfl, L, acc, rfl, .inl ⟨.inl (.inl hL1), fun p hp => q _ _ (sm.trans (s1.trans (same_new hp _))) (Dp.newTup hp hacc)⟩⟩
end
end K69
set_option Elab.async false
set_option linter.all false
set_option maxRecDepth 100000
set_option maxHeartbeats 4000000
namespace K69
open PySem PySem.Spec PyProof.Rows L2 SR
section
variable {X : Cx}
theorem op_shlNat : OpR X (binaryOp .LShift) (fun x y H Q => ∃ a k : Nat, x = .int (a : Int) ∧ y = .int (k : Int) ∧ a < 2 ^ 64 ∧ k ≤ 1000000 ∧ Q (.int ((a * 2 ^ k : Nat) : Int)) H) := by
  intro pins s σ H x y v u Q I rx ry h
  obtain ⟨a, k, rfl, rfl, ha, hk, q⟩ := h
  refine op_shl pins s σ H _ _ v u Q I rx ry ⟨_, _, rfl, rfl, ⟨Int.natCast_nonneg _, by omega, by simpa using ha⟩, ?_⟩
  have e : ((a : Int) * 2 ^ ((k : Int)).toNat) = ((a * 2 ^ k : Nat) : Int) := by push_cast; rw [Int.toNat_natCast]
  show Q (.int ((a : Int) * 2 ^ ((k : Int)).toNat)) H
  rw [e]
  exact q
theorem op_modNat : OpR X (binaryOp .Mod) (fun x y H Q => ∃ a k : Nat, x = .int (a : Int) ∧ y = .int (k : Int) ∧ 0 < k ∧ Q (.int ((a % k : Nat) : Int)) H) := by
  intro pins s σ H x y v u Q I rx ry h
  obtain ⟨a, k, rfl, rfl, hk, q⟩ := h
  exact op_mod pins s σ H _ _ v u Q I rx ry ⟨_, _, rfl, rfl, by omega, q⟩
theorem op_shrNat : OpR X (binaryOp .RShift) (fun x y H Q => ∃ a k : Nat, x = .int (a : Int) ∧ y = .int (k : Int) ∧ Q (.int ((a / 2 ^ k : Nat) : Int)) H) := by
  intro pins s σ H x y v u Q I rx ry h
  obtain ⟨a, k, rfl, rfl, q⟩ := h
  refine op_shrN pins s σ H _ _ v u Q I rx ry ⟨_, _, rfl, rfl, ?_⟩
  have e : ((a : Int) / 2 ^ k) = ((a / 2 ^ k : Nat) : Int) := by push_cast; rfl
  rw [e]
  exact q
end
theorem ld_pos {r : Rule} {far par : Nat} (hf : 1 ≤ far) (h : (sel (byRule r) par).up = true) : 1 ≤ (sel (byRule r) par).n * 2 ^ far / (sel (byRule r) par).d := by
  obtain ⟨f, rfl⟩ : ∃ f, far = f + 1 := ⟨far - 1, by omega⟩
  have p : 0 < 2 ^ f := Nat.two_pow_pos f
  rcases kinds r par with k | k | k | k <;> rw [k] at h ⊢
  · simp only [never]
    rw [Nat.one_mul, Nat.div_one, Nat.pow_succ]
    omega
  · exact absurd h (by decide)
  · exact absurd h (by decide)
  · simp only [tieUp]
    rw [half_pow]
    omega
theorem side_eq (u : Bool) : decide (V.str (side u) = V.str "down") = !u := by cases u <;> decide +kernel
theorem dp_th {K : PySem.W.Frag} {H : Hp} {v : V} {t : Th} (h : Dp K H v (dTh t)) : ∃ a b, v = .ref a ∧ SqT K H a [.ref b, .str (side t.up)] ∧ SqT K H b [.int (t.n : Nat), .int (t.d : Nat)] := by
  obtain ⟨a, x, y, rfl, h1, h2, h3⟩ := h.pair_inv
  obtain ⟨b, x2, y2, rfl, h4, h5, h6⟩ := h2.pair_inv
  rw [h3.str_inv] at h1
  rw [h5.int_inv, h6.int_inv] at h4
  exact ⟨a, b, rfl, h1, h4⟩
theorem dp_pair {K : PySem.W.Frag} {H : Hp} {v : V} {T : Th × Th} (h : Dp K H v (dP T)) : ∃ a x y, v = .ref a ∧ SqT K H a [x, y] ∧ Dp K H x (dTh T.1) ∧ Dp K H y (dTh T.2) := h.pair_inv
theorem pair_at {K : PySem.W.Frag} {H : Hp} {x y : V} {T : Th × Th} (hx : Dp K H x (dTh T.1)) (hy : Dp K H y (dTh T.2)) (i : Nat) (hi : i < 2) : ∃ z, atI [x, y] (i : Int) = some z ∧ Dp K H z (dTh (sel T i)) := by
  match i, hi with
  | 0, _ => exact ⟨x, rfl, hx⟩
  | 1, _ => exact ⟨y, rfl, hy⟩
section
variable {P : Program} {w : World} {K : PySem.W.Frag} {mg : Str → Option Value} {base : Heap}
abbrev sLastDown : Stmt := topS 32
theorem scLastDown : FnScope ["rule", "far", "parity", "t", "side", "parts", "index"] ["rule", "far", "parity"] (defScope sLastDown) := ⟨rfl, rfl, rfl, by decide +kernel, rfl, by decide +kernel, by decide +kernel⟩
def spLastDown : Sp := fun vs H Q _ => ∃ (r : Rule) (far par : Nat), vs = [.str r.str, .int (far : Nat), .int (par : Nat)] ∧ (1 ≤ far ∧ far ≤ 1000) ∧ par < 2 ∧ Q (.int (lastDown r far par : Nat)) H
theorem ok_last_down (T : Tf K w mg) (D : Df K mg "last_down" sLastDown ["rule", "far", "parity"]) : Fx P w K mg base 1 "last_down" ["rule", "far", "parity"] spLastDown := by
  refine D.ok scLastDown (fun vs H Q E h => ?_) (fun f cdv A outer s H vs Q E hr h => ?_)
  · obtain ⟨a, b, c, rfl, _⟩ := h
    rfl
  obtain ⟨r, far, par, rfl, ⟨hf1, hf2⟩, hp, q⟩ := h
  obtain ⟨d, hd, hB⟩ := T.byRule
  obtain ⟨ar, hk, hdp⟩ := hB r
  obtain ⟨ap, x, y, e1, hs, hx, hy⟩ := dp_pair (hdp H)
  cases e1
  obtain ⟨z, hz, hdz⟩ := pair_at hx hy par hp
  obtain ⟨a, b, rfl, ha, hb⟩ := dp_th hdz
  obtain ⟨tt, htt⟩ := T.down
  refine ⟨_, pss_cons (ps_asg (pe_ix ix_tup (pe_ix ix_kdict (pe_glob (v := .ref d) (by rfl) hd rfl) (pv 0) (fun _ _ => rfl)) (pv 2) (fun _ _ => rfl)) (pg_tup rfl (pgs_cons (pg_name (i := 3) scLastDown.nd rfl (.inl rfl)) (pgs_cons (pg_name (i := 4) scLastDown.nd rfl (.inl rfl)) pgs_nil))))
    (pss_cons (ps_set (i := 5) scLastDown.nd rfl (.inl rfl) (pe_op op_shlNat pe_int (pv 1)))
    (pss_cons (ps_set (i := 6) scLastDown.nd rfl (.inl rfl) (pe_op op_fdivNN (pe_op op_mulN (pe_ix ix_tup (pv 3) pe_int (fun _ _ => rfl)) (pv 5)) (pe_ix ix_tup (pv 3) pe_int (fun _ _ => rfl))))
    (pss_one (ps_ret (pe_ifExp (pt_cmpR op_eq (pv 4) (pe_glob (v := .str "down") (by rfl) htt ⟨tt, rfl⟩) (nomark _)) (pv 6) (pe_op op_sub (pv 6) pe_int)))))), ?_⟩
  refine ⟨_, rfl, d, r.str, .ref ar, rfl, rfl, hk, _, rfl, ar, _, _, _, rfl, rfl, hs, hz, a, _, rfl, ha, rfl, _, _, rfl, _, _, rfl, rfl, ?_⟩
  refine ⟨_, rfl, 1, far, rfl, rfl, by decide, by omega, ?_⟩
  have gd := good_byRule r par
  refine ⟨_, rfl, b, _, _, .int ((sel (byRule r) par).n : Nat), rfl, rfl, hb, rfl, _, rfl, (sel (byRule r) par).n, 1 * 2 ^ far, rfl, rfl, ?_, _, rfl, b, _, _, .int ((sel (byRule r) par).d : Nat), rfl, rfl, hb, rfl, _, (sel (byRule r) par).d, rfl, rfl, ?_, ?_⟩
  · have : (sel (byRule r) par).n ≤ 1 := by rcases kinds r par with k | k | k | k <;> rw [k] <;> decide
    omega
  · have : (sel (byRule r) par).d ≤ 2 := by rcases kinds r par with k | k | k | k <;> rw [k] <;> decide
    have := gd.pos
    omega
  refine ⟨_, rfl, rfl, _, rfl, ?_⟩
  rw [side_eq]
  unfold lastDown at q
  simp only at q
  rw [Nat.one_mul]
  cases hu : (sel (byRule r) par).up with
  | false =>
    rw [hu] at q
    exact iteT ⟨_, rfl, q⟩
  | true =>
    have h1 := ld_pos (r := r) (par := par) hf1 hu
    rw [hu] at q
    refine iteF ⟨_, rfl, _, _, rfl, rfl, ?_⟩
    have e : (((sel (byRule r) par).n * 2 ^ far / (sel (byRule r) par).d : Nat) : Int) - 1 = (((sel (byRule r) par).n * 2 ^ far / (sel (byRule r) par).d - 1 : Nat) : Int) := by omega
    show Q (.int ((((sel (byRule r) par).n * 2 ^ far / (sel (byRule r) par).d : Nat) : Int) - 1)) H
    rw [e]
    exact q
end
end K69
set_option Elab.async false
set_option linter.all false
set_option maxRecDepth 100000
set_option maxHeartbeats 4000000
namespace K69
open PySem PySem.Spec PyProof.Rows L2 SR
theorem still_thmap (l : List Th) : stillAll (l.map dTh) = true := stillAll_map _ still_th l
/-- an item is appended: (lowest .., side) as a new tuple at p -/
theorem app_still {K : PySem.W.Frag} {H1 H2 : Hp} {L : Addr} {acc : List V} {ds : List PyData} {x : V} {d : PyData} (e : H2 L = some (.lst acc)) (s : Same H1 H2) (h : DpAll K H1 acc ds) (hx : Dp K H2 x d) (h1 : stillAll ds = true) (h2 : still d = true) :
    DpAll K (upd H2 L (.lst (acc ++ [x]))) (acc ++ [x]) (ds ++ [d]) := by
  refine dpa_still e _ _ ?_ ((DpAll.same s _ _ h).append (.cons hx .nil))
  have : ∀ (l : List PyData), stillAll l = true → stillAll (l ++ [d]) = true := by
    intro l
    induction l with
    | nil => intro _; rw [List.nil_append, stillAll, h2]; rfl
    | cons a l ih =>
      intro h
      rw [stillAll, Bool.and_eq_true] at h
      rw [List.cons_append, stillAll, h.1, ih h.2]
      rfl
  exact this ds h1
section
variable {P : Program} {w : World} {K : PySem.W.Frag} {mg : Str → Option Value} {base : Heap}
abbrev sCombined : Stmt := topS 33
theorem scCombined : FnScope ["pair", "rule", "far", "found", "parity", "index", "n", "d", "side"] ["pair", "rule", "far"] (defScope sCombined) := ⟨rfl, rfl, rfl, by decide +kernel, rfl, by decide +kernel, by decide +kernel⟩
def spCombined (K : PySem.W.Frag) : Sp := fun vs H Q _ => ∃ (v : V) (T : Th × Th) (r : Rule) (far : Nat), vs = [v, .str r.str, .int (far : Nat)] ∧ Dp K H v (dP T) ∧ (∀ i, Good (sel T i)) ∧ (1 ≤ far ∧ far ≤ 1000) ∧ (∀ i, (sel T i).d * 2 ^ far < 1073741824) ∧ Gives K H Q (dP (combined T r far))
theorem ok_combined (B : Blt mg) (D : Df K mg "combined" sCombined ["pair", "rule", "far"]) (G1 : Fx P w K mg base 1 "last_down" ["rule", "far", "parity"] spLastDown) (G2 : Fx P w K mg base 2 "lowest" ["n", "d"] spLowest) : Fx P w K mg base 3 "combined" ["pair", "rule", "far"] (spCombined K) := by
  refine D.ok scCombined (fun vs H Q E h => ?_) (fun f cdv A outer s H vs Q E hr h => ?_)
  · obtain ⟨a, b, c, d, rfl, _⟩ := h
    rfl
  obtain ⟨v, T, r, far, rfl, hd, hg, ⟨hf1, hf2⟩, hsz, q⟩ := h
  obtain ⟨ap, x, y, rfl, hs, hx, hy⟩ := dp_pair hd
  refine ⟨_, pss_cons (ps_set (i := 3) scCombined.nd rfl (.inl rfl) (pe_lst pa_nil))
    (pss_cons (ps_for PassesOwn.never rfl (pi_tup (pe_tup (pa_cons pe_int (pa_cons pe_int pa_nil)))) (pg_name (i := 4) scCombined.nd rfl (.inl rfl))
      (pss_cons (ps_set (i := 5) scCombined.nd rfl (.inl rfl) (pe_fx G1 (hr.mono (by decide)) (pa_cons (pv 1) (pa_cons (pv 2) (pa_cons (pv 4) pa_nil)))))
      (pss_cons (ps_asg (pe_ix ix_tup (pv 0) (pe_op op_modNat (pv 5) pe_int) (fun _ _ => rfl)) (pg_tup rfl (pgs_cons (pg_tup rfl (pgs_cons (pg_name (i := 6) scCombined.nd rfl (.inl rfl)) (pgs_cons (pg_name (i := 7) scCombined.nd rfl (.inl rfl)) pgs_nil))) (pgs_cons (pg_name (i := 8) scCombined.nd rfl (.inl rfl)) pgs_nil))))
      (pss_one (ps_expr (pe_bm PySem.F.plainAttrs_list PySem.F.slot_list_append PySem.F.type_list_append mt_append (pv 3) (pa_cons (pe_tup (pa_cons (pe_fx G2 hr (pa_cons (pe_op op_addN (pe_op op_mulN (pv 5) (pv 7)) (pv 6)) (pa_cons (pe_op op_shlNat (pv 7) (pv 2)) pa_nil))) (pa_cons (pv 8) pa_nil))) pa_nil)))))))
    (pss_one (ps_ret (pe_callTy call_tuple_of (by rfl) B.tuple PyProof.Rows.boot_tuple (pa_cons (pv 3) pa_nil))))), ?_⟩
  refine ⟨Nat.zero_le _, fun L hL => ⟨(by show 2 ≤ sizeLine; decide), fun pT hpT => ?_⟩⟩
  have s0 : Same H (upd H L (.lst [])) := same_new hL _
  have s1 : Same (upd H L (.lst [])) (upd (upd H L (.lst [])) pT (.tup [.int 0, .int 1])) := same_new hpT _
  have hLT : L ≠ pT := fun e => by rw [← e, upd_same] at hpT; cases hpT
  refine ⟨pT, rfl, ⟨_, SqT.of upd_same⟩, for_tup (K := K) (a := pT) (xs := [.int 0, .int 1]) (fun i σ H1 => ∃ y4 y5 y6 y7 y8 acc, σ = [some (.ref ap), some (.str r.str), some (.int (far : Nat)), some (.ref L), y4, y5, y6, y7, y8] ∧ Same (upd H pT (.tup [.int 0, .int 1])) H1 ∧ H1 L = some (.lst acc) ∧ DpAll K H1 acc ((((List.range i).map fun par => comb1 T r far par)).map dTh))
    ⟨none, none, none, none, none, [], rfl, ?_, ?_, .nil⟩ (fun i σ H1 _ p => ?_) (fun i z σ H1 hi p => ?_) (fun σ H1 p => ?_)⟩
  · intro b u e
    by_cases hb : b = pT
    · subst hb
      rw [upd_same] at e ⊢
      exact e
    · rw [upd_ne hb] at e ⊢
      exact s0 _ _ e
  · rw [upd_ne hLT, upd_same]
  · obtain ⟨_, _, _, _, _, _, _, s2, _⟩ := p
    exact SqT.of (s2 _ _ upd_same)
  · obtain ⟨y4, y5, y6, y7, y8, acc, rfl, s2, hLa, hacc⟩ := p
    have hpTH : H pT = none := s0.free hpT
    have sH : Same H H1 := (same_new hpTH _).trans s2
    have hi2 : i < 2 := (List.getElem?_eq_some_iff.mp hi).1
    have hz : z = .int (i : Nat) := by
      match i, hi2, hi with
      | 0, _, h => exact (Option.some.inj h).symm
      | 1, _, h => exact (Option.some.inj h).symm
    subst hz
    obtain ⟨f, rfl⟩ : ∃ f, far = f + 1 := ⟨far - 1, by omega⟩
    have hld := ld_lt r f i
    obtain ⟨z, hz1, hz2⟩ := pair_at hx hy (lastDown r (f + 1) i % 2) (by omega)
    rw [sel_mod] at hz2
    have gt := hg (lastDown r (f + 1) i)
    have szt := hsz (lastDown r (f + 1) i)
    have hcd : comb1 T r (f + 1) i = mkTh (red (lastDown r (f + 1) i * (sel T (lastDown r (f + 1) i)).d + (sel T (lastDown r (f + 1) i)).n) ((sel T (lastDown r (f + 1) i)).d * 2 ^ (f + 1))) (sel T (lastDown r (f + 1) i)).up := rfl
    generalize hidx : lastDown r (f + 1) i = idx at *
    generalize sel T idx = t at hz2 gt szt hcd
    obtain ⟨a, b, rfl, ha, hb⟩ := dp_th (Dp.same sH _ _ hz2)
    refine ⟨_, rfl, _, rfl, _, rfl, r, f + 1, i, rfl, ⟨hf1, hf2⟩, hi2, ?_⟩
    rw [hidx]
    refine ⟨_, rfl, _, rfl, idx, 2, rfl, rfl, by decide, ap, [x, y], _, .ref a, rfl, rfl, sH.tup hs, hz1, a, _, rfl, ha, rfl, _, _, rfl, b, _, rfl, hb, rfl, _, _, rfl, _, _, rfl, rfl, _, _, rfl, rfl, ?_⟩
    have hdpos := gt.pos
    have hp2 : 0 < 2 ^ (f + 1) := Nat.two_pow_pos _
    have hpow : 2 ^ (f + 1) < 1073741824 := by
      have : 1 * 2 ^ (f + 1) ≤ t.d * 2 ^ (f + 1) := Nat.mul_le_mul_right _ hdpos
      omega
    refine ⟨_, rfl, .inl ⟨rfl, _, .inl (.inl hLa)⟩, _, rfl, _, rfl, idx, t.d, rfl, rfl, by omega, _, rfl, idx * t.d, t.n, rfl, rfl, _, rfl, _, rfl, t.d, f + 1, rfl, rfl, ?_, by omega, ?_⟩
    · have : t.d * 1 ≤ t.d * 2 ^ (f + 1) := Nat.mul_le_mul_left _ hp2
      omega
    refine ⟨_, _, rfl, Nat.mul_pos hdpos hp2, Nat.lt_of_le_of_lt (Nat.le_of_dvd (Nat.mul_pos hdpos hp2) (Nat.gcd_dvd_right _ _)) szt, fun p H2 s3 hp => ?_⟩
    refine ⟨_, rfl, (by show 2 ≤ sizeLine; decide), fun p2 hp2' => ?_⟩
    have s4 : Same H2 (upd H2 p2 (.tup [.ref p, .str (side t.up)])) := same_new hp2' _
    have hLa2 : (upd H2 p2 (.tup [.ref p, .str (side t.up)])) L = some (.lst acc) := s4 _ _ (s3 _ _ hLa)
    refine ⟨L, acc, _, rfl, rfl, hLa2, ?_, some (.int (i : Nat)), some (.int (idx : Nat)), some (.int (t.n : Nat)), some (.int (t.d : Nat)), some (.str (side t.up)), _, rfl, ?_, upd_same, ?_⟩
    · rw [hacc.len, List.length_map, List.length_map, List.length_range]
      exact small1000 (by omega)
    · intro b' u e
      have : b' ≠ L := fun z => by
        subst z
        rw [upd_ne hLT, hL] at e
        cases e
      rw [upd_ne this]
      exact s4 _ _ (s3 _ _ (s2 _ _ e))
    · rw [List.range_succ, List.map_append, List.map_append]
      refine app_still hLa2 (s3.trans s4) hacc ?_ (still_thmap _) (still_th _)
      show Dp K _ _ (dTh (comb1 T r (f + 1) i))
      rw [hcd]
      exact Dp.mkPair upd_same (Dp.mkPair (s4 _ _ hp) (.int _) (.int _)) (.str _)
  · obtain ⟨y4, y5, y6, y7, y8, acc, rfl, s2, hLa, hacc⟩ := p
    have hpTH : H pT = none := s0.free hpT
    exact ⟨_, rfl, L, acc, rfl, .inl ⟨.inl (.inl hLa), fun p hp => q _ _ ((same_new hpTH _).trans (s2.trans (same_new hp _))) (Dp.newTup hp hacc)⟩⟩
end
end K69
set_option Elab.async false
set_option linter.all false
set_option maxRecDepth 100000
set_option maxHeartbeats 4000000
namespace K69
open PySem PySem.Spec PyProof.Rows L2 SR
theorem cut_from1 (xs : List V) (h : xs ≠ []) : cutV xs (some 1) none = xs.drop 1 := by
  unfold cutV
  have h1 : 1 ≤ xs.length := by
    cases xs with
    | nil => exact absurd rfl h
    | cons _ _ => simp
  rw [show HT.sIx xs.length 0 (some 1) = min 1 xs.length from HT.sIx_nat xs.length 0 1, HT.sIx_none]
  rw [Nat.min_eq_left h1]
  exact List.take_of_length_le (by rw [List.length_drop]; exact Nat.le_refl _)
theorem not_whole1 {n : Nat} (h : 1 ≤ n) : ¬ (HT.sIx n 0 (some 1) = 0 ∧ HT.sIx n n none = n) := by
  rintro ⟨h1, _⟩
  rw [show HT.sIx n 0 (some 1) = min 1 n from HT.sIx_nat n 0 1, Nat.min_eq_left h] at h1
  exact absurd h1 (by decide)
section
variable {P : Program} {w : World} {K : PySem.W.Frag} {mg : Str → Option Value} {base : Heap}
abbrev sThresholds : Stmt := topS 34
theorem scThresholds : FnScope ["chain", "steps", "width", "rule", "found", "narrower"] ["chain"] (defScope sThresholds) := ⟨rfl, rfl, rfl, by decide +kernel, rfl, by decide +kernel, by decide +kernel⟩
def spThresholds (K : PySem.W.Frag) : Sp := fun vs H Q _ => ∃ (v : V) (c : Chain) (wd : Nat) (r : Rule) (gs : List (Nat × Rule)), vs = [v] ∧ Dp K H v (dChain c) ∧ ChainOk c ∧ trim c = toC wd r gs ∧ GapsOk gs ∧ total gs ≤ 24 ∧ Gives K H Q (dW (wantedOf wd (T r gs)))
theorem ok_thresholds (Tc : Tf K w mg) (D : Df K mg "thresholds" sThresholds ["chain"]) (G1 : Fx P w K mg base 6 "trimmed" ["chain"] (spTrimmed K)) (G2 : Fx P w K mg base 3 "combined" ["pair", "rule", "far"] (spCombined K)) : Fx P w K mg base 7 "thresholds" ["chain"] (spThresholds K) := by
  refine D.ok scThresholds (fun vs H Q E h => ?_) (fun f cdv A outer s H vs Q E hr h => ?_)
  · obtain ⟨_, _, _, _, _, rfl, _⟩ := h
    rfl
  obtain ⟨v, c, wd, r, gs, rfl, hd, hok, htr, hg, htot, q⟩ := h
  obtain ⟨dB, hdB, hB⟩ := Tc.byRule
  refine ⟨_, pss_cons (ps_set (i := 1) scThresholds.nd rfl (.inl rfl) (pe_fx G1 hr (pa_cons (pv 0) pa_nil)))
    (pss_cons (ps_asg (pe_ix ix_tup (pv 1) pe_int (fun _ _ => rfl)) (pg_tup rfl (pgs_cons (pg_name (i := 2) scThresholds.nd rfl (.inl rfl)) (pgs_cons (pg_name (i := 3) scThresholds.nd rfl (.inl rfl)) pgs_nil))))
    (pss_cons (ps_set (i := 4) scThresholds.nd rfl (.inl rfl) (pe_ix ix_kdict (pe_glob (v := .ref dB) (by rfl) hdB rfl) (pv 3) (fun _ _ => rfl)))
    (pss_cons (ps_for PassesOwn.never rfl (pi_tup (pe_slice sl_tupA (pv 1) (po_some pe_int) po_none)) (pg_tup rfl (pgs_cons (pg_name (i := 5) scThresholds.nd rfl (.inl rfl)) (pgs_cons (pg_name (i := 3) scThresholds.nd rfl (.inl rfl)) pgs_nil)))
      (pss_cons (ps_set (i := 4) scThresholds.nd rfl (.inl rfl) (pe_fx G2 (hr.mono (by decide)) (pa_cons (pv 4) (pa_cons (pv 3) (pa_cons (pe_op op_subN (pv 2) (pv 5)) pa_nil)))))
      (pss_one (ps_set (i := 2) scThresholds.nd rfl (.inl rfl) (pv 5)))))
    (pss_one (ps_ret (pe_ifExp (pt_cmpR op_gt (pv 2) pe_int (nomark _)) (pv 4) (pe_tup (pa_cons pe_non (pa_cons (pe_ix ix_tup (pv 4) pe_int (fun _ _ => rfl)) pa_nil))))))))), ?_⟩
  refine ⟨_, rfl, v, c, rfl, hd, hok, fun u H1 s1 hu => ?_⟩
  rw [htr] at hu
  obtain ⟨a, xs, rfl, hs, hx⟩ := dp_chain hu
  have hl : xs.length = gs.length + 1 := by rw [hx.len, List.length_map, toC_len]
  obtain ⟨st, rest, ec, ew⟩ := toC_head gs wd r
  have e0 : (toC wd r gs)[0]? = some st := by rw [ec]; rfl
  obtain ⟨x0, hx0, hdx0⟩ := dpc_at hx e0
  obtain ⟨b, rfl, hb⟩ := dp_step hdx0
  refine ⟨_, rfl, a, xs, 0, .ref b, rfl, rfl, hs, atI_nat hx0, b, _, rfl, hb, rfl, _, _, rfl, _, _, rfl, rfl, ?_⟩
  obtain ⟨aB, hk, hdB2⟩ := hB st.2
  refine ⟨_, rfl, dB, st.2.str, .ref aB, rfl, rfl, hk, ?_⟩
  have hne : xs ≠ [] := fun e => by rw [e] at hl; simp at hl
  refine ⟨_, rfl, _, rfl, a, xs, rfl, hs, fun hw => absurd hw (not_whole1 (by omega)), fun _ p hp => ?_⟩
  rw [cut_from1 xs hne]
  have s2 : Same H1 (upd H1 p (.tup (xs.drop 1))) := same_new hp _
  refine ⟨p, rfl, ⟨_, SqT.of upd_same⟩, for_tup (K := K) (a := p) (xs := xs.drop 1) (fun i σ H2 => ∃ y3 y5 F, σ = [some v, some (.ref a), some (.int ((thrF ((toC wd r gs).take (i + 1))).2 : Nat)), y3, some F, y5] ∧ Same (upd H1 p (.tup (xs.drop 1))) H2 ∧ Dp K H2 F (dP (thrF ((toC wd r gs).take (i + 1))).1))
    ⟨some (.str st.2.str), none, .ref aB, ?_, Same.refl _, ?_⟩ (fun i σ H2 _ p => ?_) (fun i x σ H2 hi p => ?_) (fun σ H2 p => ?_)⟩
  · rw [ec]; rfl
  · rw [ec]; exact hdB2 _
  · obtain ⟨_, _, _, _, s3, _⟩ := p
    exact SqT.of (s3 _ _ upd_same)
  · obtain ⟨y3, y5, F, rfl, s3, hF⟩ := p
    rw [List.getElem?_drop, Nat.add_comm] at hi
    obtain ⟨s', e1, e2⟩ := dpc_get hx hi
    have hi' := (List.getElem?_eq_some_iff.mp e1).1
    rw [toC_len] at hi'
    have et : (toC wd r gs).take (i + 2) = (toC wd r gs).take (i + 1) ++ [s'] := by rw [List.take_add_one, e1]; rfl
    obtain ⟨w2, r2, gs2, t1, t2, t3, t4⟩ := toC_take gs r wd (i + 2) (by omega) (by omega) hg
    rw [et] at t1
    obtain ⟨g, r3, gs3, rfl, rfl, t5⟩ := toC_snoc t1 (by
      intro z
      have := congrArg List.length z
      rw [List.length_take, toC_len] at this
      simp at this)
    have hg3 : GapsOk gs3 := fun p hp => t2 p (List.mem_cons_of_mem _ hp)
    have hg1 : 1 ≤ g := t2 (g, r3) List.mem_cons_self
    have htot2 : g + total gs3 ≤ 24 := by
      have e : total ((g, r3) :: gs3) = g + total gs3 := by unfold total; rw [List.map_cons, List.sum_cons]
      have : wd ≤ w2 := by
        -- the last width is the least
        have hmem : ∀ (gs : List (Nat × Rule)) (w : Nat) (r : Rule) (x : SR.Step), x ∈ toC w r gs → w ≤ x.1 := by
          intro gs
          induction gs with
          | nil => intro w r x hx; unfold toC at hx; simp at hx; subst hx; exact Nat.le_refl _
          | cons q gs ih =>
            intro w r x hx
            unfold toC at hx
            rcases List.mem_append.mp hx with hx | hx
            · have := ih _ _ _ hx; omega
            · simp at hx; subst hx; exact Nat.le_refl _
        exact hmem gs wd r (w2, r2) (List.mem_of_getElem? e1)
      omega
    obtain ⟨bb, rfl, hbb⟩ := dp_step (Dp.same (s2.trans s3) _ _ e2)
    rw [t5, thrF_toC] at hF ⊢
    refine ⟨bb, _, rfl, hbb, rfl, _, _, rfl, _, _, rfl, rfl, ?_⟩
    refine ⟨_, rfl, _, rfl, _, rfl, _, rfl, w2 + g, w2, rfl, rfl, by omega, F, T r3 gs3, r2, g, ?_, hF, good_T gs3 r3 hg3, ⟨hg1, by omega⟩, fun j => ?_, fun F2 H3 s4 hF2 => ?_⟩
    · rw [Nat.add_sub_cancel_left]; rfl
    · have h1 := T_den_le gs3 r3 j
      have h2 : (sel (T r3 gs3) j).d * 2 ^ g ≤ 2 ^ (total gs3 + 1) * 2 ^ g := Nat.mul_le_mul_right _ h1
      rw [← Nat.pow_add] at h2
      have h3 : 2 ^ (total gs3 + 1 + g) ≤ 2 ^ 25 := Nat.pow_le_pow_right (by decide) (by omega)
      have h4 : (2 : Nat) ^ 25 < 1073741824 := by decide
      omega
    · refine ⟨_, rfl, ?_⟩
      rw [show i + 1 + 1 = i + 2 from rfl, et, t1, thrF_toC]
      refine ⟨some (.str r2.str), some (.int (w2 : Nat)), F2, rfl, s3.trans s4, hF2⟩
  · obtain ⟨y3, y5, F, rfl, s3, hF⟩ := p
    have ef : (toC wd r gs).take ((xs.drop 1).length + 1) = toC wd r gs := by
      apply List.take_of_length_le
      rw [toC_len, List.length_drop]
      omega
    rw [ef, thrF_toC] at hF ⊢
    refine ⟨_, rfl, _, _, rfl, rfl, _, rfl, ?_⟩
    have sAll : Same H H2 := s1.trans (s2.trans s3)
    unfold wantedOf at q
    by_cases hw : wd > 1
    · rw [decide_eq_true (show (1 : Int) < ((wd : Nat) : Int) by omega)]
      rw [if_pos hw] at q
      exact iteT ⟨_, rfl, q _ _ sAll hF⟩
    · rw [decide_eq_false (show ¬ (1 : Int) < ((wd : Nat) : Int) by omega)]
      rw [if_neg hw] at q
      obtain ⟨aF, xF, yF, rfl, hsF, hxF, hyF⟩ := dp_pair hF
      refine iteF ⟨_, rfl, aF, _, _, yF, rfl, rfl, hsF, rfl, (by show 2 ≤ sizeLine; decide), fun p2 hp2 => ?_⟩
      exact q _ _ (sAll.trans (same_new hp2 _)) (Dp.newTup hp2 (.cons .non (.cons hyF .nil)))
end
end K69
set_option Elab.async false
set_option linter.all false
set_option maxRecDepth 100000
set_option maxHeartbeats 4000000
namespace K69
open PySem PySem.Spec PyProof.Rows L2 SR RZ
theorem walk_enumT {K : PySem.W.Frag} {a : Addr} {xs : List V} : Walk (IteT K a) xs.length (fun H => SqT K H a xs) (YPair (fun i => some (.int (i : Nat))) (fun i => xs[i]?)) := by
  refine ⟨fun i _ hi q => ⟨xs, xs[i], q, by simp [hi]⟩, fun _ q => ⟨xs, q, Nat.le_refl _⟩, fun i H v H' _ q y => ?_⟩
  obtain ⟨T, x, h1, h2, h3, h4⟩ := y
  exact ⟨T, .int (i : Nat), x, h1, h2, h3, rfl, h4 xs q⟩
theorem walk_zipT {K : PySem.W.Frag} {a b : Addr} {xs ys : List V} {n : Nat} (hn : n = min xs.length ys.length) : Walk (ItzT K a b) n (fun H => SqT K H a xs ∧ SqT K H b ys) (YPair (fun i => xs[i]?) (fun i => ys[i]?)) := by
  subst hn
  refine ⟨fun i _ hi q => ?_, fun _ q => ⟨xs, ys, q.1, q.2, by omega⟩, fun i H v H' _ q y => ?_⟩
  · have h1 : i < xs.length := by omega
    have h2 : i < ys.length := by omega
    exact ⟨xs, ys, xs[i], ys[i], q.1, q.2, by simp [h1], by simp [h2]⟩
  · obtain ⟨T, x, z, h1, h2, h3, h4, h5⟩ := y
    exact ⟨T, x, z, h1, h2, h3, h4 xs q.1, h5 ys q.2⟩
def dQ (q : Nat × Th) : PyData := .tuple [.int (q.1 : Nat), dTh q.2]
def dB : Option (Nat × Th) → PyData
  | none => .none
  | some q => dQ q
theorem still_q (q : Nat × Th) : still (dQ q) = true := rfl
theorem side_up (u : Bool) : decide (V.str (side u) = V.str "up") = u := by cases u <;> decide +kernel
section
variable {P : Program} {w : World} {K : PySem.W.Frag} {mg : Str → Option Value} {base : Heap}
abbrev sBeforeStep : Stmt := topS 36
theorem scBeforeStep : FnScope ["threshold", "rule", "far", "parity", "n", "d", "side", "index", "part"] ["threshold", "rule", "far", "parity"] (defScope sBeforeStep) := ⟨rfl, rfl, rfl, by decide +kernel, rfl, by decide +kernel, by decide +kernel⟩
def spBeforeStep (K : PySem.W.Frag) : Sp := fun vs H Q _ => ∃ (v : V) (t : Th) (r : Rule) (far par : Nat), vs = [v, .str r.str, .int (far : Nat), .int (par : Nat)] ∧ Dp K H v (dTh t) ∧ SR.Good t ∧ (1 ≤ far ∧ far ≤ 1000) ∧ t.d * 2 ^ far < 1073741824 ∧ par < 2 ∧ Gives K H Q (dB (before1 t r far par))
theorem ok_before_step (Tc : Tf K w mg) (D : Df K mg "before_step" sBeforeStep ["threshold", "rule", "far", "parity"]) (G1 : Fx P w K mg base 1 "last_down" ["rule", "far", "parity"] spLastDown) (G2 : Fx P w K mg base 2 "lowest" ["n", "d"] spLowest) : Fx P w K mg base 3 "before_step" ["threshold", "rule", "far", "parity"] (spBeforeStep K) := by
  refine D.ok scBeforeStep (fun vs H Q E h => ?_) (fun f cdv A outer s H vs Q E hr h => ?_)
  · obtain ⟨_, _, _, _, _, rfl, _⟩ := h
    rfl
  obtain ⟨v, t, r, far, par, rfl, hd, gt, ⟨hf1, hf2⟩, hsz, hp, q⟩ := h
  obtain ⟨a, b, rfl, ha, hb⟩ := dp_th hd
  obtain ⟨tu, hup⟩ := Tc.up
  obtain ⟨td, hdn⟩ := Tc.down
  refine ⟨_, pss_cons (ps_asg (pv 0) (pg_tup rfl (pgs_cons (pg_tup rfl (pgs_cons (pg_name (i := 4) scBeforeStep.nd rfl (.inl rfl)) (pgs_cons (pg_name (i := 5) scBeforeStep.nd rfl (.inl rfl)) pgs_nil))) (pgs_cons (pg_name (i := 6) scBeforeStep.nd rfl (.inl rfl)) pgs_nil))))
    (pss_cons (ps_set (i := 7) scBeforeStep.nd rfl (.inl rfl) (pe_fx G1 (hr.mono (by decide)) (pa_cons (pv 1) (pa_cons (pv 2) (pa_cons (pv 3) pa_nil)))))
    (pss_cons (ps_set (i := 8) scBeforeStep.nd rfl (.inl rfl) (pe_op op_sub (pe_op op_shlNat (pv 4) (pv 2)) (pe_op op_mulN (pv 7) (pv 5))))
    (pss_cons (ps_if (PW.pt (pw_or (pt_cmpR op_lt (pv 8) pe_int (nomark _)) (pw_or (pt_cmpR op_gt (pv 8) (pv 5) (nomark _))
        (pw_or (PW.pt (pw_and (pt_cmpR op_eq (pv 8) pe_int (nomark _)) (pw_and1 (pt_cmpR op_eq (pv 6) (pe_glob (v := .str "up") (by rfl) hup ⟨tu, rfl⟩) (nomark _)))))
        (pw_or1 (PW.pt (pw_and (pt_cmpR op_eq (pv 8) (pv 5) (nomark _)) (pw_and1 (pt_cmpR op_eq (pv 6) (pe_glob (v := .str "down") (by rfl) hdn ⟨td, rfl⟩) (nomark _)))))))))) (pss_one (ps_ret pe_non)) pss_nil)
    (pss_one (ps_ret (pe_tup (pa_cons (pe_op op_modNat (pv 7) pe_int) (pa_cons (pe_tup (pa_cons (pe_fx G2 hr (pa_cons (pv 8) (pa_cons (pv 5) pa_nil))) (pa_cons (pv 6) pa_nil))) pa_nil)))))))), ?_⟩
  obtain ⟨f', rfl⟩ : ∃ f, far = f + 1 := ⟨far - 1, by omega⟩
  have hld := ld_lt r f' par
  refine ⟨_, rfl, a, _, rfl, ha, rfl, _, _, rfl, b, _, rfl, hb, rfl, _, _, rfl, _, _, rfl, rfl, _, _, rfl, rfl, ?_⟩
  refine ⟨_, rfl, _, rfl, _, rfl, r, f' + 1, par, rfl, ⟨hf1, hf2⟩, hp, ?_⟩
  have hbe : before1 t r (f' + 1) par = if ((t.n : Int) * 2 ^ (f' + 1) - (lastDown r (f' + 1) par : Int) * t.d) < 0 ∨ ((t.n : Int) * 2 ^ (f' + 1) - (lastDown r (f' + 1) par : Int) * t.d) > t.d ∨ (((t.n : Int) * 2 ^ (f' + 1) - (lastDown r (f' + 1) par : Int) * t.d) = 0 ∧ t.up = true) ∨ (((t.n : Int) * 2 ^ (f' + 1) - (lastDown r (f' + 1) par : Int) * t.d) = t.d ∧ t.up = false) then none
    else some (lastDown r (f' + 1) par % 2, mkTh (red ((t.n : Int) * 2 ^ (f' + 1) - (lastDown r (f' + 1) par : Int) * t.d).toNat t.d) t.up) := rfl
  rw [hbe] at q
  clear hbe
  generalize lastDown r (f' + 1) par = idx at q hld ⊢
  have hdpos := gt.pos
  have hp2 : 0 < 2 ^ (f' + 1) := Nat.two_pow_pos _
  have hpow : 2 ^ (f' + 1) < 1073741824 := by
    have : 1 * 2 ^ (f' + 1) ≤ t.d * 2 ^ (f' + 1) := Nat.mul_le_mul_right _ hdpos
    omega
  have hdl : t.d < 1073741824 := by
    have : t.d * 1 ≤ t.d * 2 ^ (f' + 1) := Nat.mul_le_mul_left _ hp2
    omega
  have hnl := gt.le
  refine ⟨_, rfl, _, rfl, t.n, f' + 1, rfl, rfl, by omega, by omega, _, rfl, _, rfl, idx, t.d, rfl, rfl, by omega, _, _, rfl, rfl, ?_⟩
  have hz : ((t.n : Int) * 2 ^ (f' + 1) - (idx : Int) * t.d) = (((t.n * 2 ^ (f' + 1) : Nat) : Int) - ((idx * t.d : Nat) : Int)) := by push_cast; rfl
  rw [hz] at q
  dsimp only
  generalize (((t.n * 2 ^ (f' + 1) : Nat) : Int) - ((idx * t.d : Nat) : Int)) = z at q ⊢
  refine ⟨_, rfl, _, _, rfl, rfl, _, rfl, ?_⟩
  by_cases h1 : z < 0
  · rw [if_pos (.inl h1)] at q
    rw [decide_eq_true h1]
    exact iteT (iteT (q _ _ (Same.refl _) .non))
  rw [decide_eq_false h1]
  refine iteF ⟨_, rfl, _, rfl, _, _, rfl, rfl, _, rfl, ?_⟩
  by_cases h2 : (t.d : Int) < z
  · rw [if_pos (.inr (.inl h2))] at q
    rw [decide_eq_true h2]
    exact iteT (iteT (q _ _ (Same.refl _) .non))
  rw [decide_eq_false h2]
  refine iteF ?_
  -- the two ends
  have fin : ∀ {σ' : L2.St}, (¬ (z = 0 ∧ t.up = true)) → (¬ (z = t.d ∧ t.up = false)) → tRet (tTup (tCons (tOp (fun x y H Q => ∃ a k : Nat, x = .int (a : Int) ∧ y = .int (k : Int) ∧ 0 < k ∧ Q (.int ((a % k : Nat) : Int)) H) (tVar 7) (tC (.int 2))) (tCons (tTup (tCons (tCall spLowest [] E0 (tCons (tVar 8) (tCons (tVar 5) tNil))) (tCons (tVar 6) tNil))) tNil)))
      { nx := fun _ H' => Q .non H', rt := Q } [some (.ref a), some (.str r.str), some (.int ((f' + 1 : Nat) : Int)), some (.int (par : Nat)), some (.int (t.n : Nat)), some (.int (t.d : Nat)), some (.str (side t.up)), some (.int (idx : Nat)), some (.int z)] H := by
    intro σ' h3 h4
    rw [if_neg (by rintro (h | h | h | h); exact h1 h; exact h2 h; exact h3 h; exact h4 h)] at q
    obtain ⟨zn, rfl⟩ := Int.eq_ofNat_of_zero_le (Int.not_lt.mp h1)
    refine ⟨_, rfl, idx, 2, rfl, rfl, by decide, _, rfl, _, rfl, zn, t.d, rfl, hdpos, Nat.lt_of_le_of_lt (Nat.le_of_dvd hdpos (Nat.gcd_dvd_right _ _)) hdl, fun p H2 s2 hp => ?_⟩
    refine ⟨_, rfl, (by show 2 ≤ sizeLine; decide), fun p2 hp2 => ⟨(by show 2 ≤ sizeLine; decide), fun p3 hp3 => ?_⟩⟩
    have s3 : Same H2 (upd H2 p2 (.tup [.ref p, .str (side t.up)])) := same_new hp2 _
    have s4 := same_new hp3 (.tup [.int ((idx % 2 : Nat) : Int), .ref p2])
    refine q _ _ (s2.trans (s3.trans s4)) (Dp.mkPair upd_same (.int _) (Dp.mkPair (s4 _ _ upd_same) (Dp.mkPair (s4 _ _ (s3 _ _ hp)) (.int _) (.int _)) (.str _)))
  refine ⟨_, rfl, rfl, _, rfl, ?_⟩
  by_cases h3 : z = 0
  · rw [decide_eq_true (congrArg V.int h3)]
    refine iteT ⟨_, rfl, rfl, _, rfl, ?_⟩
    rw [side_up]
    cases hu : t.up with
    | true =>
      rw [if_pos (.inr (.inr (.inl ⟨h3, hu⟩)))] at q
      exact iteT (iteT (q _ _ (Same.refl _) .non))
    | false =>
      refine iteF ⟨_, rfl, _, rfl, rfl, _, rfl, ?_⟩
      have h4 : ¬ z = t.d := by omega
      rw [decide_eq_false (fun e => h4 (V.int.inj e))]
      refine iteF (iteF ?_)
      have := fin (σ' := []) (fun h => by rw [hu] at h; exact absurd h.2 (by decide)) (fun h => h4 h.1)
      rw [hu] at this
      exact this
  · rw [decide_eq_false (fun e => h3 (V.int.inj e))]
    refine iteF (iteF ⟨_, rfl, _, rfl, rfl, _, rfl, ?_⟩)
    by_cases h4 : z = t.d
    · rw [decide_eq_true (congrArg V.int h4)]
      refine iteT ⟨_, rfl, rfl, _, rfl, ?_⟩
      rw [side_eq]
      cases hu : t.up with
      | false =>
        rw [if_pos (.inr (.inr (.inr ⟨h4, hu⟩)))] at q
        exact iteT (q _ _ (Same.refl _) .non)
      | true =>
        have := fin (σ' := []) (fun h => h3 h.1) (fun h => by rw [hu] at h; exact absurd h.2 (by decide))
        rw [hu] at this
        exact iteF this
    · rw [decide_eq_false (fun e => h4 (V.int.inj e))]
      refine iteF (iteF ?_)
      exact fin (σ' := []) (fun h => h3 h.1) (fun h => h4 h.1)
end
end K69
set_option Elab.async false
set_option linter.all false
set_option maxRecDepth 100000
set_option maxHeartbeats 4000000
namespace K69
open PySem PySem.Spec PyProof.Rows L2 SR
def wsel (w : Wanted) : Nat → Option Th
  | 0 => w.1
  | _ => w.2
def tells (w : Wanted) (r : Rule) (far : Nat) : Nat → Option (List (Nat × Th))
  | 0 => some []
  | i + 1 => tell (wsel w i) r far i (tells w r far i)
theorem tells_two (w : Wanted) (r : Rule) (far : Nat) : tells w r far 2 = allBefore w r far := rfl
theorem tells_len (w : Wanted) (r : Rule) (far : Nat) : ∀ i l, tells w r far i = some l → l.length ≤ i
  | 0, l, h => by cases h; exact Nat.le_refl _
  | i + 1, l, h => by
    unfold tells at h
    cases e : tells w r far i with
    | none => rw [e] at h; simp [tell] at h
    | some l' =>
      rw [e] at h
      have := tells_len w r far i l' e
      rcases tell_some h with ⟨_, rfl⟩ | ⟨t, q, _, _, rfl⟩
      · omega
      · rw [List.length_append, List.length_singleton]; omega
theorem tells_none {w : Wanted} {r : Rule} {far i j : Nat} (h : tells w r far i = none) (hij : i ≤ j) : tells w r far j = none := by
  induction hij with
  | refl => exact h
  | step _ ih => unfold tells; rw [ih]; rfl
def dAB : Option (List (Nat × Th)) → PyData
  | none => .none
  | some l => .list (l.map dQ)
theorem dp_tho {K : PySem.W.Frag} {H : Hp} {v : V} {o : Option Th} (h : Dp K H v (dThO o)) : decide (v = .non) = o.isNone := by
  cases o with
  | none => obtain rfl := Dp.non_inv h; rfl
  | some t => obtain ⟨a, b, rfl, _⟩ := dp_th h; rfl
theorem dp_w {K : PySem.W.Frag} {H : Hp} {v : V} {w : Wanted} (h : Dp K H v (dW w)) : ∃ a x y, v = .ref a ∧ SqT K H a [x, y] ∧ Dp K H x (dThO w.1) ∧ Dp K H y (dThO w.2) := h.pair_inv
/-- wanted thresholds that can be asked -/
structure WOk (w : Wanted) (far : Nat) : Prop where
  good : GoodW w
  sz : ∀ t, w.1 = some t ∨ w.2 = some t → t.d * 2 ^ far < 1073741824
section
variable {P : Program} {w : World} {K : PySem.W.Frag} {mg : Str → Option Value} {base : Heap}
abbrev sAllBefore : Stmt := topS 37
theorem scAllBefore : FnScope ["wanted", "rule", "far", "found", "parity", "threshold", "told"] ["wanted", "rule", "far"] (defScope sAllBefore) := ⟨rfl, rfl, rfl, by decide +kernel, rfl, by decide +kernel, by decide +kernel⟩
def spAllBefore (K : PySem.W.Frag) : Sp := fun vs H Q _ => ∃ (v : V) (wn : Wanted) (r : Rule) (far : Nat), vs = [v, .str r.str, .int (far : Nat)] ∧ Dp K H v (dW wn) ∧ WOk wn far ∧ (1 ≤ far ∧ far ≤ 1000) ∧ Gives K H Q (dAB (allBefore wn r far))
theorem ok_all_before (B : Blt mg) (D : Df K mg "all_before" sAllBefore ["wanted", "rule", "far"]) (G : Fx P w K mg base 3 "before_step" ["threshold", "rule", "far", "parity"] (spBeforeStep K)) : Fx P w K mg base 4 "all_before" ["wanted", "rule", "far"] (spAllBefore K) := by
  refine D.ok scAllBefore (fun vs H Q E h => ?_) (fun f cdv A outer s H vs Q E hr h => ?_)
  · obtain ⟨_, _, _, _, rfl, _⟩ := h
    rfl
  obtain ⟨v, wn, r, far, rfl, hd, hw, hf, q⟩ := h
  obtain ⟨a, x, y, rfl, hs, hx, hy⟩ := dp_w hd
  refine ⟨_, pss_cons (ps_set (i := 3) scAllBefore.nd rfl (.inl rfl) (pe_lst pa_nil))
    (pss_cons (ps_for PassesOwn.never rfl (pi_enumT (by rfl) B.enumerate (pa_cons (pv 0) pa_nil)) (pg_tup rfl (pgs_cons (pg_name (i := 4) scAllBefore.nd rfl (.inl rfl)) (pgs_cons (pg_name (i := 5) scAllBefore.nd rfl (.inl rfl)) pgs_nil)))
      (pss_one (ps_if (pt_cmp (pc_notN (pv 5))) (pss_cons (ps_set (i := 6) scAllBefore.nd rfl (.inl rfl) (pe_fx G hr (pa_cons (pv 5) (pa_cons (pv 1) (pa_cons (pv 2) (pa_cons (pv 4) pa_nil))))))
        (pss_cons (ps_if (pt_cmp (pc_isN (pv 6))) (pss_one (ps_ret pe_non)) pss_nil)
        (pss_one (ps_expr (pe_bm PySem.F.plainAttrs_list PySem.F.slot_list_append PySem.F.type_list_append mt_append (pv 3) (pa_cons (pv 6) pa_nil)))))) pss_nil)))
    (pss_one (ps_ret (pv 3)))), ?_⟩
  refine ⟨Nat.zero_le _, fun L hL => ?_⟩
  have s0 : Same H (upd H L (.lst [])) := same_new hL _
  refine ⟨_, rfl, a, [x, y], rfl, s0.tup hs, for_it (walk_enumT (K := K) (a := a) (xs := [x, y])) (fun i σ H1 => ∃ y4 y5 y6 l acc, σ = [some (.ref a), some (.str r.str), some (.int (far : Nat)), some (.ref L), y4, y5, y6] ∧ Same H H1 ∧ tells wn r far i = some l ∧ H1 L = some (.lst acc) ∧ DpAll K H1 acc (l.map dQ))
    ⟨none, none, none, [], [], rfl, s0, rfl, upd_same, .nil⟩ (fun i σ H1 _ p => ?_) (fun i z σ H1 H2 hi p hy' => ?_) (fun σ H1 p => ?_)⟩
  · obtain ⟨_, _, _, _, _, _, s2, _⟩ := p
    exact s2.tup hs
  · obtain ⟨y4, y5, y6, l, acc, rfl, s2, hl, hLa, hacc⟩ := p
    obtain ⟨pT, xi, xv, rfl, hT, rfl, e1, e2⟩ := hy'
    cases e1
    have hi2 : i < 2 := hi
    have s3 : Same H1 (upd H1 pT (.tup [.int (i : Nat), xv])) := same_new hT _
    have hxv : Dp K H xv (dThO (wsel wn i)) := by
      match i, hi2, e2 with
      | 0, _, e => cases e; exact hx
      | 1, _, e => cases e; exact hy
    have hmem : wsel wn i = wn.1 ∨ wsel wn i = wn.2 := by
      match i, hi2 with
      | 0, _ => exact .inl rfl
      | 1, _ => exact .inr rfl
    have hLa3 := s3 _ _ hLa
    have hnext : tells wn r far (i + 1) = tell (wsel wn i) r far i (some l) := by
      show tell (wsel wn i) r far i (tells wn r far i) = _
      rw [hl]
    refine ⟨pT, _, rfl, SqT.of upd_same, rfl, _, _, rfl, _, _, rfl, rfl, _, rfl, _, rfl, ?_⟩
    rw [dp_tho hxv]
    cases ho : wsel wn i with
    | none =>
      rw [ho] at hnext
      refine iteF ⟨some (.int (i : Nat)), some xv, y6, l, acc, rfl, s2.trans s3, hnext, hLa3, DpAll.same s3 _ _ hacc⟩
    | some t =>
      rw [ho] at hnext hxv
      have gt : SR.Good t := by
        rcases hmem with h | h
        · exact hw.good.1 t (by rw [← h, ho])
        · exact hw.good.2 t (by rw [← h, ho])
      have szt : t.d * 2 ^ far < 1073741824 := hw.sz t (by
        rcases hmem with h | h
        · exact .inl (by rw [← h, ho])
        · exact .inr (by rw [← h, ho]))
      refine iteT ⟨_, rfl, _, rfl, _, rfl, _, rfl, xv, t, r, far, i, rfl, Dp.same (s2.trans s3) _ _ hxv, gt, hf, szt, hi2, fun u H3 s4 hu => ?_⟩
      have hLa4 := s4 _ _ hLa3
      have hacc4 : DpAll K H3 acc (l.map dQ) := DpAll.same (s3.trans s4) _ _ hacc
      refine ⟨_, rfl, ?_⟩
      cases hb : before1 t r far i with
      | none =>
        rw [hb] at hu
        obtain rfl := Dp.non_inv hu
        refine ⟨_, rfl, iteT (q _ _ (s2.trans (s3.trans s4)) ?_)⟩
        have e : allBefore wn r far = none := by
          rw [← tells_two]
          refine tells_none (i := i + 1) ?_ (by omega)
          rw [hnext]
          simp only [tell, hb]
        rw [e]
        exact .non
      | some qq =>
        rw [hb] at hu
        obtain ⟨aq, xq, yq, rfl, _⟩ := Dp.pair_inv hu
        refine ⟨_, rfl, iteF ⟨_, rfl, .inl ⟨rfl, _, .inl (.inl hLa4)⟩, _, rfl, L, acc, _, rfl, rfl, hLa4, ?_, some (.int (i : Nat)), some xv, some (.ref aq), l ++ [qq], acc ++ [.ref aq], rfl, (s2.trans (s3.trans s4)).put hL, ?_, upd_same, ?_⟩⟩
        · rw [hacc.len, List.length_map]
          have := tells_len _ _ _ _ _ hl
          exact small1000 (by omega)
        · rw [hnext]
          simp only [tell, hb]
        · rw [List.map_append]
          exact app_still hLa4 (Same.refl _) hacc4 hu (stillAll_map _ still_q _) (still_q _)
  · obtain ⟨y4, y5, y6, l, acc, rfl, s2, hl, hLa, hacc⟩ := p
    refine ⟨_, rfl, q _ _ s2 ?_⟩
    rw [← tells_two]
    rw [show ([x, y] : List V).length = 2 from rfl] at hl
    rw [hl]
    exact .lst (SqL.of hLa) hacc
/-! ### merged -/
abbrev sMerged : Stmt := topS 38
theorem scMerged : FnScope ["some", "found", "parity", "threshold"] ["some"] (defScope sMerged) := ⟨rfl, rfl, rfl, by decide +kernel, rfl, by decide +kernel, by decide +kernel⟩
def dWO : Option Wanted → PyData
  | none => .none
  | some w => dW w
def spMerged (K : PySem.W.Frag) : Sp := fun vs H Q _ => ∃ (v : V) (l : List (Nat × Th)), vs = [v] ∧ Dp K H v (.list (l.map dQ)) ∧ (∀ q ∈ l, q.1 < 2) ∧ Gives K H Q (dWO (merged l))
theorem mergeFrom_cons (w : Wanted) (q : Nat × Th) (l : List (Nat × Th)) : mergeFrom w (q :: l) = match put w q with | none => none | some w' => mergeFrom w' l := rfl
theorem eqv_th (a b : Th) : PyData.eqv (dTh a) (dTh b) = decide (a = b) := by
  obtain ⟨n, d, u⟩ := a
  obtain ⟨n', d', u'⟩ := b
  have e : PyData.eqv (dTh ⟨n, d, u⟩) (dTh ⟨n', d', u'⟩) = ((((n : Int) == (n' : Int)) && (((d : Int) == (d' : Int)) && true)) && ((side u == side u') && true)) := by
    simp only [dTh, PyData.eqv, PyData.eqvAll]
  rw [e]
  have hs : (side u == side u') = decide (u = u') := by cases u <;> cases u' <;> decide +kernel
  rw [hs]
  by_cases h1 : n = n'
  · by_cases h2 : d = d'
    · by_cases h3 : u = u'
      · subst h1 h2 h3; simp
      · simp [h1, h2, h3]
    · have : ((d : Int) == (d' : Int)) = false := beq_eq_false_iff_ne.mpr (by omega)
      simp [h2, this]
  · have : ((n : Int) == (n' : Int)) = false := beq_eq_false_iff_ne.mpr (by omega)
    simp [h1, this]
theorem eqv_tho (o : Option Th) (t : Th) : ([PyData.none, dTh t].any fun z => PyData.eqv z (dThO o)) = decide (o = none ∨ o = some t) := by
  cases o with
  | none => simp [dThO, PyData.eqv]
  | some u =>
    have e1 : PyData.eqv PyData.none (dTh u) = false := by simp [dTh, PyData.eqv]
    simp only [dThO, List.any_cons, List.any_nil, e1, eqv_th, Bool.or_false, Bool.false_or, reduceCtorEq, false_or, Option.some.injEq]
    by_cases h : t = u
    · subst h; simp
    · simp [h, Ne.symm h]
theorem strOk_side (u : Bool) : PyData.strOk (side u) = true := by cases u <;> decide +kernel
theorem shaped_tho (o : Option Th) : SeqAt.shaped (dThO o) = true := by
  cases o with
  | none => decide
  | some t => simp [SeqAt.shaped, dThO, dTh, PyData.canLay0, PyData.canLayAll0, PyData.depth, PyData.depthAll, strOk_side]
theorem shaped_two (t : Th) : SeqAt.shaped (.tuple [.none, dTh t]) = true := by
  simp [SeqAt.shaped, dTh, PyData.canLay0, PyData.canLayAll0, PyData.depth, PyData.depthAll, strOk_side]
theorem still_tho2 (o : Option Th) : still (dThO o) = true := still_tho o
theorem ok_merged (B : Blt mg) (D : Df K mg "merged" sMerged ["some"]) : Fx P w K mg base 1 "merged" ["some"] (spMerged K) := by
  refine D.ok scMerged (fun vs H Q E h => ?_) (fun f cdv A outer s H vs Q E hr h => ?_)
  · obtain ⟨_, _, rfl, _⟩ := h
    rfl
  obtain ⟨v, l, rfl, hd, hlt, q⟩ := h
  obtain ⟨a, xs, rfl, hs, hx⟩ := hd.list_inv
  have hxl : xs.length = l.length := by rw [hx.len, List.length_map]
  have hu : (cxOf CX0 P w K mg base ["some", "found", "parity", "threshold"] "merged" (defScope sMerged) f cdv A outer s H E).nox.A.units + 65 < cLine := by
    have := hr.un
    show (A.deeper _).units + 65 < cLine
    omega
  refine ⟨_, pss_cons (ps_set (i := 1) scMerged.nd rfl (.inl rfl) (pe_lst (pa_cons pe_non (pa_cons pe_non pa_nil))))
    (pss_cons (ps_for PassesOwn.never rfl (pi_list (pv 0)) (pg_tup rfl (pgs_cons (pg_name (i := 2) scMerged.nd rfl (.inl rfl)) (pgs_cons (pg_name (i := 3) scMerged.nd rfl (.inl rfl)) pgs_nil)))
      (pss_cons (ps_if (pt_cmpR (op_notInT hu) (pe_ix ix_list (pv 1) (pv 2) (fun _ _ => rfl)) (pe_tup (pa_cons pe_non (pa_cons (pv 3) pa_nil))) (by rfl)) (pss_one (ps_ret pe_non)) pss_nil)
      (pss_one (ps_asg (pv 3) (pg_sub (pv 1) (pv 2) set_list)))))
    (pss_one (ps_ret (pe_callTy call_tuple_of (by rfl) B.tuple PyProof.Rows.boot_tuple (pa_cons (pv 1) pa_nil))))), ?_⟩
  refine ⟨(by show 2 ≤ sizeLine; decide), fun L hL => ?_⟩
  have s0 : Same H (upd H L (.lst [.non, .non])) := same_new hL _
  refine ⟨_, rfl, a, rfl, ⟨xs, s0.seq hs⟩, for_list (K := K) (a := a) (xs := xs) (fun i σ H1 => ∃ y2 y3 wc x y, σ = [some (.ref a), some (.ref L), y2, y3] ∧ Same H H1 ∧ mergeFrom wc (l.drop i) = merged l ∧ H1 L = some (.lst [x, y]) ∧ Dp K H1 x (dThO wc.1) ∧ Dp K H1 y (dThO wc.2))
    ⟨none, none, (none, none), .non, .non, rfl, s0, rfl, upd_same, .non, .non⟩ (fun i σ H1 _ p => ?_) (fun i z σ H1 hi p => ?_) (fun σ H1 p => ?_)⟩
  · obtain ⟨_, _, _, _, _, _, s2, _⟩ := p
    exact s2.seq hs
  · obtain ⟨y2, y3, wc, x, y, rfl, s2, hm, hLa, hxd, hyd⟩ := p
    obtain ⟨d, e1, e2⟩ := hx.get hi
    rw [List.getElem?_map] at e1
    cases hq : l[i]? with
    | none => rw [hq] at e1; cases e1
    | some qq =>
      rw [hq] at e1
      cases e1
      have hil := (List.getElem?_eq_some_iff.mp hq).1
      have edrop : l.drop i = qq :: l.drop (i + 1) := by
        have := List.drop_eq_getElem_cons hil
        rw [this]
        congr 1
        exact (List.getElem?_eq_some_iff.mp hq).2
      rw [edrop] at hm
      have hp2 : qq.1 < 2 := hlt qq (List.mem_of_getElem? hq)
      obtain ⟨aq, xq, yq, rfl, hsq, hxq, hyq⟩ := Dp.pair_inv (Dp.same s2 _ _ e2)
      obtain rfl := hxq.int_inv
      obtain ⟨at', bt', rfl, _, _⟩ := dp_th hyq
      refine ⟨aq, _, rfl, hsq, rfl, _, _, rfl, _, _, rfl, rfl, ?_⟩
      -- the current one of this parity
      obtain ⟨z, hz, hzd⟩ : ∃ z, atI [x, y] (qq.1 : Int) = some z ∧ Dp K H1 z (dThO (sel wc qq.1)) := by
        match hh : qq.1, hp2 with
        | 0, _ => exact ⟨x, rfl, hxd⟩
        | 1, _ => exact ⟨y, rfl, hyd⟩
      refine ⟨_, rfl, _, rfl, L, _, _, z, rfl, rfl, SqL.of hLa, hz, _, rfl, (by show 2 ≤ sizeLine; decide), fun p hp => ?_⟩
      have s3 : Same H1 (upd H1 p (.tup [.non, .ref at'])) := same_new hp _
      refine ⟨dThO (sel wc qq.1), [.none, dTh qq.2], Dp.same s3 _ _ hzd, Dp.newTup hp (.cons .non (.cons hyq .nil)), shaped_tho _, shaped_two _, _, rfl, ?_⟩
      rw [eqv_tho]
      have hLa3 := s3 _ _ hLa
      have hput : put wc qq = if sel wc qq.1 = none ∨ sel wc qq.1 = some qq.2 then some (if qq.1 % 2 = 0 then (some qq.2, wc.2) else (wc.1, some qq.2)) else none := by
        unfold put
        rcases sel_cases wc qq.1 with ⟨h, e⟩ | ⟨h, e⟩
        · rw [if_pos h, e, if_pos h]
        · rw [if_neg (show ¬ qq.1 % 2 = 0 by omega), e, if_neg (show ¬ qq.1 % 2 = 0 by omega)]
      by_cases hc : sel wc qq.1 = none ∨ sel wc qq.1 = some qq.2
      · rw [decide_eq_true hc]
        rw [if_pos hc] at hput
        have hm' : mergeFrom (if qq.1 % 2 = 0 then (some qq.2, wc.2) else (wc.1, some qq.2)) (l.drop (i + 1)) = merged l := by
          rw [← hm]
          rw [mergeFrom_cons, hput]
        refine iteF ⟨_, rfl, _, rfl, _, rfl, L, [x, y], (qq.1 : Int), qq.1, rfl, rfl, hLa3, ?_, ?_⟩
        · unfold ixN
          rw [if_pos (by omega), if_pos (by show (qq.1 : Int) < 2; omega), Int.toNat_natCast]
        · have up : ∀ {d : PyData} {v : V}, still d = true → Dp K H1 v d → Dp K (upd (upd H1 p (.tup [.non, .ref at'])) L (.lst ([x, y].set qq.1 (.ref at')))) v d := fun hs' h' => dp_still hLa3 _ _ hs' (Dp.same s3 _ _ h')
          rcases Nat.mod_two_eq_zero_or_one qq.1 with h | h
          · have h0 : qq.1 = 0 := by omega
            rw [if_pos h] at hm'
            refine ⟨some (.int (qq.1 : Nat)), some (.ref at'), (some qq.2, wc.2), .ref at', y, rfl, (s2.trans s3).put hL, hm', ?_, up (still_th _) hyq, up (still_tho _) hyd⟩
            rw [upd_same, h0]
            rfl
          · have h0 : qq.1 = 1 := by omega
            rw [if_neg (show ¬ qq.1 % 2 = 0 by omega)] at hm'
            refine ⟨some (.int (qq.1 : Nat)), some (.ref at'), (wc.1, some qq.2), x, .ref at', rfl, (s2.trans s3).put hL, hm', ?_, up (still_tho _) hxd, up (still_th _) hyq⟩
            rw [upd_same, h0]
            rfl
      · rw [decide_eq_false hc]
        rw [if_neg hc] at hput
        refine iteT (q _ _ (s2.trans s3) ?_)
        rw [← hm, mergeFrom_cons, hput]
        exact .non
  · obtain ⟨y2, y3, wc, x, y, rfl, s2, hm, hLa, hxd, hyd⟩ := p
    rw [hxl, List.drop_length] at hm
    refine ⟨_, rfl, L, _, rfl, .inl ⟨SqL.of hLa, fun p hp => q _ _ (s2.trans (same_new hp _)) ?_⟩⟩
    rw [← hm]
    exact Dp.newTup hp (.cons hxd (.cons hyd .nil))
end
end K69
set_option Elab.async false
set_option linter.all false
set_option maxRecDepth 100000
set_option maxHeartbeats 4000000
namespace K69
open PySem PySem.Spec PyProof.Rows L2 SR RZ
theorem intBits_nat (n : Nat) : Builtin.Int.intBits (n : Int) = bitLen n := by
  unfold Builtin.Int.intBits bitLen
  by_cases h : n = 0
  · subst h; rfl
  · have : ((n : Int) == 0) = false := beq_eq_false_iff_ne.mpr (by omega)
    rw [this, if_neg h]
    rfl
theorem foldl_max_cast : ∀ (ms : List Nat) (m : Nat), (ms.map fun n => ((n : Nat) : Int)).foldl max (m : Int) = ((ms.foldl max m : Nat) : Int)
  | [], _ => rfl
  | a :: ms, m => by
    rw [List.map_cons, List.foldl_cons, List.foldl_cons]
    have e : max (m : Int) (a : Int) = ((max m a : Nat) : Int) := by omega
    rw [e]
    exact foldl_max_cast ms (max m a)
theorem eqv_fits (o : Option Th) (t : Th) : (o.isNone || PyData.eqv (dThO o) (dTh t)) = decide (Fits o t) := by
  unfold Fits
  cases o with
  | none => simp
  | some u => simp [dThO, eqv_th]
section
variable {P : Program} {w : World} {K : PySem.W.Frag} {mg : Str → Option Value} {base : Heap}
abbrev sMatches : Stmt := topS 39
theorem scMatches : FnScope ["wanted", "rule", "threshold", "own"] ["wanted", "rule"] (defScope sMatches) := ⟨rfl, rfl, rfl, by decide +kernel, rfl, by decide +kernel, by decide +kernel⟩
def spMatches (K : PySem.W.Frag) : Sp := fun vs H Q _ => ∃ (v : V) (wn : Wanted) (r : Rule), vs = [v, .str r.str] ∧ Dp K H v (dW wn) ∧ Gives K H Q (.bool (decide (FitsW wn (byRule r))))
theorem ok_matches (B : Blt mg) (Tc : Tf K w mg) (D : Df K mg "matches" sMatches ["wanted", "rule"]) : Fx P w K mg base 1 "matches" ["wanted", "rule"] (spMatches K) := by
  refine D.ok scMatches (fun vs H Q E h => ?_) (fun f cdv A outer s H vs Q E hr h => ?_)
  · obtain ⟨_, _, _, rfl, _⟩ := h
    rfl
  obtain ⟨v, wn, r, rfl, hd, q⟩ := h
  obtain ⟨a, x, y, rfl, hs, hx, hy⟩ := dp_w hd
  obtain ⟨dB, hdB, hB⟩ := Tc.byRule
  obtain ⟨aB, hk, hdp⟩ := hB r
  obtain ⟨_, x2, y2, e1, hs2, hx2, hy2⟩ := dp_pair (hdp H)
  cases e1
  refine ⟨_, pss_one (ps_ret (pe_callB (cr_all rfl) (by rfl) B.all (by decide +kernel) (pa_cons (pe_lc (own := [("threshold", 2), ("own", 3)]) (g := gTup K 2 (gCons (gName 2) (gCons (gName 3) gNil))) (tt := tYes) rfl scMatches.nd
      (pi_zipA (by rfl) B.zip (pa_cons (pv 0) (pa_cons (pe_ix ix_kdict (pe_glob (v := .ref dB) (by rfl) hdB rfl) (pv 1) (fun _ _ => rfl)) pa_nil))) (blkOk_by (N := ["wanted", "rule", "threshold", "own"]) (sc := defScope sMatches) (by decide +kernel))
      (fun _ _ _ _ _ => pg_tup rfl (pgs_cons (pg_name (i := 2) scMatches.nd rfl (Or.inl rfl) (hf := Or.inr rfl)) (pgs_cons (pg_name (i := 3) scMatches.nd rfl (Or.inl rfl) (hf := Or.inr rfl)) pgs_nil))) (fun _ _ _ _ _ => pts_nil)
      (fun _ _ _ _ _ => pe_or (pe_cmp (pc_isN (pv 2))) (pe_one (pe_cmpR (r := rEqD K) (op_eqD hr.units) (pv 2) (pv 3) (nomark _))))) pa_nil))), ?_⟩
  refine ⟨_, rfl, _, rfl, dB, r.str, .ref aB, rfl, rfl, hk, a, aB, [x, y], [x2, y2], rfl, .inr ⟨hs, hs2, fun L hL => ?_⟩⟩
  refine lc_it (walk_zipT (K := K) (a := a) (b := aB) (xs := [x, y]) (ys := [x2, y2]) (n := 2) rfl) (fun i H1 => Same H H1 ∧ H1 L = some (.lst (([decide (Fits wn.1 (byRule r).1), decide (Fits wn.2 (byRule r).2)].take i).map V.bl))) ⟨same_new hL _, upd_same⟩ (fun i H1 _ p => ⟨p.1.tup hs, p.1.tup hs2⟩) (fun i z H1 H2 hi p hy' => ?_) (fun H1 p => ?_)
  · obtain ⟨pT, u1, u2, rfl, hT, rfl, e1, e2⟩ := hy'
    have s3 : Same H1 (upd H1 pT (.tup [u1, u2])) := same_new hT _
    obtain ⟨o, t, ho, ht, he⟩ : ∃ (o : Option Th) (t : Th), Dp K H u1 (dThO o) ∧ Dp K H u2 (dTh t) ∧ [decide (Fits wn.1 (byRule r).1), decide (Fits wn.2 (byRule r).2)][i]? = some (decide (Fits o t)) := by
      match i, hi, e1, e2 with
      | 0, _, e1, e2 => cases e1; cases e2; exact ⟨_, _, hx, hx2, rfl⟩
      | 1, _, e1, e2 => cases e1; cases e2; exact ⟨_, _, hy, hy2, rfl⟩
    have sH := p.1.trans s3
    refine ⟨pT, _, rfl, SqT.of upd_same, rfl, _, _, rfl, _, _, rfl, rfl, rfl, _, rfl, _, rfl, ?_⟩
    -- the item's value
    have fin : ∀ b, b = decide (Fits o t) → ∃ acc, (upd H1 pT (.tup [u1, u2])) L = some (.lst acc) ∧ acc.length < sizeLine ∧ Same H (upd (upd H1 pT (.tup [u1, u2])) L (.lst (acc ++ [.bl b]))) ∧ (upd (upd H1 pT (.tup [u1, u2])) L (.lst (acc ++ [.bl b]))) L = some (.lst (([decide (Fits wn.1 (byRule r).1), decide (Fits wn.2 (byRule r).2)].take (i + 1)).map V.bl)) := by
      intro b hb
      refine ⟨_, s3 _ _ p.2, ?_, sH.put hL, ?_⟩
      · rw [List.length_map, List.length_take]
        exact small1000 (by show min i 2 ≤ 1000; omega)
      · rw [upd_same, List.take_add_one, he, List.map_append, hb]
        rfl
    rw [dp_tho ho]
    have key := eqv_fits o t
    cases hn : o.isNone with
    | true =>
      rw [hn, Bool.true_or] at key
      exact iteT (fin _ key)
    | false =>
      rw [hn, Bool.false_or] at key
      refine iteF ⟨_, rfl, _, rfl, dThO o, dTh t, Dp.same sH _ _ ho, Dp.same sH _ _ ht, shaped_tho o, shaped_tho (some t), fin _ key⟩
  · refine ⟨L, _, rfl, .inl (.inl p.2), ?_⟩
    have e : (([decide (Fits wn.1 (byRule r).1), decide (Fits wn.2 (byRule r).2)].take 2).all id) = decide (FitsW wn (byRule r)) := by
      show (id (decide (Fits wn.1 (byRule r).1)) && (id (decide (Fits wn.2 (byRule r).2)) && true)) = _
      simp only [id, Bool.and_true]
      rw [← Bool.decide_and]
      exact decide_eq_decide.mpr Iff.rfl
    rw [e]
    exact q _ _ p.1 (.bl _)
/-! ### most_far, widened -/
abbrev sMostFar : Stmt := topS 40
theorem scMostFar : FnScope ["wanted", "threshold"] ["wanted"] (defScope sMostFar) := ⟨rfl, rfl, rfl, by decide +kernel, rfl, by decide +kernel, by decide +kernel⟩
def spMostFar (K : PySem.W.Frag) : Sp := fun vs H Q _ => ∃ (v : V) (wn : Wanted), vs = [v] ∧ Dp K H v (dW wn) ∧ Gives K H Q (.int (mostFar wn : Nat))
def lensTo (wn : Wanted) (i : Nat) : List Nat := (([wn.1, wn.2].take i).flatMap fun o => o.toList).map fun t => bitLen t.d
theorem lensTo_two (wn : Wanted) : lensTo wn 2 = lens wn := by
  unfold lensTo lens
  show ((wn.1.toList ++ (wn.2.toList ++ [])).map _) = _
  rw [List.append_nil]
theorem flat_le : ∀ l : List (Option Th), (l.flatMap fun o => o.toList).length ≤ l.length
  | [] => Nat.le_refl _
  | none :: l => by
    have := flat_le l
    rw [List.flatMap_cons, List.length_append, List.length_cons]
    show 0 + _ ≤ _
    omega
  | some t :: l => by
    have := flat_le l
    rw [List.flatMap_cons, List.length_append, List.length_cons]
    show 1 + _ ≤ _
    omega
theorem lensTo_le (wn : Wanted) (i : Nat) : (lensTo wn i).length ≤ 2 := by
  unfold lensTo
  rw [List.length_map]
  have h1 := flat_le ([wn.1, wn.2].take i)
  have h2 : ([wn.1, wn.2].take i).length ≤ 2 := by rw [List.length_take]; exact Nat.min_le_right _ _
  exact Nat.le_trans h1 h2
theorem ok_most_far (B : Blt mg) (D : Df K mg "most_far" sMostFar ["wanted"]) : Fx P w K mg base 1 "most_far" ["wanted"] (spMostFar K) := by
  refine D.ok scMostFar (fun vs H Q E h => ?_) (fun f cdv A outer s H vs Q E hr h => ?_)
  · obtain ⟨_, _, rfl, _⟩ := h
    rfl
  obtain ⟨v, wn, rfl, hd, q⟩ := h
  obtain ⟨a, x, y, rfl, hs, hx, hy⟩ := dp_w hd
  refine ⟨_, pss_one (ps_ret (pe_op op_add (pe_callBK (cr_maxDef rfl hr.units) (by rfl) B.max boot_max (pa_cons (pe_lc (own := [("threshold", 1)]) (g := gName 1) rfl scMostFar.nd (pi_tup (pv 0)) (blkOk_by (N := ["wanted", "threshold"]) (sc := defScope sMostFar) (by decide +kernel))
      (fun _ _ _ _ _ => pg_name (i := 1) scMostFar.nd rfl (Or.inl rfl) (hf := Or.inr rfl)) (fun _ _ _ _ _ => pts_one (pt_cmp (pc_notN (pv 1)))) (fun _ _ _ _ _ => pe_bits (pe_ix (r := rIxT K) ix_tup (pe_ix (r := rIxT K) ix_tup (pv 1) pe_int (fun _ _ => rfl)) pe_int (fun _ _ => rfl)))) pa_nil) (pk_cons pe_int pk_nil)) pe_int)), ?_⟩
  refine ⟨_, rfl, a, rfl, ⟨_, hs⟩, fun L hL => lc_tup (K := K) (a := a) (xs := [x, y]) (fun i H1 => Same H H1 ∧ H1 L = some (.lst (((lensTo wn i).map fun n => ((n : Nat) : Int)).map V.int))) ⟨same_new hL _, upd_same⟩ (fun i H1 _ p => p.1.tup hs) (fun i z H1 hi p => ?_) (fun H1 p => ?_)⟩
  · obtain ⟨o, ho, he⟩ : ∃ o, Dp K H z (dThO o) ∧ lensTo wn (i + 1) = lensTo wn i ++ (o.toList.map fun t => bitLen t.d) := by
      have hi2 := (List.getElem?_eq_some_iff.mp hi).1
      match i, hi2, hi with
      | 0, _, e => cases e; exact ⟨wn.1, hx, by unfold lensTo; show ((wn.1.toList ++ []).map _) = [] ++ _; rw [List.append_nil, List.nil_append]⟩
      | 1, _, e => cases e; exact ⟨wn.2, hy, by unfold lensTo; show ((wn.1.toList ++ (wn.2.toList ++ [])).map _) = ((wn.1.toList ++ []).map _) ++ _; rw [List.append_nil, List.append_nil, List.map_append]⟩
    refine ⟨rfl, z, rfl, (!decide (z = .non)), rfl, ?_⟩
    rw [dp_tho ho]
    cases o with
    | none =>
      refine iteF ?_
      rw [he]
      show Same H H1 ∧ _
      rw [show (Option.toList (none : Option Th)).map (fun t => bitLen t.d) = [] from rfl, List.append_nil]
      exact p
    | some t =>
      obtain ⟨b, c, rfl, hb, hc⟩ := dp_th (Dp.same p.1 _ _ ho)
      refine iteT ⟨_, rfl, b, _, _, .ref c, rfl, rfl, hb, rfl, c, _, _, .int (t.d : Nat), rfl, rfl, hc, rfl, _, rfl, _, p.2, ?_, p.1.put hL, ?_⟩
      · rw [List.length_map, List.length_map]
        have := lensTo_le wn i
        exact small1000 (by omega)
      · rw [upd_same, he, intBits_nat, List.map_append, List.map_append]
        rfl
  · refine ⟨L, _, 1, rfl, rfl, .inl (.inl p.2), _, _, rfl, rfl, ?_⟩
    rw [show ([x, y] : List V).length = 2 from rfl, lensTo_two]
    unfold mostFar at q
    cases e : lens wn with
    | nil =>
      rw [e] at q
      exact q _ _ p.1 (.int _)
    | cons m ms =>
      rw [e] at q
      show Q (.int ((ms.map fun n => ((n : Nat) : Int)).foldl max (m : Int) + 1)) H1
      rw [foldl_max_cast]
      exact q _ _ p.1 (.int _)
abbrev sWidened : Stmt := topS 41
theorem scWidened : FnScope ["steps", "by", "width", "rule"] ["steps", "by"] (defScope sWidened) := ⟨rfl, rfl, rfl, by decide +kernel, rfl, by decide +kernel, by decide +kernel⟩
def spWidened (K : PySem.W.Frag) : Sp := fun vs H Q _ => ∃ (v : V) (c : Chain) (k : Nat), vs = [v, .int (k : Nat)] ∧ Dp K H v (dChain c) ∧ c.length ≤ 900 ∧ Gives K H Q (dChain (widened c k))
theorem ok_widened (B : Blt mg) (D : Df K mg "widened" sWidened ["steps", "by"]) : Fx P w K mg base 1 "widened" ["steps", "by"] (spWidened K) := by
  refine D.ok scWidened (fun vs H Q E h => ?_) (fun f cdv A outer s H vs Q E hr h => ?_)
  · obtain ⟨_, _, _, rfl, _⟩ := h
    rfl
  obtain ⟨v, c, k, rfl, hd, hlen, q⟩ := h
  obtain ⟨a, xs, rfl, hs, hx⟩ := dp_chain hd
  have hl : xs.length = c.length := by rw [hx.len, List.length_map]
  refine ⟨_, pss_one (ps_ret (pe_callTy call_tuple_of (by rfl) B.tuple PyProof.Rows.boot_tuple (pa_cons (pe_lc (own := [("width", 2), ("rule", 3)]) (g := gTup K 2 (gCons (gName 2) (gCons (gName 3) gNil))) (tt := tYes) rfl scWidened.nd (pi_tup (pv 0)) (blkOk_by (N := ["steps", "by", "width", "rule"]) (sc := defScope sWidened) (by decide +kernel))
      (fun _ _ _ _ _ => pg_tup rfl (pgs_cons (pg_name (i := 2) scWidened.nd rfl (Or.inl rfl) (hf := Or.inr rfl)) (pgs_cons (pg_name (i := 3) scWidened.nd rfl (Or.inl rfl) (hf := Or.inr rfl)) pgs_nil))) (fun _ _ _ _ _ => pts_nil)
      (fun _ _ _ _ _ => pe_tup (pa_cons (pe_op op_addN (pv 2) (pv 1)) (pa_cons (pv 3) pa_nil)))) pa_nil))), ?_⟩
  refine ⟨_, rfl, a, rfl, ⟨_, hs⟩, fun L hL => lc_tup (K := K) (a := a) (xs := xs) (fun i H1 => Same H H1 ∧ ∃ acc, H1 L = some (.lst acc) ∧ DpAll K H1 acc ((widened (c.take i) k).map dStep)) ⟨same_new hL _, [], upd_same, .nil⟩ (fun i H1 _ p => p.1.tup hs) (fun i z H1 hi p => ?_) (fun H1 p => ?_)⟩
  · obtain ⟨s1, acc, hLa, hacc⟩ := p
    obtain ⟨st, e1, e2⟩ := dpc_get hx hi
    obtain ⟨b, rfl, hb⟩ := dp_step (Dp.same s1 _ _ e2)
    refine ⟨b, _, rfl, hb, rfl, _, _, rfl, _, _, rfl, rfl, rfl, _, rfl, _, rfl, st.1, k, rfl, rfl, _, rfl, (by show 2 ≤ sizeLine; decide), fun p hp => ⟨acc, ?_, ?_, (s1.trans (same_new hp _)).put hL, _, upd_same, ?_⟩⟩
    · exact same_new hp _ _ _ hLa
    · rw [hacc.len, List.length_map, widened_len, List.length_take]
      exact small1000 (by omega)
    · have e3 : widened (c.take (i + 1)) k = widened (c.take i) k ++ [(st.1 + k, st.2)] := by
        rw [List.take_add_one, e1]
        unfold widened
        rw [List.map_append]
        rfl
      rw [e3, List.map_append]
      exact app_still (same_new hp _ _ _ hLa) (same_new hp _) hacc (Dp.mkPair upd_same (.int _) (.str _)) (stillAll_map _ still_step _) (still_step _)
  · obtain ⟨s1, acc, hLa, hacc⟩ := p
    rw [hl, List.take_length] at hacc
    exact ⟨L, acc, rfl, .inl ⟨SqL.of hLa, fun p hp => q _ _ (s1.trans (same_new hp _)) (Dp.newTup hp hacc)⟩⟩
end
end K69
set_option Elab.async false
set_option linter.all false
set_option maxRecDepth 100000
set_option maxHeartbeats 4000000
namespace K69
open PySem PySem.Spec PyProof.Rows L2 SR RZ
/-! ### keys -/
def kTho : Option Th → NestedKey
  | none => .none
  | some t => .tup [.tup [.num (t.n : Nat), .num (t.d : Nat)], .text (side t.up)]
def keyW (wn : Wanted) (n : Nat) : NestedKey := .tup [.tup [kTho wn.1, kTho wn.2], .num (n : Nat)]
theorem key_data (wn : Wanted) (n : Nat) : (keyW wn n).data = .tuple [dW wn, .int (n : Nat)] := by
  obtain ⟨a, b⟩ := wn
  cases a <;> cases b <;> rfl
theorem key_depth (wn : Wanted) (n : Nat) : (keyW wn n).depth ≤ 8 := by
  obtain ⟨a, b⟩ := wn
  cases a <;> cases b <;> simp [keyW, kTho, NestedKey.depth, NestedKey.depthAll]
theorem side_inj {a b : Bool} (h : side a = side b) : a = b := by cases a <;> cases b <;> first | rfl | exact absurd h (by decide +kernel)
theorem kTho_inj {a b : Option Th} (h : kTho a = kTho b) : a = b := by
  cases a with
  | none =>
    cases b with
    | none => rfl
    | some _ => cases h
  | some t =>
    cases b with
    | none => cases h
    | some u =>
      obtain ⟨n, d, s⟩ := t
      obtain ⟨n', d', s'⟩ := u
      unfold kTho at h
      simp only [NestedKey.tup.injEq, List.cons.injEq, NestedKey.num.injEq, NestedKey.text.injEq, and_true] at h
      obtain ⟨⟨h1, h2⟩, h3⟩ := h
      have := side_inj h3
      have e1 : n = n' := by omega
      have e2 : d = d' := by omega
      subst e1 e2 this
      rfl
theorem keyW_inj {a b : Wanted} {n m : Nat} (h : keyW a n = keyW b m) : a = b ∧ n = m := by
  unfold keyW at h
  simp only [NestedKey.tup.injEq, List.cons.injEq, NestedKey.num.injEq, and_true] at h
  obtain ⟨⟨h1, h2⟩, h3⟩ := h
  exact ⟨Prod.ext (kTho_inj h1) (kTho_inj h2), by omega⟩
/-! ### what a call may change: the dict at d -/
def But (d : Addr) (H H' : Hp) : Prop := ∀ b o, b ≠ d → H b = some o → H' b = some o
theorem But.trans {d : Addr} {H H1 H2 : Hp} (a : But d H H1) (b : But d H1 H2) : But d H H2 := fun c o hc h => b c o hc (a c o hc h)
theorem But.of_same {d : Addr} {H H' : Hp} (s : Same H H') : But d H H' := fun c o _ h => s c o h
theorem But.put {d p : Addr} {H H' : Hp} {o : HO} (b : But d H H') (h : H p = none) : But d H (upd H' p o) := fun c u hc e => by
  rw [upd_ne (ne_of_none e h)]
  exact b c u hc e
theorem But.tup {d : Addr} {K : PySem.W.Frag} {H H' : Hp} {a : Addr} {xs : List V} (b : But d H H') (hd : ∀ ys, ¬ Rd H d (.tup ys)) (h : SqT K H a xs) : SqT K H' a xs := by
  rcases h with h | h
  · have hne : a ≠ d := fun e => hd xs (e ▸ h)
    rcases h with h | ⟨o, h⟩
    · exact .inl (.inl (b _ _ hne h))
    · exact .inl (.inr ⟨o, b _ _ hne h⟩)
  · exact .inr h
theorem nat_no {K : PySem.W.Frag} {P : Program} {w : World} {H : Hp} {d : Addr} {kvs : List NK} (N : NAt K P w H d kvs) : ∀ ys, ¬ Rd H d (.tup ys) := by
  intro ys h
  rcases h with h | ⟨o, h⟩
  · rw [N.obj] at h; cases h
  · rw [N.obj] at h; cases h
mutual
theorem dp_but {K : PySem.W.Frag} {H H' : Hp} {d : Addr} (b : But d H H') (hd : ∀ ys, ¬ Rd H d (.tup ys)) : ∀ (dd : PyData) (v : V), still dd = true → Dp K H v dd → Dp K H' v dd
  | .none, _, _, h => by cases h; exact .non
  | .bool _, _, _, h => by cases h; exact .bl _
  | .int _, _, _, h => by cases h; exact .int _
  | .str _, _, _, h => by cases h; exact .str _
  | .list _, _, hp, _ => by simp [still] at hp
  | .dict _, _, hp, _ => by simp [still] at hp
  | .tuple ds, _, hp, h => by
    rw [still] at hp
    cases h with
    | tup hs ha => exact .tup (b.tup hd hs) (dpa_but b hd ds _ hp ha)
theorem dpa_but {K : PySem.W.Frag} {H H' : Hp} {d : Addr} (b : But d H H') (hd : ∀ ys, ¬ Rd H d (.tup ys)) : ∀ (ds : List PyData) (vs : List V), stillAll ds = true → DpAll K H vs ds → DpAll K H' vs ds
  | [], _, _, h => by cases h; exact .nil
  | e :: ds, _, hp, h => by
    rw [stillAll, Bool.and_eq_true] at hp
    cases h with
    | cons h1 h2 => exact .cons (dp_but b hd e _ hp.1 h1) (dpa_but b hd ds _ hp.2 h2)
end
def dCO : Option Chain → PyData
  | none => .none
  | some c => dChain c
theorem still_co (o : Option Chain) : still (dCO o) = true := by
  cases o with
  | none => rfl
  | some c => exact still_chain c
/-- the entries of known are right -/
def KnownOk (K : PySem.W.Frag) (H : Hp) (kvs : List NK) : Prop := ∀ wn n v, look kvs (keyW wn n) = some v → Dp K H v (dCO (ls n wn))
theorem KnownOk.same {K : PySem.W.Frag} {H H' : Hp} {kvs : List NK} (k : KnownOk K H kvs) (s : Same H H') : KnownOk K H' kvs := fun wn n v h => Dp.same s _ _ (k wn n v h)
def calls : Nat → Nat
  | 0 => 0
  | n + 1 => 1 + 48 * calls n

/-! ### the order -/
theorem eqv_step (a b : SR.Step) : PyData.eqv (dStep a) (dStep b) = decide (a = b) := by
  obtain ⟨x, r⟩ := a
  obtain ⟨y, q⟩ := b
  have e : PyData.eqv (dStep (x, r)) (dStep (y, q)) = (((x : Int) == (y : Int)) && ((r.str == q.str) && true)) := by simp only [dStep, PyData.eqv, PyData.eqvAll]
  rw [e, Bool.and_true]
  by_cases h1 : x = y
  · by_cases h2 : r = q
    · subst h1 h2; simp
    · have : (r.str == q.str) = false := beq_eq_false_iff_ne.mpr fun z => h2 (str_inj _ _ z)
      simp [h2, this]
  · have : ((x : Int) == (y : Int)) = false := beq_eq_false_iff_ne.mpr (by omega)
    simp [h1, this]
theorem alike_step (a b : SR.Step) : PySem.W.alike (dStep a) (dStep b) = true := by simp [dStep, PySem.W.alike, PySem.W.alikeAll]
theorem alikeAll_steps : ∀ a b : Chain, PySem.W.alikeAll (a.map dStep) (b.map dStep) = true
  | [], _ => by simp [PySem.W.alikeAll]
  | _ :: _, [] => by simp [PySem.W.alikeAll]
  | a :: as, b :: bs => by rw [List.map_cons, List.map_cons, PySem.W.alikeAll, alike_step, alikeAll_steps as bs]; rfl
theorem alike_chain (a b : Chain) : PySem.W.alike (dChain a) (dChain b) = true := by
  unfold dChain
  rw [PySem.W.alike]
  exact alikeAll_steps a b
theorem str_lt (a b : Rule) : decide (a.str.cps.toList < b.str.cps.toList) = decide (a.idx < b.idx) := by cases a <;> cases b <;> decide +kernel
theorem dataLt_step (a b : SR.Step) (h : a ≠ b) : PySem.W.dataLt (dStep a) (dStep b) = stLt a b := by
  obtain ⟨x, r⟩ := a
  obtain ⟨y, q⟩ := b
  unfold dStep
  rw [PySem.W.dataLt_tuple]
  by_cases h1 : x = y
  · subst h1
    have h2 : r ≠ q := fun e => h (by rw [e])
    rw [PySem.W.dataLt_all_yes (by simp [PySem.W.alike]) (by simp [PyData.eqv])]
    rw [PySem.W.dataLt_all_no (by simp [PySem.W.alike]) (by
      rw [PyData.eqv]
      exact beq_eq_false_iff_ne.mpr fun z => h2 (str_inj _ _ z))]
    rw [PySem.W.dataLt_str]
    unfold stLt
    simp only [Nat.lt_irrefl, decide_false, Bool.false_or, decide_true, Bool.true_and]
    exact str_lt r q
  · rw [PySem.W.dataLt_all_no (by simp [PySem.W.alike]) (by
      rw [PyData.eqv]
      exact beq_eq_false_iff_ne.mpr (by omega))]
    rw [PySem.W.dataLt_int]
    unfold stLt
    simp [h1]
theorem lexLt_steps : ∀ a b : Chain, PyProof.Rows.lexLt itemOrd (PySem.W.keyToksAll (a.map dStep)) (PySem.W.keyToksAll (b.map dStep)) = chLt a b
  | [], [] => by simp [PySem.W.keyToksAll, lex_irrefl, chLt]
  | [], b :: bs => by
    rw [List.map_cons, PySem.W.toks_all_cons]
    simp only [List.map_nil, PySem.W.keyToksAll]
    rw [lex_diff (O := itemOrd) (by simp)]
    simp [itemLt, chLt]
  | a :: as, [] => by
    rw [List.map_cons, PySem.W.toks_all_cons]
    simp only [List.map_nil, PySem.W.keyToksAll]
    rw [lex_diff (O := itemOrd) (by simp)]
    simp [itemLt, chLt]
  | a :: as, b :: bs => by
    rw [List.map_cons, List.map_cons]
    unfold chLt
    by_cases h : a = b
    · rw [if_pos h, PySem.W.dataLt_all_yes (alike_step a b) (by rw [eqv_step]; exact decide_eq_true h)]
      exact lexLt_steps as bs
    · rw [if_neg h, PySem.W.dataLt_all_no (alike_step a b) (by rw [eqv_step]; exact decide_eq_false h)]
      exact dataLt_step a b h
theorem dataLt_chain (a b : Chain) : PySem.W.dataLt (dChain a) (dChain b) = chLt a b := by
  unfold dChain
  rw [PySem.W.dataLt_tuple]
  exact lexLt_steps a b
def minF (c : Chain) (cs : List Chain) : Chain := cs.foldl (fun a y => if chLt y a then y else a) c
theorem minD_chain (c : Chain) : ∀ cs : List Chain, PySem.W.minD (dChain c) (cs.map dChain) = dChain (minF c cs) := by
  intro cs
  unfold PySem.W.minD minF
  induction cs generalizing c with
  | nil => rfl
  | cons a cs ih =>
    rw [List.map_cons, List.foldl_cons, List.foldl_cons, dataLt_chain]
    have e : (if chLt a c = true then dChain a else dChain c) = dChain (if chLt a c = true then a else c) := by split <;> rfl
    rw [e]
    exact ih _
theorem minF_spec : ∀ (cs : List Chain) (c : Chain), minF c cs ∈ c :: cs ∧ ∀ x ∈ c :: cs, chLe (minF c cs) x
  | [], c => ⟨List.mem_cons_self, fun x hx => by
      rcases List.mem_cons.mp hx with rfl | hx
      · exact chLe_refl _
      · cases hx⟩
  | a :: cs, c => by
    have e : minF c (a :: cs) = minF (if chLt a c = true then a else c) cs := rfl
    rw [e]
    obtain ⟨h1, h2⟩ := minF_spec cs (if chLt a c = true then a else c)
    generalize minF (if chLt a c = true then a else c) cs = m at h1 h2
    by_cases h : chLt a c = true
    · rw [if_pos h] at h1 h2
      refine ⟨List.mem_cons_of_mem _ h1, fun x hx => ?_⟩
      rcases List.mem_cons.mp hx with rfl | hx
      · exact chLe_trans (h2 a List.mem_cons_self) (chLe_iff.mpr (.inr h))
      · exact h2 x hx
    · rw [if_neg h] at h1 h2
      refine ⟨?_, fun x hx => ?_⟩
      · rcases List.mem_cons.mp h1 with q | q
        · rw [q]; exact List.mem_cons_self
        · exact List.mem_cons_of_mem _ (List.mem_cons_of_mem _ q)
      · rcases List.mem_cons.mp hx with rfl | hx
        · exact h2 _ List.mem_cons_self
        · rcases List.mem_cons.mp hx with rfl | hx
          · exact chLe_trans (h2 c List.mem_cons_self) (by unfold chLe; simpa using h)
          · exact h2 x (List.mem_cons_of_mem _ hx)
theorem minL_F (c : Chain) (cs : List Chain) : minL (c :: cs) = some (minF c cs) := minL_of (minF_spec cs c).1 (minF_spec cs c).2
theorem alikeAll_chains (cs : List Chain) : PySem.W.AlikeAll (cs.map dChain) := by
  refine ⟨fun x hx y hy => ?_, fun x hx => ?_⟩
  · obtain ⟨a, _, rfl⟩ := List.mem_map.mp hx
    obtain ⟨b, _, rfl⟩ := List.mem_map.mp hy
    exact alike_chain a b
  · obtain ⟨a, _, rfl⟩ := List.mem_map.mp hx
    exact fun z => by cases z
theorem strOk_rule (r : Rule) : PyData.strOk r.str = true := by cases r <;> decide +kernel
theorem depth_steps : ∀ c : Chain, PyData.depthAll (c.map dStep) ≤ 1
  | [] => by simp [PyData.depthAll]
  | s :: c => by
    have := depth_steps c
    rw [List.map_cons, PyData.depthAll]
    have e : (dStep s).depth = 1 := by simp [dStep, PyData.depth, PyData.depthAll]
    omega
theorem depth_chain (c : Chain) : (dChain c).depth ≤ 2 := by
  unfold dChain
  rw [PyData.depth]
  have := depth_steps c
  omega
theorem depth_chains : ∀ cs : List Chain, PyData.depthAll (cs.map dChain) ≤ 2
  | [] => by simp [PyData.depthAll]
  | c :: cs => by
    rw [List.map_cons, PyData.depthAll]
    have := depth_chains cs
    have := depth_chain c
    omega
theorem lay_steps : ∀ c : Chain, PyData.canLayAll0 (c.map dStep) = true
  | [] => by simp [PyData.canLayAll0]
  | s :: c => by
    rw [List.map_cons, PyData.canLayAll0, lay_steps c]
    simp [dStep, PyData.canLay0, PyData.canLayAll0, strOk_rule]
theorem lay_chain (c : Chain) : (dChain c).canLay0 = true := by
  unfold dChain
  rw [PyData.canLay0]
  exact lay_steps c
theorem lay_chains : ∀ cs : List Chain, PyData.canLayAll0 (cs.map dChain) = true
  | [] => by simp [PyData.canLayAll0]
  | c :: cs => by rw [List.map_cons, PyData.canLayAll0, lay_chain, lay_chains cs]; rfl
theorem shaped_chains (cs : List Chain) : SeqAt.shaped (.list (cs.map dChain)) = true := by
  show ((PyData.list (cs.map dChain)).canLay0 && decide ((PyData.list (cs.map dChain)).depth ≤ 64)) = true
  rw [Bool.and_eq_true]
  refine ⟨by rw [PyData.canLay0]; exact lay_chains cs, decide_eq_true ?_⟩
  rw [PyData.depth]
  have := depth_chains cs
  omega
theorem eqv_nil (cs : List Chain) : PyData.eqv (.list (cs.map dChain)) (.list []) = decide (cs = []) := by
  cases cs <;> simp [PyData.eqv, PyData.eqvAll]
/-! ### how far the search goes -/
theorem bitLen64 {d : Nat} (h : d ≤ 64) : bitLen d ≤ 7 := by
  unfold bitLen
  split
  · omega
  · rename_i h0
    have : d.log2 < 7 := (Nat.log2_lt h0).mpr (by omega)
    omega
theorem mostFar8 {wn : Wanted} (h : DenLe 64 wn) : mostFar wn ≤ 8 := mostFar_le (by decide) fun t ht => bitLen64 (h t ht)
theorem range'_stop {p : Nat → Bool} : ∀ (n s j : Nat), j < n → (∀ k, s ≤ k → k < s + j → p k = true) → p (s + j) = false → (List.range' s n).takeWhile p = List.range' s j
  | 0, s, j, h, _, _ => by omega
  | n + 1, s, 0, _, _, h => by
    rw [List.range'_succ, List.takeWhile_cons]
    rw [Nat.add_zero] at h
    rw [h]
    rfl
  | n + 1, s, j + 1, hj, h1, h2 => by
    rw [List.range'_succ, List.takeWhile_cons, h1 s (Nat.le_refl _) (by omega)]
    simp only [if_true]
    rw [range'_stop n (s + 1) j (by omega) (fun k h3 h4 => h1 k (by omega) (by omega)) (by rw [show s + 1 + j = s + (j + 1) by omega]; exact h2), List.range'_succ]
theorem range'_all {p : Nat → Bool} : ∀ (n s : Nat), (∀ k, s ≤ k → k < s + n → p k = true) → (List.range' s n).takeWhile p = List.range' s n
  | 0, s, _ => by simp
  | n + 1, s, h => by
    rw [List.range'_succ, List.takeWhile_cons, h s (Nat.le_refl _) (by omega)]
    simp only [if_true]
    rw [range'_all n (s + 1) fun k h3 h4 => h k (by omega) (by omega)]
end K69
set_option Elab.async false
set_option linter.all false
set_option maxRecDepth 100000
set_option maxHeartbeats 8000000
namespace K69
open PySem PySem.Spec PyProof.Rows L2 SR RZ
abbrev sLeast : Stmt := topS 42
theorem scLeast : FnScope ["wanted", "count", "known", "key", "found", "rule", "far", "some", "earlier", "steps"] ["wanted", "count", "known"] (defScope sLeast) := ⟨rfl, rfl, rfl, by decide +kernel, rfl, by decide +kernel, by decide +kernel⟩
/-- what a call with count n promises -/
def spLS (K : PySem.W.Frag) (P : Program) (w : World) (n : Nat) : Sp := fun vs H Q _ => 1 ≤ n ∧ ∃ (v : V) (wn : Wanted) (d : Addr) (kvs : List NK), vs = [v, .int (n : Nat), .ref d] ∧ Dp K H v (dW wn) ∧ GoodW wn ∧ DenLe 64 wn ∧ NAt K P w H d kvs ∧ KnownOk K H kvs ∧ n ≤ 12 ∧ kvs.length + calls n ≤ 16000000 ∧
  ∀ v' H' kvs', But d H H' → NAt K P w H' d kvs' → KnownOk K H' kvs' → kvs'.length ≤ kvs.length + calls n → Dp K H' v' (dCO (ls n wn)) → Q v' H'
/-- at most n -/
def spU (K : PySem.W.Frag) (P : Program) (w : World) (n : Nat) : Sp := fun vs H Q E => ∃ m, m ≤ n ∧ spLS K P w m vs H Q E
theorem KnownOk.put {K : PySem.W.Frag} {P : Program} {w : World} {H : Hp} {d a : Addr} {kvs : List NK} {wn : Wanted} {n : Nat} {v : V} (k : KnownOk K H kvs) (N : NAt K P w H d kvs) (hv : Dp K H v (dCO (ls n wn))) :
    KnownOk K (upd H d (ND P w d (putN kvs (keyW wn n) a v))) (putN kvs (keyW wn n) a v) := by
  intro wn' n' v' h
  rw [look_put] at h
  by_cases e : keyW wn' n' = keyW wn n
  · rw [if_pos e] at h
    cases h
    obtain ⟨rfl, rfl⟩ := keyW_inj e
    exact dp_ext N.obj hv
  · rw [if_neg e] at h
    exact dp_ext N.obj (k wn' n' v' h)
theorem KnownOk.but {K : PySem.W.Frag} {H H' : Hp} {d : Addr} {kvs : List NK} (k : KnownOk K H kvs) (b : But d H H') (hd : ∀ ys, ¬ Rd H d (.tup ys)) : KnownOk K H' kvs := fun wn n v h => dp_but b hd _ _ (still_co _) (k wn n v h)
theorem rules_len : rules.length = 6 := rfl
theorem found_len (n : Nat) (rec_ : Wanted → Option Chain) (wn : Wanted) (r : Rule) : (foundFor n rec_ wn r).length ≤ 1 + mostFar wn := by
  unfold foundFor
  rw [List.length_append]
  have h1 : (if n = 0 ∧ FitsW wn (byRule r) then [[((0 : Nat), r)]] else [] : List Chain).length ≤ 1 := by split <;> simp
  have h2 : (if n = 0 then [] else (fars wn r).filterMap fun far => lsStep rec_ wn r far : List Chain).length ≤ mostFar wn := by
    split
    · simp
    · refine Nat.le_trans (List.length_filterMap_le _ _) ?_
      unfold fars
      refine Nat.le_trans (List.takeWhile_sublist _).length_le ?_
      rw [List.length_range']
      exact Nat.le_refl _
  omega
/-- what stands in found within a rule's loop: j fars tried -/
def innerTo (n : Nat) (wn : Wanted) (r : Rule) (j : Nat) : List Chain :=
  (if n = 0 ∧ FitsW wn (byRule r) then [[((0 : Nat), r)]] else []) ++ (List.range' 1 j).filterMap fun far => lsStep (ls n) wn r far
theorem innerTo_succ (n : Nat) (wn : Wanted) (r : Rule) (j : Nat) : innerTo n wn r (j + 1) = innerTo n wn r j ++ (match lsStep (ls n) wn r (j + 1) with | none => [] | some c => [c]) := by
  unfold innerTo
  rw [List.range'_concat, List.filterMap_append, List.append_assoc]
  congr 2
  rw [show 1 + 1 * j = j + 1 by omega, List.filterMap_cons, List.filterMap_nil]
  cases lsStep (ls n) wn r (j + 1) <;> rfl
theorem innerTo_len (n : Nat) (wn : Wanted) (r : Rule) (j : Nat) : (innerTo n wn r j).length ≤ 1 + j := by
  unfold innerTo
  rw [List.length_append]
  have h1 : (if n = 0 ∧ FitsW wn (byRule r) then [[((0 : Nat), r)]] else [] : List Chain).length ≤ 1 := by split <;> simp
  have h2 := List.length_filterMap_le (fun far => lsStep (ls n) wn r far) (List.range' 1 j)
  rw [List.length_range'] at h2
  omega
theorem innerTo_end0 (wn : Wanted) (r : Rule) : innerTo 0 wn r 0 = foundFor 0 (ls 0) wn r := by
  unfold innerTo foundFor
  rw [if_pos rfl]
  rfl
theorem innerTo_stop {n : Nat} (hn : n ≠ 0) {wn : Wanted} {r : Rule} {j : Nat} (h1 : ∀ k, 1 ≤ k → k < 1 + j → (allBefore wn r k).isSome = true) (h2 : j = mostFar wn ∨ (j < mostFar wn ∧ allBefore wn r (j + 1) = none)) : innerTo n wn r j = foundFor n (ls n) wn r := by
  unfold innerTo foundFor
  rw [if_neg (show ¬ n = 0 from hn)]
  congr 1
  unfold fars
  rcases h2 with h2 | ⟨h2, h3⟩
  · subst h2
    rw [range'_all _ _ h1]
  · rw [range'_stop (mostFar wn) 1 j h2 h1 (by rw [Nat.add_comm, h3]; rfl)]
theorem flat_take_succ {α : Type} (f : Rule → List α) {i : Nat} {r : Rule} (h : rules[i]? = some r) : (rules.take (i + 1)).flatMap f = (rules.take i).flatMap f ++ f r := by
  rw [List.take_add_one, h, List.flatMap_append]
  congr 1
  show f r ++ [] = f r
  rw [List.append_nil]
theorem flat_len {f : Rule → List Chain} (h : ∀ r, (f r).length ≤ 9) : ∀ l : List Rule, (l.flatMap f).length ≤ 9 * l.length
  | [] => by simp
  | r :: l => by
    have := flat_len h l
    have := h r
    rw [List.flatMap_cons, List.length_append, List.length_cons]
    omega
theorem stillAll_chains (cs : List Chain) : stillAll (cs.map dChain) = true := stillAll_map _ still_chain cs
mutual
theorem still_key : ∀ k : NestedKey, still k.data = true
  | .none => rfl
  | .num _ => rfl
  | .text _ => rfl
  | .tup ks => by rw [NestedKey.data, still]; exact still_keys ks
theorem still_keys : ∀ ks : List NestedKey, stillAll (NestedKey.datas ks) = true
  | [] => rfl
  | k :: ks => by rw [NestedKey.datas, stillAll, still_key k, still_keys ks]; rfl
end
theorem NAt.updL {K : PySem.W.Frag} {P : Program} {w : World} {H : Hp} {d L : Addr} {kvs : List NK} {acc : List V} {o : HO} (N : NAt K P w H d kvs) (hL : H L = some (.lst acc)) : NAt K P w (upd H L o) d kvs := by
  have hne : d ≠ L := fun e => by
    have := N.obj
    rw [e, hL] at this
    cases this
  exact ⟨by rw [upd_ne hne]; exact N.obj, fun x hx => ⟨dp_still hL _ _ (still_key _) (N.keys x hx).1, (N.keys x hx).2⟩⟩
theorem KnownOk.updL {K : PySem.W.Frag} {H : Hp} {L : Addr} {kvs : List NK} {acc : List V} {o : HO} (k : KnownOk K H kvs) (hL : H L = some (.lst acc)) : KnownOk K (upd H L o) kvs := fun wn n v h => dp_still hL _ _ (still_co _) (k wn n v h)
/-- between two turns: what was found, the dict, the rest as it was -/
def LSt (K : PySem.W.Frag) (P : Program) (w : World) (d L : Addr) (Hk : Hp) (cs : List Chain) (bound : Nat) (H1 : Hp) : Prop :=
  ∃ acc kvs1, But d Hk H1 ∧ NAt K P w H1 d kvs1 ∧ KnownOk K H1 kvs1 ∧ kvs1.length ≤ bound ∧ H1 L = some (.lst acc) ∧ DpAll K H1 acc (cs.map dChain)
theorem LSt.same {K : PySem.W.Frag} {P : Program} {w : World} {d L : Addr} {Hk H1 H2 : Hp} {cs : List Chain} {bound : Nat} (s : LSt K P w d L Hk cs bound H1) (e : Same H1 H2) : LSt K P w d L Hk cs bound H2 := by
  obtain ⟨acc, kvs1, b, N, k, hl, hL, hacc⟩ := s
  exact ⟨acc, kvs1, b.trans (But.of_same e), N.same e, k.same e, hl, e _ _ hL, DpAll.same e _ _ hacc⟩
theorem LSt.app {K : PySem.W.Frag} {P : Program} {w : World} {d L : Addr} {Hk H1 : Hp} {cs : List Chain} {bound : Nat} {acc : List V} {kvs1 : List NK} (b : But d Hk H1) (N : NAt K P w H1 d kvs1) (k : KnownOk K H1 kvs1) (hl : kvs1.length ≤ bound) (hL : H1 L = some (.lst acc)) (hacc : DpAll K H1 acc (cs.map dChain))
    (h0 : Hk L = none) {x : V} {c : Chain} (hx : Dp K H1 x (dChain c)) : LSt K P w d L Hk (cs ++ [c]) bound (upd H1 L (.lst (acc ++ [x]))) := by
  refine ⟨acc ++ [x], kvs1, b.put h0, N.updL hL, k.updL hL, hl, upd_same, ?_⟩
  rw [List.map_append]
  exact app_still hL (Same.refl _) hacc hx (stillAll_chains _) (still_chain _)
theorem ls_len {n : Nat} {wn : Wanted} {c : Chain} (g : GoodW wn) (h : ls n wn = some c) : c.length = n := by
  cases n with
  | zero => cases h
  | succ n =>
    obtain ⟨r, gs, _, hl, rfl, _⟩ := ls_sound n wn c h g
    rw [toC_len, hl]
def isNo : PyData → Bool
  | .none => true
  | _ => false
theorem dp_isnon {K : PySem.W.Frag} {H : Hp} {v : V} {d : PyData} (h : Dp K H v d) : decide (v = V.non) = isNo d := by cases h <;> simp [isNo]
theorem iteT0 {c A B : Prop} [Decidable c] (h : decide c = true) (a : A) : if decide c = true then A else B := by rw [h]; exact iteT a
theorem iteF0 {c A B : Prop} [Decidable c] (h : decide c = false) (a : B) : if decide c = true then A else B := by rw [h]; exact iteF a
theorem LSt.mono {K : PySem.W.Frag} {P : Program} {w : World} {d L : Addr} {Hk H1 : Hp} {cs : List Chain} {b b' : Nat} (s : LSt K P w d L Hk cs b H1) (h : b ≤ b') : LSt K P w d L Hk cs b' H1 := by
  obtain ⟨acc, kvs1, x1, x2, x3, x4, x5, x6⟩ := s
  exact ⟨acc, kvs1, x1, x2, x3, Nat.le_trans x4 h, x5, x6⟩
section
variable {P : Program} {w : World} {K : PySem.W.Frag} {mg : Str → Option Value} {base : Heap}
theorem ok_least_step {N lv : Nat} (hlv : 6 ≤ lv) (B : Blt mg) (Tc : Tf K w mg) (D : Df K mg "least_steps" sLeast ["wanted", "count", "known"]) (Gm : Fx P w K mg base 1 "matches" ["wanted", "rule"] (spMatches K)) (Gf : Fx P w K mg base 1 "most_far" ["wanted"] (spMostFar K))
    (Ga : Fx P w K mg base 4 "all_before" ["wanted", "rule", "far"] (spAllBefore K)) (Gg : Fx P w K mg base 1 "merged" ["some"] (spMerged K)) (Gw : Fx P w K mg base 1 "widened" ["steps", "by"] (spWidened K))
    (Gr0 : Fx P w K mg base lv "least_steps" ["wanted", "count", "known"] (spU K P w N)) : Fx P w K mg base (lv + 1) "least_steps" ["wanted", "count", "known"] (spU K P w (N + 1)) := by
  refine D.ok scLeast (fun vs H Q E h => ?_) (fun f cdv A outer s H vs Q E hr h => ?_)
  · obtain ⟨_, _, _, _, _, _, _, rfl, _⟩ := h
    rfl
  obtain ⟨m, hm, h⟩ := h
  cases m with
  | zero => exact absurd h.1 (by decide)
  | succ n =>
  have Gr : Fx P w K mg base lv "least_steps" ["wanted", "count", "known"] (spLS K P w n) := Gr0.imp fun _ _ _ _ q => ⟨n, by omega, q⟩
  obtain ⟨_, v, wn, d, kvs, rfl, hd, hgw, hden, N0, hko, hn12, hcl, q⟩ := h
  obtain ⟨aR, haR, hR⟩ := Tc.rules
  have hu64 := hr.units
  refine ⟨_, pss_cons (ps_set (i := 3) scLeast.nd rfl (.inl rfl) (pe_tup (pa_cons (pv 0) (pa_cons (pv 1) pa_nil))))
    (pss_cons (ps_if (pt_cmpR (op_inN hu64) (pv 3) (pv 2) (by rfl)) (pss_one (ps_ret (pe_nget hu64 (pv 2) (pv 3) (fun _ _ => rfl)))) pss_nil)
    (pss_cons (ps_set (i := 4) scLeast.nd rfl (.inl rfl) (pe_lst pa_nil))
    (pss_cons (ps_for PassesOwn.never rfl (pi_tup (pe_glob (v := .ref aR) (by rfl) haR rfl)) (pg_name (i := 5) scLeast.nd rfl (.inl rfl))
      (pss_cons (ps_if (PW.pt (pw_and (pt_cmpR op_eq (pv 1) pe_int (nomark _)) (pw_and1 (pt_val (pe_fx Gm (hr.mono (by omega)) (pa_cons (pv 0) (pa_cons (pv 5) pa_nil)))))))
        (pss_one (ps_expr (pe_bm PySem.F.plainAttrs_list PySem.F.slot_list_append PySem.F.type_list_append mt_append (pv 4) (pa_cons (pe_tup (pa_cons (pe_tup (pa_cons pe_int (pa_cons (pv 5) pa_nil))) pa_nil)) pa_nil)))) pss_nil)
      (pss_one (ps_for PassesOwn.never rfl (pi_range2 (by rfl) B.range (pa_cons pe_int (pa_cons (pe_ifExp (pt_cmpR op_gt (pv 1) pe_int (nomark _)) (pe_op op_add (pe_fx Gf (hr.mono (by omega)) (pa_cons (pv 0) pa_nil)) pe_int) pe_int) pa_nil))) (pg_name (i := 6) scLeast.nd rfl (.inl rfl))
        (pss_cons (ps_set (i := 7) scLeast.nd rfl (.inl rfl) (pe_fx Ga (hr.mono (by omega)) (pa_cons (pv 0) (pa_cons (pv 5) (pa_cons (pv 6) pa_nil)))))
        (pss_cons (ps_if (pt_cmp (pc_isN (pv 7))) (pss_one ps_break) pss_nil)
        (pss_cons (ps_set (i := 8) scLeast.nd rfl (.inl rfl) (pe_fx Gg (hr.mono (by omega)) (pa_cons (pv 7) pa_nil)))
        (pss_cons (ps_set (i := 9) scLeast.nd rfl (.inl rfl) (pe_ifExp (pt_cmp (pc_notN (pv 8))) (pe_fx Gr hr (pa_cons (pv 8) (pa_cons (pe_op op_subN (pv 1) pe_int) (pa_cons (pv 2) pa_nil)))) pe_non))
        (pss_one (ps_if (pt_cmp (pc_notN (pv 9))) (pss_one (ps_expr (pe_bm PySem.F.plainAttrs_list PySem.F.slot_list_append PySem.F.type_list_append mt_append (pv 4) (pa_cons (pe_op op_catA (pe_fx Gw (hr.mono (by omega)) (pa_cons (pv 9) (pa_cons (pv 6) pa_nil))) (pe_tup (pa_cons (pe_tup (pa_cons pe_int (pa_cons (pv 5) pa_nil))) pa_nil))) pa_nil)))) pss_nil))))))))))
    (pss_cons (ps_nput hu64 (pv 2) (pv 3) (pe_ifExp (pt_cmpR (op_neD hu64) (pv 4) (pe_lst pa_nil) (nomark _)) (pe_callB (cr_minD rfl hu64) (by rfl) B.min boot_min (pa_cons (pv 4) pa_nil)) pe_non) (by rfl))
    (pss_one (ps_ret (pe_nget hu64 (pv 2) (pv 3) (fun _ _ => rfl)))))))), ?_⟩
  -- key = (wanted, count)
  refine ⟨_, rfl, _, rfl, (by show 2 ≤ sizeLine; decide), fun pk hpk => ?_⟩
  have sk : Same H (upd H pk (.tup [v, .int ((n + 1 : Nat) : Int)])) := same_new hpk _
  have hkey : Dp K (upd H pk (.tup [v, .int ((n + 1 : Nat) : Int)])) (.ref pk) (keyW wn (n + 1)).data := by
    rw [key_data]
    exact Dp.mkPair upd_same (Dp.same sk _ _ hd) (.int _)
  have N1 := N0.same sk
  have hko1 := hko.same sk
  refine ⟨_, rfl, _, rfl, pk, d, kvs, keyW wn (n + 1), rfl, rfl, N1, hkey, key_depth _ _, _, rfl, ?_⟩
  cases hlk : look kvs (keyW wn (n + 1)) with
  | some v0 =>
    refine iteT ⟨_, rfl, _, rfl, pk, d, kvs, keyW wn (n + 1), v0, rfl, rfl, N1, hkey, key_depth _ _, hlk, ?_⟩
    exact q v0 _ kvs (But.of_same sk) N1 hko1 (by omega) (hko1 _ _ _ hlk)
  | none =>
  refine iteF ⟨Nat.zero_le _, fun L hL => ?_⟩
  have hkd : pk ≠ d := fun e => by rw [e, N0.obj] at hpk; cases hpk
  have hLd : L ≠ d := fun e => by rw [e, N1.obj] at hL; cases hL
  generalize hHk : upd H pk (.tup [v, .int ((n + 1 : Nat) : Int)]) = Hk at sk hkey N1 hko1 hL
  have hdk := Dp.same sk _ _ hd
  have ndk := nat_no N1
  have s0 : Same Hk (upd Hk L (.lst [])) := same_new hL _
  have hmf := mostFar8 hden
  have hmf1 := mostFar_pos wn
  have hcalls : calls (n + 1) = 1 + 48 * calls n := rfl
  have hfl : ∀ r, (foundFor n (ls n) wn r).length ≤ 9 := fun r => Nat.le_trans (found_len n (ls n) wn r) (by omega)
  have hcap : kvs.length + 6 * (8 * calls n) + 1 ≤ 16000000 := by omega
  have hden8 : ∀ far, far ≤ 8 → WOk wn far := fun far hfar => ⟨hgw, fun t ht => by
    have h1 := hden t ht
    have h2 : 2 ^ far ≤ 2 ^ 8 := Nat.pow_le_pow_right (by decide) hfar
    have h3 : t.d * 2 ^ far ≤ 64 * 2 ^ 8 := Nat.mul_le_mul h1 h2
    have h4 : (64 : Nat) * 2 ^ 8 < 1073741824 := by decide
    omega⟩
  -- the state between two turns
  refine ⟨aR, rfl, ⟨_, hR _⟩, for_tup (K := K) (a := aR) (xs := rules.map fun r => V.str r.str) (fun i σ H1 => (∃ y5 y6 y7 y8 y9, σ = [some v, some (.int ((n + 1 : Nat) : Int)), some (.ref d), some (.ref pk), some (.ref L), y5, y6, y7, y8, y9]) ∧
      LSt K P w d L Hk ((rules.take i).flatMap fun r => foundFor n (ls n) wn r) (kvs.length + i * (8 * calls n)) H1)
    ⟨⟨none, none, none, none, none, rfl⟩, [], kvs, But.of_same s0, N1.same s0, hko1.same s0, by omega, upd_same, .nil⟩ (fun i σ H1 _ p => hR _) (fun i z σ H1 hi p => ?_) (fun σ H1 p => ?_)⟩
  · -- one rule
    obtain ⟨⟨y5, y6, y7, y8, y9, rfl⟩, st1⟩ := p
    have hi6 : i < 6 := by
      have := (List.getElem?_eq_some_iff.mp hi).1
      rw [List.length_map, rules_len] at this
      exact this
    rw [List.getElem?_map] at hi
    cases hri : rules[i]? with
    | none => rw [hri] at hi; cases hi
    | some r =>
    rw [hri] at hi
    obtain rfl : V.str r.str = z := Option.some.inj hi
    have hbase : ((rules.take i).flatMap fun r => foundFor n (ls n) wn r).length ≤ 54 := by
      have h1 : ((rules.take i).flatMap fun r => foundFor n (ls n) wn r).length ≤ 9 * (rules.take i).length := flat_len hfl _
      rw [List.length_take, rules_len] at h1
      omega
    have hnx := flat_take_succ (fun r => foundFor n (ls n) wn r) hri
    generalize ((rules.take i).flatMap fun r => foundFor n (ls n) wn r) = base0 at st1 hbase hnx
    rw [hnx]
    refine ⟨_, rfl, rfl, _, rfl, ?_⟩
    -- the inner loop, from the state behind the first if
    have inner : ∀ H2, LSt K P w d L Hk (base0 ++ innerTo n wn r 0) (kvs.length + i * (8 * calls n)) H2 →
        tFor (iRng2 (tCons (tC (.int 1)) (tCons (tIf (tTest (tOp (rI0 fun i j => .bl (decide (j < i))) (tVar 1) (tC (.int 1)))) (tOp (rI0 fun i j => .int (i + j)) (tCall (spMostFar K) [] E0 (tCons (tVar 0) tNil)) (tC (.int 1))) (tC (.int 1))) tNil))) (gName 6)
          (tSeq (tAsg (tCall (spAllBefore K) [] E0 (tCons (tVar 0) (tCons (tVar 5) (tCons (tVar 6) tNil)))) (gName 7))
          (tSeq (tIfS (tB (tIsN (tVar 7))) tBreak tNext)
          (tSeq (tAsg (tCall (spMerged K) [] E0 (tCons (tVar 7) tNil)) (gName 8))
          (tSeq (tAsg (tIf (tB (tNotN (tVar 8))) (tCall (spLS K P w n) [] E0 (tCons (tVar 8) (tCons (tOp (fun x y H Q => ∃ n m : Nat, x = .int (n : Int) ∧ y = .int (m : Int) ∧ m ≤ n ∧ Q (.int ((n - m : Nat) : Int)) H) (tVar 1) (tC (.int 1))) (tCons (tVar 2) tNil)))) (tC .non)) (gName 9))
          (tIfS (tB (tNotN (tVar 9))) (tDrop (tBM K "list" rAppend (tVar 4) (tCons (tOp (rCatA K) (tCall (spWidened K) [] E0 (tCons (tVar 9) (tCons (tVar 6) tNil))) (tTup (tCons (tTup (tCons (tC (.int 0)) (tCons (tVar 5) tNil))) tNil))) tNil))) tNext)))))
          { nx := fun σ H1 => (∃ y5 y6 y7 y8 y9, σ = [some v, some (.int ((n + 1 : Nat) : Int)), some (.ref d), some (.ref pk), some (.ref L), y5, y6, y7, y8, y9]) ∧ LSt K P w d L Hk (base0 ++ foundFor n (ls n) wn r) (kvs.length + (i + 1) * (8 * calls n)) H1, rt := Q }
          [some v, some (.int ((n + 1 : Nat) : Int)), some (.ref d), some (.ref pk), some (.ref L), some (.str r.str), y6, y7, y8, y9] H2 := by
      intro H2 st2
      have hi1 : (i + 1) * (8 * calls n) = i * (8 * calls n) + 8 * calls n := Nat.succ_mul _ _
      by_cases hn : n = 0
      · refine ⟨_, rfl, _, _, rfl, rfl, _, rfl, ?_⟩
        rw [show decide ((1 : Int) < ((n + 1 : Nat) : Int)) = false from decide_eq_false (by omega)]
        refine iteF ⟨1, 1, rfl, by decide, for_range (lo := 1) (n := 0) (fun _ σ H1 => (∃ y5 y6 y7 y8 y9, σ = [some v, some (.int ((n + 1 : Nat) : Int)), some (.ref d), some (.ref pk), some (.ref L), y5, y6, y7, y8, y9]) ∧ LSt K P w d L Hk (base0 ++ innerTo n wn r 0) (kvs.length + i * (8 * calls n)) H1)
          ⟨⟨_, _, _, _, _, rfl⟩, st2⟩ (fun j _ _ hj => absurd hj (by omega)) (fun σ H1 p => ⟨p.1, ?_⟩)⟩
        have := p.2.mono (b' := kvs.length + (i + 1) * (8 * calls n)) (by omega)
        subst hn
        rw [innerTo_end0] at this
        exact this
      · refine ⟨_, rfl, _, _, rfl, rfl, _, rfl, ?_⟩
        rw [show decide ((1 : Int) < ((n + 1 : Nat) : Int)) = true from decide_eq_true (by omega)]
        refine iteT ⟨_, rfl, v, wn, rfl, ?_, fun vf H3 s3 hvf => ?_⟩
        · obtain ⟨_, _, b2, N2, _⟩ := st2
          exact dp_but b2 ndk _ _ (still_w wn) hdk
        cases hvf
        refine ⟨_, _, rfl, rfl, 1, _, rfl, ⟨by decide, by decide, by omega, by omega⟩, ?_⟩
        rw [show ((mostFar wn : Int) + 1 - 1).toNat = mostFar wn by omega]
        refine for_range (lo := 1) (n := mostFar wn) (fun j σ H1 => (∃ y6 y7 y8 y9, σ = [some v, some (.int ((n + 1 : Nat) : Int)), some (.ref d), some (.ref pk), some (.ref L), some (.str r.str), y6, y7, y8, y9]) ∧ LSt K P w d L Hk (base0 ++ innerTo n wn r j) (kvs.length + i * (8 * calls n) + j * calls n) H1 ∧ ∀ k, 1 ≤ k → k < 1 + j → (allBefore wn r k).isSome = true)
          ⟨⟨_, _, _, _, rfl⟩, (st2.same s3).mono (by omega), fun k h1 h2 => by omega⟩ (fun j σ H1 hj p => ?_) (fun σ H1 p => ?_)
        · obtain ⟨⟨y6, y7, y8, y9, rfl⟩, st, hpre⟩ := p
          rw [show (1 : Int) + (j : Int) = ((j + 1 : Nat) : Int) by omega]
          have hbj : (j + 1) * calls n ≤ 8 * calls n := Nat.mul_le_mul_right _ (by omega)
          have hbi : (i + 1) * (8 * calls n) ≤ 6 * (8 * calls n) := Nat.mul_le_mul_right _ (by omega)
          have hj1 : (j + 1) * calls n = j * calls n + calls n := Nat.succ_mul _ _
          have hsucc := innerTo_succ n wn r j
          unfold lsStep at hsucc
          have hdH1 : Dp K H1 v (dW wn) := by
            obtain ⟨_, _, b2, N2, _⟩ := st
            exact dp_but b2 ndk _ _ (still_w wn) hdk
          refine ⟨_, rfl, _, rfl, _, rfl, v, wn, r, j + 1, rfl, hdH1, hden8 _ (by omega), ⟨by omega, by omega⟩, fun v7 H4 s4 hv7 => ?_⟩
          have st4 := st.same s4
          refine ⟨_, rfl, _, rfl, ?_⟩
          rw [dp_isnon hv7]
          cases hab : allBefore wn r (j + 1) with
          | none =>
            refine iteT ⟨⟨_, _, _, _, _, rfl⟩, ?_⟩
            rw [innerTo_stop hn hpre (.inr ⟨hj, hab⟩)] at st4
            exact st4.mono (by omega)
          | some l =>
          rw [hab] at hv7 hsucc
          dsimp only at hsucc
          have hpre' : ∀ k, 1 ≤ k → k < 1 + (j + 1) → (allBefore wn r k).isSome = true := fun k h1 h2 => by
            by_cases hk : k = j + 1
            · rw [hk, hab]; rfl
            · exact hpre k h1 (by omega)
          have hg := allBefore_good hgw hab
          have hdn := allBefore_den hgw hden hab
          refine iteF ⟨_, rfl, v7, l, rfl, hv7, fun q hq => (hg q hq).2, fun v8 H5 s5 hv8 => ?_⟩
          have st5 := st4.same s5
          refine ⟨_, rfl, _, rfl, ?_⟩
          rw [dp_isnon hv8]
          cases hme : merged l with
          | none =>
            rw [hme] at hsucc
            dsimp only at hsucc
            rw [List.append_nil] at hsucc
            refine iteF ⟨_, rfl, _, rfl, iteF ⟨⟨_, _, _, _, rfl⟩, ?_, hpre'⟩⟩
            rw [hsucc]
            exact st5.mono (by omega)
          | some e =>
          rw [hme] at hv8 hsucc
          obtain ⟨acc5, kvs5, b5, N5, k5, l5, hL5, hacc5⟩ := st5
          have ge := merged_good hme fun q hq => (hg q hq).1
          refine iteT ⟨_, rfl, _, rfl, n + 1, 1, rfl, rfl, by omega, _, rfl, by omega, v8, e, d, kvs5, rfl, hv8, ge, merged_den hme hdn, N5, k5, by omega, by omega, fun v9 H6 kvs6 b6 N6 k6 l6 hv9 => ?_⟩
          have hL6 := b6 _ _ hLd hL5
          have nd5 := nat_no N5
          have hacc6 := dpa_but b6 nd5 _ _ (stillAll_chains _) hacc5
          have hbd : kvs6.length ≤ kvs.length + i * (8 * calls n) + (j + 1) * calls n := by omega
          refine ⟨_, rfl, _, rfl, ?_⟩
          rw [dp_isnon hv9]
          cases hls : ls n e with
          | none =>
            dsimp only at hsucc
            rw [hls] at hsucc
            dsimp only [Option.map] at hsucc
            rw [List.append_nil] at hsucc
            refine iteF ⟨⟨_, _, _, _, rfl⟩, ?_, hpre'⟩
            rw [hsucc]
            exact ⟨acc5, kvs6, b5.trans b6, N6, k6, hbd, hL6, hacc6⟩
          | some s =>
          dsimp only at hsucc
          rw [hls] at hsucc hv9
          dsimp only [Option.map] at hsucc
          have hsl := ls_len ge hls
          refine iteT ⟨_, rfl, .inl ⟨rfl, _, .inl (.inl hL6)⟩, _, rfl, _, rfl, v9, s, j + 1, rfl, hv9, by omega, fun v10 H7 s7 hv10 => ?_⟩
          obtain ⟨a10, xs10, rfl, hs10, hx10⟩ := dp_chain hv10
          refine ⟨_, rfl, (by show 2 ≤ sizeLine; decide), fun p1 hp1 => ⟨(by show 1 ≤ sizeLine; decide), fun p2 hp2 => ?_⟩⟩
          have sp1 : Same H7 (upd H7 p1 (.tup [.int 0, .str r.str])) := same_new hp1 _
          have sp2 : Same (upd H7 p1 (.tup [.int 0, .str r.str])) (upd (upd H7 p1 (.tup [.int 0, .str r.str])) p2 (.tup [.ref p1])) := same_new hp2 _
          have s8 := sp1.trans sp2
          have hst : Dp K (upd H7 p1 (.tup [.int 0, .str r.str])) (.ref p1) (dStep (0, r)) := Dp.mkPair upd_same (.int _) (.str _)
          have hlx : xs10.length = n := by rw [hx10.len, List.length_map, widened_len, hsl]
          refine ⟨a10, p2, xs10, [.ref p1], rfl, rfl, s8.tup hs10, SqT.of upd_same, (small1000 (by omega)), fun e0 => absurd (congrArg List.length e0) (by rw [hlx]; simp only [List.length_nil]; omega), fun _ e0 => absurd e0 (by simp), fun _ _ p3 hp3 => ?_⟩
          have sp3 := same_new hp3 (.tup (xs10 ++ [.ref p1]))
          have s9 := (s7.trans s8).trans sp3
          have hres : Dp K (upd (upd (upd H7 p1 (.tup [.int 0, .str r.str])) p2 (.tup [.ref p1])) p3 (.tup (xs10 ++ [.ref p1]))) (.ref p3) (dChain (widened s (j + 1) ++ [(0, r)])) := by
            unfold dChain
            rw [List.map_append]
            exact Dp.tup (SqT.of upd_same) ((DpAll.same (s8.trans sp3) _ _ hx10).append (.cons (Dp.same (sp2.trans sp3) _ _ hst) .nil))
          have hL9 := s9 _ _ hL6
          refine ⟨L, acc5, _, rfl, rfl, hL9, ?_, ⟨_, _, _, _, rfl⟩, ?_, hpre'⟩
          · rw [hacc5.len, List.length_map, List.length_append]
            have := innerTo_len n wn r j
            exact small1000 (by omega)
          · rw [hsucc, ← List.append_assoc]
            exact (LSt.app ((b5.trans b6).trans (But.of_same s9)) (N6.same s9) (k6.same s9) hbd hL9 (DpAll.same s9 _ _ hacc6) hL hres)
        · obtain ⟨⟨y6, y7, y8, y9, rfl⟩, st, hpre⟩ := p
          refine ⟨⟨_, _, _, _, _, rfl⟩, ?_⟩
          rw [innerTo_stop hn hpre (.inl rfl)] at st
          have hbj : mostFar wn * calls n ≤ 8 * calls n := Nat.mul_le_mul_right _ (by omega)
          exact st.mono (by omega)
    have st1' := st1
    obtain ⟨acc1, kvs1, b1, N1', k1, l1, hL1, hacc1⟩ := st1'
    have hskip : ¬(n = 0 ∧ FitsW wn (byRule r)) → LSt K P w d L Hk (base0 ++ innerTo n wn r 0) (kvs.length + i * (8 * calls n)) H1 := fun hc => by
      have : innerTo n wn r 0 = [] := by
        unfold innerTo
        rw [if_neg hc]
        rfl
      rw [this, List.append_nil]
      exact st1
    by_cases hn : n = 0
    · rw [decide_eq_true (show V.int ((n + 1 : Nat) : Int) = V.int 1 by rw [hn]; rfl)]
      refine iteT ⟨_, rfl, _, rfl, v, wn, r, rfl, dp_but b1 ndk _ _ (still_w wn) hdk, fun vm H2 s2 hvm => ?_⟩
      cases hvm
      refine ⟨_, rfl, ?_⟩
      by_cases hc : FitsW wn (byRule r)
      · rw [decide_eq_true hc]
        have hin : innerTo n wn r 0 = [[((0 : Nat), r)]] := by
          unfold innerTo
          rw [if_pos ⟨hn, hc⟩]
          rfl
        have hL2 := s2 _ _ hL1
        refine iteT ⟨_, rfl, .inl ⟨rfl, _, .inl (.inl hL2)⟩, _, rfl, (by show 2 ≤ sizeLine; decide), fun p1 hp1 => ⟨(by show 1 ≤ sizeLine; decide), fun p2 hp2 => ?_⟩⟩
        have sp1 := same_new hp1 (.tup [.int 0, .str r.str])
        have sp2 := same_new hp2 (.tup [.ref p1])
        have s9 := (s2.trans sp1).trans sp2
        have hres : Dp K (upd (upd H2 p1 (.tup [.int 0, .str r.str])) p2 (.tup [.ref p1])) (.ref p2) (dChain [((0 : Nat), r)]) :=
          Dp.tup (SqT.of upd_same) (.cons (Dp.same sp2 _ _ (Dp.mkPair upd_same (.int _) (.str _))) .nil)
        have hL9 := s9 _ _ hL1
        refine ⟨L, acc1, _, rfl, rfl, hL9, ?_, inner _ ?_⟩
        · rw [hacc1.len, List.length_map]
          exact small1000 (by omega)
        · rw [hin]
          exact LSt.app (b1.trans (But.of_same s9)) (N1'.same s9) (k1.same s9) l1 hL9 (DpAll.same s9 _ _ hacc1) hL hres
      · rw [decide_eq_false hc]
        exact iteF (inner _ ((hskip fun z => hc z.2).same s2))
    · rw [decide_eq_false (show ¬ V.int ((n + 1 : Nat) : Int) = V.int 1 from fun z => by
        have := V.int.inj z
        omega)]
      exact iteF (inner _ (hskip fun z => hn z.1))
  · obtain ⟨⟨y5, y6, y7, y8, y9, rfl⟩, st⟩ := p
    obtain ⟨acc, kvs1, b1, N1', k1, l1, hL1, hacc⟩ := st
    have htk : rules.take (rules.map fun r => V.str r.str).length = rules := rfl
    rw [htk] at hacc
    have hl6 : (rules.map fun r => V.str r.str).length = 6 := rfl
    rw [hl6] at l1
    have hls : ls (n + 1) wn = minL (rules.flatMap fun r => foundFor n (ls n) wn r) := rfl
    have hcl54 : (rules.flatMap fun r => foundFor n (ls n) wn r).length ≤ 9 * rules.length := flat_len hfl _
    generalize (rules.flatMap fun r => foundFor n (ls n) wn r) = cs at hacc hls hcl54
    refine ⟨_, rfl, Nat.zero_le _, fun M hM => ?_⟩
    have sM := same_new hM (.lst [])
    have N2 := N1'.same sM
    have k2 := k1.same sM
    have hkey2 : Dp K (upd H1 M (.lst [])) (.ref pk) (keyW wn (n + 1)).data := Dp.same sM _ _ (dp_but b1 ndk _ _ (still_key _) hkey)
    have hlt : kvs1.length < sizeLine := Nat.lt_of_le_of_lt (show kvs1.length ≤ 16000000 by omega) (by decide)
    have hlook : ∀ v2, look (putN kvs1 (keyW wn (n + 1)) pk v2) (keyW wn (n + 1)) = some v2 := fun v2 => by rw [look_put, if_pos rfl]
    have hbut : ∀ o, But d H (upd (upd H1 M (.lst [])) d o) := fun o b u hb e => by
      rw [upd_ne hb]
      exact sM _ _ (b1 _ _ hb (sk _ _ e))
    have hlen : ∀ v2, (putN kvs1 (keyW wn (n + 1)) pk v2).length ≤ kvs.length + calls (n + 1) := fun v2 => by
      have := putN_len kvs1 (keyW wn (n + 1)) pk v2
      omega
    have hLM := sM _ _ hL1
    have hacc2 := DpAll.same sM _ _ hacc
    refine ⟨.list (cs.map dChain), .list [], .lst (SqL.of hLM) hacc2, .lst (SqL.of upd_same) .nil, shaped_chains cs, shaped_chains [], _, rfl, ?_⟩
    rw [eqv_nil]
    cases cs with
    | nil =>
      have hv2 : Dp K (upd H1 M (.lst [])) .non (dCO (ls (n + 1) wn)) := by
        rw [hls]
        exact .non
      exact iteF ⟨_, rfl, _, rfl, pk, d, kvs1, keyW wn (n + 1), rfl, rfl, N2, hkey2, key_depth _ _, hlt, fun N3 => ⟨_, rfl, _, rfl, pk, d, _, keyW wn (n + 1), _, rfl, rfl, N3, dp_ext N2.obj hkey2, key_depth _ _, hlook _, q _ _ _ (hbut _) N3 (k2.put N2 hv2) (hlen _) (dp_ext N2.obj hv2)⟩⟩
    | cons c cs =>
      refine iteT ⟨_, rfl, L, acc, dChain c, cs.map dChain, rfl, SqL.of hLM, hacc2, alikeAll_chains (c :: cs), Nat.le_trans (depth_chains (c :: cs)) (by decide), fun v2 hv => ?_⟩
      have hv2 : Dp K (upd H1 M (.lst [])) v2 (dCO (ls (n + 1) wn)) := by
        rw [hls, minL_F]
        rw [minD_chain] at hv
        exact hv
      exact ⟨_, rfl, _, rfl, pk, d, kvs1, keyW wn (n + 1), rfl, rfl, N2, hkey2, key_depth _ _, hlt, fun N3 => ⟨_, rfl, _, rfl, pk, d, _, keyW wn (n + 1), _, rfl, rfl, N3, dp_ext N2.obj hkey2, key_depth _ _, hlook _, q _ _ _ (hbut _) N3 (k2.put N2 hv2) (hlen _) (dp_ext N2.obj hv2)⟩⟩
end
end K69
set_option Elab.async false
set_option linter.all false
set_option maxRecDepth 100000
set_option maxHeartbeats 8000000
namespace K69
open PySem PySem.Spec PyProof.Rows L2 SR RZ
/-! ### trimmed, in plain words -/
structure Tr (c : Chain) (wd : Nat) (r : Rule) (gs : List (Nat × Rule)) : Prop where
  eq : trimS c = (toC wd r gs, some wd)
  gaps : GapsOk gs
  least : IsLeast c wd
  len : gs.length + 1 ≤ c.length
  tot : ∃ s ∈ c, s.1 = wd + total gs
theorem Tr.snoc {c : Chain} {wd : Nat} {r : Rule} {gs : List (Nat × Rule)} (t : Tr c wd r gs) (s : SR.Step) : ∃ wd' r' gs', Tr (c ++ [s]) wd' r' gs' := by
  obtain ⟨e, g, ⟨⟨x, hx, hxw⟩, hl⟩, len, y, hy, hyw⟩ := t
  by_cases h : s.1 < wd
  · refine ⟨s.1, s.2, (wd - s.1, r) :: gs, ?_, ?_, ⟨⟨s, by simp, rfl⟩, fun z hz => ?_⟩, ?_, y, List.mem_append_left _ hy, ?_⟩
    · rw [trimS_snoc, e]
      unfold tstep
      simp only [h, decide_true, if_true]
      show (_, _) = (toC (s.1 + (wd - s.1)) r gs ++ [(s.1, s.2)], some s.1)
      rw [show s.1 + (wd - s.1) = wd by omega]
    · intro p hp
      rcases List.mem_cons.mp hp with rfl | hp
      · show 1 ≤ wd - s.1; omega
      · exact g p hp
    · rcases List.mem_append.mp hz with hz | hz
      · have := hl z hz; omega
      · rw [List.mem_singleton.mp hz]; exact Nat.le_refl _
    · rw [List.length_cons, List.length_append]; simp only [List.length_singleton]; omega
    · rw [hyw]; unfold total; rw [List.map_cons, List.sum_cons]; show _ = s.1 + (wd - s.1 + _); omega
  · refine ⟨wd, r, gs, ?_, g, ⟨⟨x, List.mem_append_left _ hx, hxw⟩, fun z hz => ?_⟩, ?_, y, List.mem_append_left _ hy, hyw⟩
    · rw [trimS_snoc, e]
      unfold tstep
      simp only [h, decide_false, Bool.false_eq_true, if_false]
    · rcases List.mem_append.mp hz with hz | hz
      · exact hl z hz
      · rw [List.mem_singleton.mp hz]; omega
    · rw [List.length_append]; omega
theorem tr_of {s : SR.Step} : ∀ (t c : Chain), (∃ wd r gs, Tr c wd r gs) → ∃ wd r gs, Tr (c ++ t) wd r gs
  | [], c, h => by rw [List.append_nil]; exact h
  | x :: t, c, ⟨wd, r, gs, h⟩ => by
    have := tr_of (s := s) t (c ++ [x]) (h.snoc x)
    rw [List.append_assoc] at this
    exact this
theorem trim_tr {c : Chain} (h : 1 ≤ c.length) : ∃ wd r gs, Tr c wd r gs := by
  cases c with
  | nil => cases h
  | cons s t =>
    exact tr_of (s := s) t [s] ⟨s.1, s.2, [], rfl, (fun p hp => by cases hp), ⟨⟨s, by simp, rfl⟩, fun z hz => by rw [List.mem_singleton.mp hz]; exact Nat.le_refl _⟩, Nat.le_refl _, s, by simp, by simp [total]⟩
theorem Tr.trim {c : Chain} {wd : Nat} {r : Rule} {gs : List (Nat × Rule)} (t : Tr c wd r gs) : trim c = toC wd r gs := by unfold K69.trim; rw [t.eq]
theorem IsLeast.uniq {c : Chain} {a b : Nat} (h1 : IsLeast c a) (h2 : IsLeast c b) : a = b := by
  obtain ⟨⟨x, hx, rfl⟩, l1⟩ := h1
  obtain ⟨⟨y, hy, rfl⟩, l2⟩ := h2
  have := l1 y hy
  have := l2 x hx
  omega
section
variable {P : Program} {w : World} {K : PySem.W.Frag} {mg : Str → Option Value} {base : Heap}
/-! ### least_steps at every count -/
theorem ok_least (B : Blt mg) (Tc : Tf K w mg) (D : Df K mg "least_steps" sLeast ["wanted", "count", "known"]) (Gm : Fx P w K mg base 1 "matches" ["wanted", "rule"] (spMatches K)) (Gf : Fx P w K mg base 1 "most_far" ["wanted"] (spMostFar K))
    (Ga : Fx P w K mg base 4 "all_before" ["wanted", "rule", "far"] (spAllBefore K)) (Gg : Fx P w K mg base 1 "merged" ["some"] (spMerged K)) (Gw : Fx P w K mg base 1 "widened" ["steps", "by"] (spWidened K)) : ∀ n, Fx P w K mg base (6 + n) "least_steps" ["wanted", "count", "known"] (spU K P w n)
  | 0 => by
    refine (D.ok (k := 5) (sp := spU K P w 0) scLeast (fun vs H Q E h => ?_) (fun f cdv A outer s H vs Q E hr h => ?_))
    · obtain ⟨m, hm, h⟩ := h
      exact absurd h.1 (by omega)
    · obtain ⟨m, hm, h⟩ := h
      exact absurd h.1 (by omega)
  | n + 1 => ok_least_step (lv := 6 + n) (Nat.le_add_right _ _) B Tc D Gm Gf Ga Gg Gw (ok_least B Tc D Gm Gf Ga Gg Gw n)
/-! ### shortest -/
theorem total_le {B : Nat} : ∀ gs : List (Nat × Rule), (∀ p ∈ gs, p.1 ≤ B) → total gs ≤ gs.length * B
  | [], _ => by simp [total]
  | p :: gs, h => by
    have h1 := total_le gs fun q hq => h q (List.mem_cons_of_mem _ hq)
    have h2 := h p List.mem_cons_self
    unfold total at h1 ⊢
    rw [List.map_cons, List.sum_cons, List.length_cons, Nat.succ_mul]
    omega
theorem wanted_good {wd : Nat} {r : Rule} {gs : List (Nat × Rule)} (g : GapsOk gs) : GoodW (wantedOf wd (T r gs)) := by
  have h := good_T gs r g
  unfold wantedOf
  constructor
  · intro t ht
    dsimp only at ht
    split at ht
    · cases ht; exact h 0
    · cases ht
  · intro t ht
    cases ht
    exact h 1
theorem wanted_den {wd : Nat} {r : Rule} {gs : List (Nat × Rule)} (h : total gs ≤ 5) : DenLe 64 (wantedOf wd (T r gs)) := by
  have h64 : 2 ^ (total gs + 1) ≤ 2 ^ 6 := Nat.pow_le_pow_right (by decide) (by omega)
  unfold wantedOf
  rintro t (ht | ht)
  · dsimp only at ht
    split at ht
    · cases ht; exact Nat.le_trans (T_den_le gs r 0) h64
    · cases ht
  · cases ht; exact Nat.le_trans (T_den_le gs r 1) h64
/-- what least_steps answers here: the gaps are small -/
theorem ls_small {n : Nat} {wn : Wanted} {s : Chain} (h : ls n wn = some s) (g : GoodW wn) (hd : DenLe 64 wn) : ∃ r gs, GapsOk gs ∧ gs.length + 1 = n ∧ s = toC 0 r gs ∧ FitsW wn (T r gs) ∧ (∀ p ∈ gs, p.1 ≤ 8) ∧ total gs ≤ gs.length * 8 := by
  cases n with
  | zero => cases h
  | succ n =>
    obtain ⟨r, gs, hg, hl, rfl, hf, hb⟩ := ls_sound n wn s h g
    have h8 := hb 7 64 (by decide) hd fun d hd => bitLen64 hd
    exact ⟨r, gs, hg, by omega, rfl, hf, h8, total_le gs h8⟩
def sumC : Nat → Nat
  | 0 => 0
  | n + 1 => sumC n + calls (n + 1)
theorem sumC_le {n : Nat} (h : n ≤ 5) : sumC n ≤ 6000000 := by
  match n, h with
  | 0, _ => decide
  | 1, _ => decide
  | 2, _ => decide
  | 3, _ => decide
  | 4, _ => decide
  | 5, _ => decide
theorem calls_le {n : Nat} (h : n ≤ 5) : calls n ≤ 6000000 := by
  match n, h with
  | 0, _ => decide
  | 1, _ => decide
  | 2, _ => decide
  | 3, _ => decide
  | 4, _ => decide
  | 5, _ => decide
def Res (wn : Wanted) (n : Nat) (s : Chain) : Prop := 1 ≤ n ∧ ls n wn = some s ∧ ∀ k, 1 ≤ k → k < n → ls k wn = none
section
variable {P : Program} {w : World} {K : PySem.W.Frag} {mg : Str → Option Value} {base : Heap}
abbrev sShortest : Stmt := topS 43
theorem scShortest : FnScope ["chain", "width", "known", "wanted", "found", "count", "steps"] ["chain"] (defScope sShortest) := ⟨rfl, rfl, rfl, by decide +kernel, rfl, by decide +kernel, by decide +kernel⟩
def spShortest (K : PySem.W.Frag) : Sp := fun vs H Q _ => ∃ (v : V) (c : Chain) (wd : Nat) (r : Rule) (gs : List (Nat × Rule)) (n : Nat) (s : Chain), vs = [v] ∧ Dp K H v (dChain c) ∧ ChainOk c ∧ Tr c wd r gs ∧ gs.length ≤ 4 ∧ total gs ≤ 5 ∧ wd ≤ 3 ∧ Res (wantedOf wd (T r gs)) n s ∧ n ≤ gs.length + 1 ∧ Gives K H Q (dChain (widened s wd))
theorem ok_shortest (B : Blt mg) (Tc : Tf K w mg) (D : Df K mg "shortest" sShortest ["chain"]) (Gl : Fx P w K mg base 6 "last_width" ["chain"] (spLastWidth K)) (Gt : Fx P w K mg base 6 "trimmed" ["chain"] (spTrimmed K)) (Gh : Fx P w K mg base 7 "thresholds" ["chain"] (spThresholds K))
    (Gr : Fx P w K mg base 11 "least_steps" ["wanted", "count", "known"] (spU K P w 5)) (Gw : Fx P w K mg base 1 "widened" ["steps", "by"] (spWidened K)) : Fx P w K mg base 12 "shortest" ["chain"] (spShortest K) := by
  refine D.ok scShortest (fun vs H Q E h => ?_) (fun f cdv A outer s H vs Q E hr h => ?_)
  · obtain ⟨_, _, _, _, _, _, _, rfl, _⟩ := h
    rfl
  obtain ⟨v, c, wd, r, gs, n, st, rfl, hd, hok, tr, hgl, htot, hwd, ⟨hn1, hls, hnone⟩, hn2, q⟩ := h
  obtain ⟨tm, hm⟩ := Tc.most
  refine ⟨_, pss_cons (ps_par3 (i := 1) (j := 2) (l := 3) (by rfl) scShortest.nd rfl rfl rfl (by decide) (by decide) (by decide) rfl rfl rfl (pa_cons (pe_fx Gl (hr.mono (by decide)) (pa_cons (pv 0) pa_nil)) (pa_cons pe_dnewN (pa_cons (pe_fx Gh (hr.mono (by decide)) (pa_cons (pv 0) pa_nil)) pa_nil))) (by rfl))
    (pss_cons (ps_set (i := 4) scShortest.nd rfl (.inl rfl) (pe_fx Gt (hr.mono (by decide)) (pa_cons (pv 0) pa_nil)))
    (pss_cons (ps_for PassesOwn.never rfl (pi_range2 (by rfl) B.range (pa_cons pe_int (pa_cons (pe_callB call_len_seq (by rfl) B.len PySem.boot_len (pa_cons (pv 4) pa_nil)) pa_nil))) (pg_name (i := 5) scShortest.nd rfl (.inl rfl))
      (pss_cons (ps_set (i := 6) scShortest.nd rfl (.inl rfl) (pe_fx Gr hr (pa_cons (pv 3) (pa_cons (pv 5) (pa_cons (pv 2) pa_nil)))))
      (pss_one (ps_if (PW.pt (pw_and (pt_cmp (pc_notN (pv 6))) (pw_and1 (pt_cmpR op_le (pe_op op_addN (pe_ix (r := rIxT K) ix_tup (pe_ix (r := rIxT K) ix_tup (pv 6) pe_int (fun _ _ => rfl)) pe_int (fun _ _ => rfl)) (pv 1)) (pe_glob (v := .int 100) (by rfl) hm ⟨tm, rfl⟩) (nomark _)))))
        (pss_one (ps_ret (pe_fx Gw (hr.mono (by decide)) (pa_cons (pv 6) (pa_cons (pv 1) pa_nil))))) pss_nil))))
    (pss_one (ps_ret (pe_fx Gw (hr.mono (by decide)) (pa_cons (pe_fx Gr hr (pa_cons (pv 3) (pa_cons (pe_callB call_len_seq (by rfl) B.len PySem.boot_len (pa_cons (pv 4) pa_nil)) (pa_cons (pv 2) pa_nil)))) (pa_cons (pv 1) pa_nil))))))), ?_⟩
  refine ⟨_, rfl, v, c, rfl, hd, hok, fun wl H1 hwl s1 => ?_⟩
  have hwe : wd = wl := tr.least.uniq hwl
  subst hwe
  refine fun d hdn hN => ?_
  have gw := wanted_good (wd := wd) (r := r) tr.gaps
  have dw := wanted_den (wd := wd) (r := r) htot
  generalize hwn : wantedOf wd (T r gs) = wn at hls hnone gw dw
  have sd := same_new hdn (ND P w d [])
  refine ⟨_, rfl, v, c, wd, r, gs, rfl, Dp.same (s1.trans sd) _ _ hd, hok, tr.trim, tr.gaps, by omega, fun vw H2 s2 hvw => ⟨_, _, _, rfl, ?_⟩⟩
  rw [hwn] at hvw
  have hN2 := hN.same s2
  refine ⟨_, rfl, v, c, rfl, Dp.same ((s1.trans sd).trans s2) _ _ hd, hok, fun vt H3 s3 hvt => ?_⟩
  rw [tr.trim] at hvt
  obtain ⟨at_, xt, rfl, hst, hxt⟩ := dp_chain hvt
  have hlt : xt.length = gs.length + 1 := by rw [hxt.len, List.length_map, toC_len]
  have hN3 := hN2.same s3
  have hvw3 := Dp.same s3 _ _ hvw
  have hHd : H1 d = none := hdn
  have sA : Same H H1 := s1
  refine ⟨_, rfl, at_, xt, rfl, .inr hst, 1, _, rfl, ⟨by decide, by decide, by omega, by omega⟩, ?_⟩
  rw [show ((xt.length : Int) - 1).toNat = gs.length by omega]
  -- the state between two turns
  have back : ∀ {H4 : Hp}, But d H3 H4 → Same H H4 := fun b => fun x o e => b x o (fun z => by have h0 := s1 _ _ e; rw [z, hHd] at h0; cases h0) ((s1.trans (sd.trans (s2.trans s3))) x o e)
  refine for_range (lo := 1) (n := gs.length) (fun j σ H4 => (∃ y5 y6, σ = [some v, some (.int (wd : Nat)), some (.ref d), some vw, some (.ref at_), y5, y6]) ∧ j + 1 ≤ n ∧ ∃ kvs, But d H3 H4 ∧ NAt K P w H4 d kvs ∧ KnownOk K H4 kvs ∧ kvs.length ≤ sumC j)
    ⟨⟨_, _, rfl⟩, hn1, [], fun _ _ _ h => h, hN3, (fun a b u h => nomatch h), Nat.zero_le _⟩ (fun j σ H4 hj p => ?_) (fun σ H4 p => ?_)
  · obtain ⟨⟨y5, y6, rfl⟩, hjn, kvs, b4, N4, k4, l4⟩ := p
    rw [show (1 : Int) + (j : Int) = ((j + 1 : Nat) : Int) by omega]
    have hs4 := sumC_le (n := j) (by omega)
    have hc4 := calls_le (n := j + 1) (by omega)
    have nd3 := nat_no hN3
    refine ⟨_, rfl, _, rfl, _, rfl, j + 1, by omega, by omega, vw, wn, d, kvs, rfl, dp_but b4 nd3 _ _ (still_w wn) hvw3, gw, dw, N4, k4, by omega, by omega, fun v6 H5 kvs5 b5 N5 k5 l5 hv6 => ?_⟩
    refine ⟨_, rfl, _, rfl, ?_⟩
    rw [dp_isnon hv6]
    by_cases hjn2 : j + 1 = n
    · subst hjn2
      rw [hls] at hv6 ⊢
      obtain ⟨r2, gs2, hg2, hl2, rfl, hf2, h82, ht2⟩ := ls_small hls gw dw
      obtain ⟨a6, x6, rfl, hs6, hx6⟩ := dp_chain hv6
      obtain ⟨sh, rest, ec, ew⟩ := toC_head gs2 0 r2
      have e0 : (toC 0 r2 gs2)[0]? = some sh := by rw [ec]; rfl
      obtain ⟨x0, hx0, hdx0⟩ := dpc_at hx6 e0
      obtain ⟨b0, rfl, hb0⟩ := dp_step hdx0
      refine iteT ⟨_, rfl, a6, x6, 0, .ref b0, rfl, rfl, hs6, atI_nat hx0, b0, _, 0, .int (sh.1 : Nat), rfl, rfl, hb0, rfl, _, rfl, sh.1, wd, rfl, rfl, _, _, rfl, rfl, _, rfl, ?_⟩
      rw [decide_eq_true (show ((sh.1 + wd : Nat) : Int) ≤ 100 by omega)]
      refine iteT ⟨_, rfl, _, rfl, .ref a6, toC 0 r2 gs2, wd, rfl, .tup hs6 hx6, by rw [toC_len]; omega, fun v7 H6 s6 hv7 => q v7 H6 ((back (b4.trans b5)).trans s6) hv7⟩
    · rw [hnone (j + 1) (by omega) (by omega)]
      exact iteF ⟨⟨_, _, rfl⟩, by omega, kvs5, b4.trans b5, N5, k5, by show _ ≤ sumC j + calls (j + 1); omega⟩
  · obtain ⟨⟨y5, y6, rfl⟩, hjn, kvs, b4, N4, k4, l4⟩ := p
    have hs4 := sumC_le (n := gs.length) (by omega)
    have hc4 := calls_le (n := gs.length + 1) (by omega)
    have nd3 := nat_no hN3
    have hne : n = gs.length + 1 := by omega
    subst hne
    refine ⟨_, rfl, _, rfl, at_, xt, rfl, .inr (b4.tup nd3 hst), _, rfl, gs.length + 1, by omega, by omega, vw, wn, d, kvs, ?_, dp_but b4 nd3 _ _ (still_w wn) hvw3, gw, dw, N4, k4, by omega, by omega, fun v6 H5 kvs5 b5 N5 k5 l5 hv6 => ?_⟩
    · rw [hlt]
      rfl
    rw [hls] at hv6
    obtain ⟨r2, gs2, hg2, hl2, rfl, hf2, h82, ht2⟩ := ls_small hls gw dw
    refine ⟨_, rfl, v6, toC 0 r2 gs2, wd, rfl, hv6, by rw [toC_len]; omega, fun v7 H6 s6 hv7 => q v7 H6 ((back (b4.trans b5)).trans s6) hv7⟩
end
end
end K69
set_option Elab.async false
set_option linter.all false
set_option exponentiation.threshold 2000
set_option maxRecDepth 100000
set_option maxHeartbeats 8000000
namespace K69
open PySem PySem.Spec PyProof.Rows L2 SR RZ
theorem nat_pow_abs {a b : Nat} (h : a < 2 ^ b) : ((a : Int)).natAbs < 2 ^ b := by rw [Int.natAbs_natCast]; exact h
section
variable {X : Cx}
theorem op_shlB : OpR X (binaryOp .LShift) (fun x y H Q => ∃ a k : Nat, x = .int (a : Int) ∧ y = .int (k : Int) ∧ a < 2 ^ 1000 ∧ k ≤ 1000000 ∧ Q (.int ((a * 2 ^ k : Nat) : Int)) H) := by
  intro pins s σ H x y v u Q I rx ry h
  obtain ⟨a, k, rfl, rfl, ha, hk, q⟩ := h
  refine op_shlN pins s σ H _ _ v u Q I rx ry ⟨_, _, rfl, rfl, shl_ok (n := 1000) (nat_pow_abs ha) (by omega), ?_⟩
  have e : ((a : Int) * 2 ^ k) = ((a * 2 ^ k : Nat) : Int) := by push_cast; rfl
  rw [e]
  exact q
theorem op_mulB : OpR X (binaryOp .Mult) (fun x y H Q => ∃ a b : Nat, x = .int (a : Int) ∧ y = .int (b : Int) ∧ a < 2 ^ 1000 ∧ b < 2 ^ 1000 ∧ Q (.int ((a * b : Nat) : Int)) H) := by
  intro pins s σ H x y v u Q I rx ry h
  obtain ⟨a, b, rfl, rfl, ha, hb, q⟩ := h
  rw [Int.natCast_mul] at q
  exact op_mulX pins s σ H _ _ v u Q I rx ry ⟨_, _, rfl, rfl, mulx_ok (nat_pow_abs ha) (nat_pow_abs hb) (by decide), q⟩
theorem op_fdivB : OpR X (binaryOp .FloorDiv) (fun x y H Q => ∃ a b : Nat, x = .int (a : Int) ∧ y = .int (b : Int) ∧ 0 < b ∧ b < 2 ^ 1000 ∧ Q (.int ((a / b : Nat) : Int)) H) := by
  intro pins s σ H x y v u Q I rx ry h
  obtain ⟨a, b, rfl, rfl, h0, hb, q⟩ := h
  rw [Int.natCast_ediv] at q
  exact op_fdivW pins s σ H _ _ v u Q I rx ry ⟨_, _, rfl, rfl, wide_div (b := 1000) (by omega) (nat_pow_abs hb) (by decide) (by decide), q⟩
theorem call_pos (hc : X.calm = true) : CallR X (.builtin "max") (fun xs H Q => ∃ i : Int, xs = [.int i, .int 0] ∧ Q (.int ((max i 0).toNat : Nat)) H) := by
  intro pins s σ H xs us Q I r h
  obtain ⟨i, rfl, q⟩ := h
  refine call_max2 hc pins s σ H _ us Q I r ⟨i, 0, rfl, ?_⟩
  have e : (if (0 : Int) > i then 0 else i) = (((max i 0).toNat : Nat) : Int) := by split <;> omega
  rw [e]
  exact q
end
def dF (p : Nat × Nat) : PyData := .tuple [.int (p.1 : Nat), .int (p.2 : Nat)]
theorem dp_f {K : PySem.W.Frag} {H : Hp} {v : V} {p : Nat × Nat} (h : Dp K H v (dF p)) : ∃ a, v = .ref a ∧ SqT K H a [.int (p.1 : Nat), .int (p.2 : Nat)] := by
  obtain ⟨a, x, y, rfl, hs, hx, hy⟩ := Dp.pair_inv h
  cases hx
  cases hy
  exact ⟨a, rfl, hs⟩
theorem bitLen_lt {n a : Nat} (h : n < 2 ^ a) : bitLen n ≤ a := by
  unfold bitLen
  split
  · omega
  · rename_i h0
    have := (Nat.log2_lt h0).mpr h
    omega
section
variable {P : Program} {w : World} {K : PySem.W.Frag} {mg : Str → Option Value} {base : Heap}
/-! ### _law_divisor, _law_low -/
abbrev sLDiv : Stmt := topS 48
theorem scLDiv : FnScope ["_law_one", "_law_other"] ["_law_one", "_law_other"] (defScope sLDiv) := ⟨rfl, rfl, rfl, by decide +kernel, rfl, by decide +kernel, by decide +kernel⟩
theorem ok_ldiv (D : Df K mg "_law_divisor" sLDiv ["_law_one", "_law_other"]) : Fx P w K mg base 1 "_law_divisor" ["_law_one", "_law_other"] spGcd := by
  refine D.ok scLDiv (fun vs H Q E h => ?_) (fun f cdv A outer s H vs Q E hr h => ?_)
  · obtain ⟨a, b, rfl, _⟩ := h
    rfl
  obtain ⟨a, b, rfl, q⟩ := h
  refine ⟨_, pss_cons (ps_while PassesOwn.never (pt_cmpR op_gt (pv 1) pe_int (nomark _)) (pss_one (ps_par (i := 0) (j := 1) (by rfl) scLDiv.nd rfl rfl (by decide) rfl rfl (pa_cons (pv 1) (pa_cons (pe_op op_mod (pv 0) (pv 1)) pa_nil)) (by rfl)))) (pss_one (ps_ret (pv 0))), ?_⟩
  refine while_by (fun σ H' => ∃ x y : Nat, σ = [some (.int x), some (.int y)] ∧ H' = H ∧ Nat.gcd x y = Nat.gcd a b) (fun σ _ => match σ with | [_, some (.int y)] => y.toNat | _ => 0) ⟨a, b, rfl, rfl, rfl⟩ (fun σ H' h => ?_) (fun σ H Q Q' hQ h => ?_)
  · obtain ⟨x, y, rfl, rfl, e⟩ := h
    refine ⟨_, rfl, _, _, rfl, rfl, _, rfl, ?_⟩
    by_cases hy : y = 0
    · subst hy
      refine iteF ⟨_, rfl, ?_⟩
      rw [Nat.gcd_zero_right] at e
      rw [← e] at q
      exact q
    · rw [decide_eq_true (show (0 : Int) < (y : Int) by omega)]
      refine iteT ⟨_, rfl, _, rfl, _, rfl, _, _, rfl, rfl, by omega, _, _, rfl, ⟨y, x % y, rfl, rfl, ?_⟩, ?_⟩
      · rw [← e, Nat.gcd_comm x y, Nat.gcd_rec y x, Nat.gcd_comm]
      · show ((((x : Int) % (y : Int))).toNat) < ((y : Int)).toNat
        have : ((x : Int) % (y : Int)) = ((x % y : Nat) : Int) := rfl
        rw [this, Int.toNat_natCast, Int.toNat_natCast]
        exact Nat.mod_lt _ (Nat.pos_of_ne_zero hy)
  · obtain ⟨v, e, i, j, e1, e2, x, ex, q⟩ := h
    exact ⟨v, e, i, j, e1, e2, x, ex, hQ _ _ q⟩
abbrev sLLow : Stmt := topS 49
theorem scLLow : FnScope ["_law_n", "_law_d", "_law_by"] ["_law_n", "_law_d"] (defScope sLLow) := ⟨rfl, rfl, rfl, by decide +kernel, rfl, by decide +kernel, by decide +kernel⟩
def spLLow (K : PySem.W.Frag) : Sp := fun vs H Q _ => ∃ a b : Nat, vs = [.int a, .int b] ∧ 0 < b ∧ b < 2 ^ 1000 ∧ Gives K H Q (dF (red a b))
theorem ok_llow (D : Df K mg "_law_low" sLLow ["_law_n", "_law_d"]) (G : Fx P w K mg base 1 "_law_divisor" ["_law_one", "_law_other"] spGcd) : Fx P w K mg base 2 "_law_low" ["_law_n", "_law_d"] (spLLow K) := by
  refine D.ok scLLow (fun vs H Q E h => ?_) (fun f cdv A outer s H vs Q E hr h => ?_)
  · obtain ⟨a, b, rfl, _⟩ := h
    rfl
  obtain ⟨a, b, rfl, hb, hs, q⟩ := h
  refine ⟨_, pss_cons (ps_set (i := 2) scLLow.nd rfl (.inl rfl) (pe_fx G hr (pa_cons (pv 0) (pa_cons (pv 1) pa_nil))))
    (pss_one (ps_ret (pe_tup (pa_cons (pe_op op_fdivB (pv 0) (pv 2)) (pa_cons (pe_op op_fdivB (pv 1) (pv 2)) pa_nil))))), ?_⟩
  have hg : 0 < Nat.gcd a b := Nat.gcd_pos_of_pos_right a hb
  have hg2 : Nat.gcd a b < 2 ^ 1000 := Nat.lt_of_le_of_lt (Nat.le_of_dvd hb (Nat.gcd_dvd_right a b)) hs
  refine ⟨_, rfl, _, rfl, a, b, rfl, _, rfl, _, rfl, _, _, rfl, rfl, hg, hg2, _, rfl, _, rfl, _, _, rfl, rfl, hg, hg2, (by show 2 ≤ sizeLine; decide), fun p hp => q _ _ (same_new hp _) (Dp.mkPair upd_same (.int _) (.int _))⟩
/-! ### _law_cell_of -/
abbrev sCell : Stmt := topS 50
theorem scCell : FnScope ["_law_number", "_law_width", "_law_n", "_law_d", "_law_e"] ["_law_number", "_law_width"] (defScope sCell) := ⟨rfl, rfl, rfl, by decide +kernel, rfl, by decide +kernel, by decide +kernel⟩
/-- a number, a width, its exponent there -/
structure CellAt (n d p : Nat) (e : Int) : Prop where
  n0 : 0 < n
  d0 : 0 < d
  nB : n < 2 ^ 200
  dB : d < 2 ^ 200
  pB : p ≤ 200
  yes : cOk n d p e
  no : ¬ cOk n d p (e - 1)
  hi : e ≤ 100
  lo : -200 ≤ e
def cellK (n d : Nat) (e : Int) : Nat := (n * 2 ^ dn e) / (d * 2 ^ upE e)
def spCell (K : PySem.W.Frag) : Sp := fun vs H Q _ => ∃ (v : V) (n d p : Nat) (e : Int), vs = [v, .int (p : Nat)] ∧ Dp K H v (dF (n, d)) ∧ CellAt n d p e ∧ Gives K H Q (.tuple [.int (cellK n d e : Nat), .int e])
theorem CellAt.small {n d p : Nat} {e : Int} (c : CellAt n d p e) : upE e ≤ 100 ∧ dn e ≤ 200 ∧ 0 < d * 2 ^ upE e ∧ d * 2 ^ upE e < 2 ^ 300 ∧ n * 2 ^ dn e < 2 ^ 400 := by
  have h1 : upE e ≤ 100 := by have := c.hi; unfold upE; omega
  have h2 : dn e ≤ 200 := by have := c.lo; unfold dn; omega
  have p1 : 2 ^ upE e ≤ 2 ^ 100 := Nat.pow_le_pow_right (by decide) h1
  have p2 : 2 ^ dn e ≤ 2 ^ 200 := Nat.pow_le_pow_right (by decide) h2
  refine ⟨h1, h2, Nat.mul_pos c.d0 (Nat.two_pow_pos _), ?_, ?_⟩
  · calc d * 2 ^ upE e ≤ d * 2 ^ 100 := Nat.mul_le_mul_left _ p1
      _ < 2 ^ 200 * 2 ^ 100 := Nat.mul_lt_mul_of_pos_right c.dB (by decide)
      _ = 2 ^ 300 := by rw [← Nat.pow_add]
  · calc n * 2 ^ dn e ≤ n * 2 ^ 200 := Nat.mul_le_mul_left _ p2
      _ < 2 ^ 200 * 2 ^ 200 := Nat.mul_lt_mul_of_pos_right c.nB (by decide)
      _ = 2 ^ 400 := by rw [← Nat.pow_add]
theorem ok_cell (B : Blt mg) (D : Df K mg "_law_cell_of" sCell ["_law_number", "_law_width"]) : Fx P w K mg base 1 "_law_cell_of" ["_law_number", "_law_width"] (spCell K) := by
  refine D.ok scCell (fun vs H Q E h => ?_) (fun f cdv A outer s H vs Q E hr h => ?_)
  · obtain ⟨_, _, _, _, _, rfl, _⟩ := h
    rfl
  obtain ⟨v, n, d, p, e, rfl, hd, c, q⟩ := h
  obtain ⟨a, rfl, hs⟩ := dp_f hd
  refine ⟨_, pss_cons (ps_asg (pv 0) (pg_tup rfl (pgs_cons (pg_name (i := 2) scCell.nd rfl (.inl rfl)) (pgs_cons (pg_name (i := 3) scCell.nd rfl (.inl rfl)) pgs_nil))))
    (pss_cons (ps_set (i := 4) scCell.nd rfl (.inl rfl) (pe_op op_sub (pe_op op_sub (pe_bits (pv 2)) (pe_bits (pv 3))) (pv 1)))
    (pss_cons (ps_while PassesOwn.never (pt_not (pt_cmpR op_lt (pe_op op_shlB (pv 2) (pe_callB (call_pos rfl) (by rfl) B.max boot_max (pa_cons (pe_op op_sub pe_int (pv 4)) (pa_cons pe_int pa_nil)))) (pe_op op_shlB (pv 3) (pe_op op_addN (pe_callB (call_pos rfl) (by rfl) B.max boot_max (pa_cons (pv 4) (pa_cons pe_int pa_nil))) (pv 1))) (nomark _)))
      (pss_one (ps_set (i := 4) scCell.nd rfl (.inl rfl) (pe_op op_add (pv 4) pe_int))))
    (pss_one (ps_ret (pe_tup (pa_cons (pe_op op_fdivB (pe_op op_shlB (pv 2) (pe_callB (call_pos rfl) (by rfl) B.max boot_max (pa_cons (pe_op op_sub pe_int (pv 4)) (pa_cons pe_int pa_nil)))) (pe_op op_shlB (pv 3) (pe_callB (call_pos rfl) (by rfl) B.max boot_max (pa_cons (pv 4) (pa_cons pe_int pa_nil))))) (pa_cons (pv 4) pa_nil))))))), ?_⟩
  refine ⟨_, rfl, a, _, rfl, hs, rfl, _, _, rfl, _, _, rfl, rfl, ?_⟩
  refine ⟨_, rfl, _, rfl, _, rfl, _, rfl, _, _, rfl, rfl, _, rfl, _, _, rfl, rfl, ?_⟩
  rw [intBits_nat, intBits_nat]
  have hst := start_le c.n0 c.yes
  have hbn := bitLen_lt c.nB
  have hbd := bitLen_lt c.dB
  have hpB := c.pB
  have hhi := c.hi
  have big : (2 : Nat) ^ 200 < 2 ^ 1000 := Nat.pow_lt_pow_right (by decide) (by decide)
  have hn1 : n < 2 ^ 1000 := Nat.lt_trans c.nB big
  have hd1 : d < 2 ^ 1000 := Nat.lt_trans c.dB big
  have dnB : ∀ e' : Int, (bitLen n : Int) - bitLen d - p ≤ e' → (max (0 - e') 0).toNat ≤ 1000000 := fun e' h => by omega
  have upB : ∀ e' : Int, e' ≤ e → (max e' 0).toNat ≤ 1000 := fun e' h => by omega
  refine while_by (fun σ H' => ∃ e' : Int, σ = [some (.ref a), some (.int (p : Nat)), some (.int (n : Nat)), some (.int (d : Nat)), some (.int e')] ∧ H' = H ∧ (bitLen n : Int) - bitLen d - p ≤ e' ∧ e' ≤ e) (fun σ _ => match σ with | [_, _, _, _, some (.int e')] => (e - e').toNat | _ => 0) ⟨_, rfl, rfl, Int.le_refl _, hst⟩ (fun σ H' h => ?_) (fun σ H Q Q' hQ h => ?_)
  · obtain ⟨e', rfl, rfl, h1, h2⟩ := h
    refine ⟨_, rfl, _, rfl, _, _, rfl, rfl, 0 - e', rfl, n, _, rfl, rfl, hn1, dnB e' h1, _, rfl, _, rfl, e', rfl, _, rfl, _, p, rfl, rfl, d, _, rfl, rfl, hd1, ?_, _, _, rfl, rfl, _, rfl, ?_⟩
    · have := upB e' h2
      omega
    have hiff : decide (((n * 2 ^ (max (0 - e') 0).toNat : Nat) : Int) < ((d * 2 ^ ((max e' 0).toNat + p) : Nat) : Int)) = decide (cOk n d p e') := decide_eq_decide.mpr Int.ofNat_lt
    rw [hiff]
    by_cases hc : cOk n d p e'
    · rw [decide_eq_true hc]
      have he : e' = e := by
        by_cases z : e' ≤ e - 1
        · exact absurd (cOk_mono hc z) c.no
        · omega
      subst he
      obtain ⟨s1, s2, s3, s4, s5⟩ := c.small
      refine iteF ⟨_, rfl, _, rfl, _, _, rfl, rfl, 0 - e', rfl, n, _, rfl, rfl, hn1, dnB e' h1, _, rfl, _, rfl, e', rfl, d, _, rfl, rfl, hd1, Nat.le_trans (upB e' h2) (by decide), _, _, rfl, rfl, s3, Nat.lt_trans s4 (Nat.pow_lt_pow_right (by decide) (by decide)), _, rfl, (by show 2 ≤ sizeLine; decide), fun p0 hp0 => q _ _ (same_new hp0 _) (Dp.mkPair upd_same (.int _) (.int _))⟩
    · rw [decide_eq_false hc]
      have hlt : e' < e := by
        by_cases z : e' = e
        · exact absurd (z ▸ c.yes) hc
        · omega
      refine iteT ⟨_, rfl, _, _, rfl, rfl, ⟨e' + 1, rfl, rfl, by omega, by omega⟩, ?_⟩
      show (e - (e' + 1)).toNat < (e - e').toNat
      omega
  · obtain ⟨x1, e1, x2, e2, x3, x4, e3, e4, x5, e5, x6, x7, e6, e7, x8, x9, x10, e10, x11, e11, x12, e12, x13, e13, x14, x15, e14, e15, x16, x17, e16, e17, x18, x19, x20, x21, e20, e21, x22, e22, q⟩ := h
    exact ⟨x1, e1, x2, e2, x3, x4, e3, e4, x5, e5, x6, x7, e6, e7, x8, x9, x10, e10, x11, e11, x12, e12, x13, e13, x14, x15, e14, e15, x16, x17, e16, e17, x18, x19, x20, x21, e20, e21, x22, e22, hQ _ _ q⟩
end
end K69
set_option Elab.async false
set_option linter.all false
set_option exponentiation.threshold 2000
set_option maxRecDepth 100000
set_option maxHeartbeats 8000000
namespace K69
open PySem PySem.Spec PyProof.Rows L2 SR RZ
section
variable {P : Program} {w : World} {K : PySem.W.Frag} {mg : Str → Option Value} {base : Heap}
/-! ### _law_place, _law_end -/
abbrev sPlace : Stmt := topS 51
theorem scPlace : FnScope ["_law_number", "_law_width", "_law_k", "_law_e", "_law_n", "_law_d"] ["_law_number", "_law_width"] (defScope sPlace) := ⟨rfl, rfl, rfl, by decide +kernel, rfl, by decide +kernel, by decide +kernel⟩
def cellR (n d : Nat) (e : Int) : Nat := (n * 2 ^ dn e) % (d * 2 ^ upE e)
def spPlace (K : PySem.W.Frag) : Sp := fun vs H Q _ => ∃ (v : V) (n d p : Nat) (e : Int), vs = [v, .int (p : Nat)] ∧ Dp K H v (dF (n, d)) ∧ CellAt n d p e ∧ Gives K H Q (dF (red (cellR n d e) (d * 2 ^ upE e)))
theorem ok_place (B : Blt mg) (D : Df K mg "_law_place" sPlace ["_law_number", "_law_width"]) (G1 : Fx P w K mg base 1 "_law_cell_of" ["_law_number", "_law_width"] (spCell K)) (G2 : Fx P w K mg base 2 "_law_low" ["_law_n", "_law_d"] (spLLow K)) : Fx P w K mg base 3 "_law_place" ["_law_number", "_law_width"] (spPlace K) := by
  refine D.ok scPlace (fun vs H Q E h => ?_) (fun f cdv A outer s H vs Q E hr h => ?_)
  · obtain ⟨_, _, _, _, _, rfl, _⟩ := h
    rfl
  obtain ⟨v, n, d, p, e, rfl, hd, c, q⟩ := h
  refine ⟨_, pss_cons (ps_asg (pe_fx G1 (hr.mono (by decide)) (pa_cons (pv 0) (pa_cons (pv 1) pa_nil))) (pg_tup rfl (pgs_cons (pg_name (i := 2) scPlace.nd rfl (.inl rfl)) (pgs_cons (pg_name (i := 3) scPlace.nd rfl (.inl rfl)) pgs_nil))))
    (pss_cons (ps_par (i := 4) (j := 5) (by rfl) scPlace.nd rfl rfl (by decide) rfl rfl (pa_cons (pe_op op_shlB (pe_ix (r := rIxT K) ix_tup (pv 0) pe_int (fun _ _ => rfl)) (pe_callB (call_pos rfl) (by rfl) B.max boot_max (pa_cons (pe_op op_sub pe_int (pv 3)) (pa_cons pe_int pa_nil))))
        (pa_cons (pe_op op_shlB (pe_ix (r := rIxT K) ix_tup (pv 0) pe_int (fun _ _ => rfl)) (pe_callB (call_pos rfl) (by rfl) B.max boot_max (pa_cons (pv 3) (pa_cons pe_int pa_nil)))) pa_nil)) (by rfl))
    (pss_one (ps_ret (pe_fx G2 hr (pa_cons (pe_op op_subN (pv 4) (pe_op op_mulB (pv 2) (pv 5))) (pa_cons (pv 5) pa_nil)))))), ?_⟩
  obtain ⟨s1, s2, s3, s4, s5⟩ := c.small
  have big : (2 : Nat) ^ 200 < 2 ^ 1000 := Nat.pow_lt_pow_right (by decide) (by decide)
  have big3 : (2 : Nat) ^ 300 < 2 ^ 1000 := Nat.pow_lt_pow_right (by decide) (by decide)
  have big4 : (2 : Nat) ^ 400 < 2 ^ 1000 := Nat.pow_lt_pow_right (by decide) (by decide)
  refine ⟨_, rfl, _, rfl, v, n, d, p, e, rfl, hd, c, fun v1 H1 sm1 hv1 => ?_⟩
  obtain ⟨a1, x, y, rfl, hs1, hx, hy⟩ := Dp.pair_inv hv1
  cases hx
  cases hy
  obtain ⟨a, rfl, hs⟩ := dp_f (Dp.same sm1 _ _ hd)
  have hk : cellK n d e ≤ n * 2 ^ dn e := Nat.div_le_self _ _
  refine ⟨a1, _, rfl, hs1, rfl, _, _, rfl, _, _, rfl, rfl, ?_⟩
  refine ⟨_, rfl, a, _, 0, .int (n : Nat), rfl, rfl, hs, rfl, _, rfl, _, _, rfl, rfl, 0 - e, rfl, n, dn e, rfl, rfl, Nat.lt_trans c.nB big, Nat.le_trans s2 (by decide), _, rfl, a, _, 1, .int (d : Nat), rfl, rfl, hs, rfl, _, rfl, e, rfl, d, upE e, rfl, rfl, Nat.lt_trans c.dB big, Nat.le_trans s1 (by decide), _, _, rfl, ?_⟩
  refine ⟨_, rfl, _, rfl, _, rfl, cellK n d e, d * 2 ^ upE e, rfl, rfl, Nat.lt_of_le_of_lt hk (Nat.lt_trans s5 big4), Nat.lt_trans s4 big3, n * 2 ^ dn e, _, rfl, rfl, Nat.div_mul_le_self _ _, _, rfl, n * 2 ^ dn e - cellK n d e * (d * 2 ^ upE e), d * 2 ^ upE e, rfl, s3, Nat.lt_trans s4 big3, ?_⟩
  have em : n * 2 ^ dn e - cellK n d e * (d * 2 ^ upE e) = cellR n d e := by
    unfold cellK cellR
    have := Nat.div_add_mod (n * 2 ^ dn e) (d * 2 ^ upE e)
    rw [Nat.mul_comm] at this
    omega
  rw [em]
  exact fun v' H' sm hv => q v' H' (sm1.trans sm) hv
abbrev sEnd : Stmt := topS 52
theorem scEnd : FnScope ["_law_k", "_law_e"] ["_law_k", "_law_e"] (defScope sEnd) := ⟨rfl, rfl, rfl, by decide +kernel, rfl, by decide +kernel, by decide +kernel⟩
def spEnd (K : PySem.W.Frag) : Sp := fun vs H Q _ => ∃ (k : Nat) (e : Int), vs = [.int (k : Nat), .int e] ∧ k < 2 ^ 500 ∧ -200 ≤ e ∧ e ≤ 100 ∧ Gives K H Q (dF (red (k * 2 ^ upE e) (2 ^ dn e)))
theorem ok_end (B : Blt mg) (D : Df K mg "_law_end" sEnd ["_law_k", "_law_e"]) (G2 : Fx P w K mg base 2 "_law_low" ["_law_n", "_law_d"] (spLLow K)) : Fx P w K mg base 3 "_law_end" ["_law_k", "_law_e"] (spEnd K) := by
  refine D.ok scEnd (fun vs H Q E h => ?_) (fun f cdv A outer s H vs Q E hr h => ?_)
  · obtain ⟨_, _, rfl, _⟩ := h
    rfl
  obtain ⟨k, e, rfl, hk, h1, h2, q⟩ := h
  refine ⟨_, pss_one (ps_ret (pe_fx G2 hr (pa_cons (pe_op op_shlB (pv 0) (pe_callB (call_pos rfl) (by rfl) B.max boot_max (pa_cons (pv 1) (pa_cons pe_int pa_nil)))) (pa_cons (pe_op op_shlB pe_int (pe_callB (call_pos rfl) (by rfl) B.max boot_max (pa_cons (pe_op op_sub pe_int (pv 1)) (pa_cons pe_int pa_nil)))) pa_nil)))), ?_⟩
  have s1 : upE e ≤ 100 := by unfold upE; omega
  have s2 : dn e ≤ 200 := by unfold dn; omega
  refine ⟨_, rfl, _, rfl, e, rfl, k, upE e, rfl, rfl, Nat.lt_trans hk (Nat.pow_lt_pow_right (by decide) (by decide)), Nat.le_trans s1 (by decide), _, rfl, _, _, rfl, rfl, 0 - e, rfl, 1, dn e, rfl, rfl, Nat.one_lt_two_pow (by decide), Nat.le_trans s2 (by decide), k * 2 ^ upE e, 1 * 2 ^ dn e, rfl, by rw [Nat.one_mul]; exact Nat.two_pow_pos _, by rw [Nat.one_mul]; exact Nat.pow_lt_pow_right (by decide) (by omega), ?_⟩
  rw [Nat.one_mul]
  exact q
/-! ### _law_goes_up -/
abbrev sGoes : Stmt := topS 53
theorem scGoes : FnScope ["_law_k", "_law_place_here", "_law_rule_here", "_law_n", "_law_d"] ["_law_k", "_law_place_here", "_law_rule_here"] (defScope sGoes) := ⟨rfl, rfl, rfl, by decide +kernel, rfl, by decide +kernel, by decide +kernel⟩
def spGoes (K : PySem.W.Frag) : Sp := fun vs H Q _ => ∃ (v : V) (k n d : Nat) (r : Rule), vs = [.int (k : Nat), v, .str r.str] ∧ Dp K H v (dF (n, d)) ∧ Gives K H Q (.bool (goesUp r k n d))
theorem ok_goes (D : Df K mg "_law_goes_up" sGoes ["_law_k", "_law_place_here", "_law_rule_here"]) : Fx P w K mg base 1 "_law_goes_up" ["_law_k", "_law_place_here", "_law_rule_here"] (spGoes K) := by
  refine D.ok scGoes (fun vs H Q E h => ?_) (fun f cdv A outer s H vs Q E hr h => ?_)
  · obtain ⟨_, _, _, _, _, rfl, _⟩ := h
    rfl
  obtain ⟨v, k, n, d, r, rfl, hd, q⟩ := h
  obtain ⟨a, rfl, hs⟩ := dp_f hd
  refine ⟨_, pss_cons (ps_if (pt_cmpR op_in_seq (pv 2) (pe_tup (pa_cons pe_str (pa_cons pe_str pa_nil))) (by rfl)) (pss_one (ps_ret (pe_cmpR op_eq (pv 2) pe_str (nomark _)))) pss_nil)
    (pss_cons (ps_if (pt_cmpR op_eq (pv 2) pe_str (nomark _)) (pss_one (ps_ret (pe_cmpR op_eq (pe_op op_modNat (pv 0) pe_int) pe_int (nomark _)))) pss_nil)
    (pss_cons (ps_asg (pv 1) (pg_tup rfl (pgs_cons (pg_name (i := 3) scGoes.nd rfl (.inl rfl)) (pgs_cons (pg_name (i := 4) scGoes.nd rfl (.inl rfl)) pgs_nil))))
    (pss_cons (ps_if (pt_cmpR op_ne (pe_op op_mulN pe_int (pv 3)) (pv 4) (nomark _)) (pss_one (ps_ret (pe_cmpR op_gt (pe_op op_mulN pe_int (pv 3)) (pv 4) (nomark _)))) pss_nil)
    (pss_one (ps_ret (pe_or (pe_cmpR op_eq (pv 2) pe_str (nomark _)) (pe_one (pe_and (pe_cmpR op_eq (pv 2) pe_str (nomark _)) (pe_one (pe_cmpR op_eq (pe_op op_modNat (pv 0) pe_int) pe_int (nomark _))))))))))), ?_⟩
  refine ⟨_, rfl, (by show 2 ≤ sizeLine; decide), fun p hp => ?_⟩
  have s0 := same_new hp (.tup [.str "down", .str "up"])
  have hs0 := s0.tup hs
  refine ⟨p, _, rfl, .inr (SqT.of upd_same), rfl, rfl, ?_⟩
  have hq : ∀ b, b = goesUp r k n d → Q (.bl b) (upd H p (.tup [.str "down", .str "up"])) := fun b hb => by
    rw [hb]
    exact q _ _ s0 (.bl _)
  refine ⟨_, rfl, ?_⟩
  have hdu : inV (.str r.str) [.str "down", .str "up"] = (decide (r = .down) || decide (r = .up)) := by cases r <;> decide +kernel
  rw [if_neg (by decide), hdu]
  by_cases h1 : r = .down ∨ r = .up
  · rcases h1 with rfl | rfl
    · exact iteT ⟨_, rfl, rfl, hq _ (show decide (V.str Rule.down.str = V.str "up") = false by decide +kernel)⟩
    · exact iteT ⟨_, rfl, rfl, hq _ (show decide (V.str Rule.up.str = V.str "up") = true by decide +kernel)⟩
  rw [not_or] at h1
  rw [decide_eq_false h1.1, decide_eq_false h1.2]
  refine iteF ⟨_, rfl, rfl, _, rfl, ?_⟩
  by_cases h2 : r = .odd
  · subst h2
    rw [show decide (V.str Rule.odd.str = V.str "odd") = true by decide +kernel]
    refine iteT ⟨_, rfl, k, 2, rfl, rfl, by decide, rfl, hq _ ?_⟩
    exact decide_eq_decide.mpr ⟨fun z => by have := V.int.inj z; show k % 2 = 0; omega, fun z => by rw [show k % 2 = 0 from z]; rfl⟩
  have hodd : decide (V.str r.str = V.str "odd") = false := by revert h1 h2; cases r <;> decide +kernel
  rw [hodd]
  refine iteF ⟨_, rfl, a, _, rfl, hs0, rfl, _, _, rfl, _, _, rfl, rfl, ?_⟩
  refine ⟨_, rfl, 2, n, rfl, rfl, by decide, _, rfl, rfl, _, rfl, ?_⟩
  by_cases h3 : 2 * n = d
  · rw [show (!decide (V.int ((2 * n : Nat) : Int) = V.int (d : Nat))) = false by rw [decide_eq_true (by rw [h3])]; rfl]
    refine iteF ⟨_, rfl, rfl, _, rfl, ?_⟩
    by_cases h4 : r = .hup
    · subst h4
      rw [show decide (V.str Rule.hup.str = V.str "half_up") = true by decide +kernel]
      exact iteT (hq _ (by unfold goesUp; simp only [h3, if_true]))
    · have hnu : decide (V.str r.str = V.str "half_up") = false := by revert h4; cases r <;> decide +kernel
      rw [hnu]
      refine iteF ⟨_, rfl, rfl, _, rfl, ?_⟩
      by_cases h5 : r = .heven
      · subst h5
        rw [show decide (V.str Rule.heven.str = V.str "half_even") = true by decide +kernel]
        refine iteT ⟨_, rfl, k, 2, rfl, rfl, by decide, rfl, hq _ ?_⟩
        unfold goesUp
        simp only [h3, if_true]
        exact decide_eq_decide.mpr ⟨fun z => by have := V.int.inj z; omega, fun z => by rw [z]; rfl⟩
      · have hne : decide (V.str r.str = V.str "half_even") = false := by revert h5; cases r <;> decide +kernel
        rw [hne]
        refine iteF (hq _ ?_)
        cases r with
        | down => exact absurd rfl h1.1
        | up => exact absurd rfl h1.2
        | odd => exact absurd rfl h2
        | hup => exact absurd rfl h4
        | heven => exact absurd rfl h5
        | hdown => unfold goesUp; simp only [h3, if_true]
  · rw [show (!decide (V.int ((2 * n : Nat) : Int) = V.int (d : Nat))) = true by rw [decide_eq_false (fun z => h3 (by have := V.int.inj z; omega))]; rfl]
    refine iteT ⟨_, rfl, 2, n, rfl, rfl, by decide, _, rfl, _, _, rfl, rfl, hq _ ?_⟩
    have e : decide ((d : Int) < ((2 * n : Nat) : Int)) = decide (d < 2 * n) := decide_eq_decide.mpr Int.ofNat_lt
    cases r with
    | down => exact absurd rfl h1.1
    | up => exact absurd rfl h1.2
    | odd => exact absurd rfl h2
    | hup => unfold goesUp; simp only [h3, if_false]; exact e
    | heven => unfold goesUp; simp only [h3, if_false]; exact e
    | hdown => unfold goesUp; simp only [h3, if_false]; exact e
end
end K69
set_option Elab.async false
set_option linter.all false
set_option exponentiation.threshold 2000
set_option maxRecDepth 100000
set_option maxHeartbeats 8000000
namespace K69
open PySem PySem.Spec PyProof.Rows L2 SR RZ
section
variable {P : Program} {w : World} {K : PySem.W.Frag} {mg : Str → Option Value} {base : Heap}
theorem shaped_f (p : Nat × Nat) : SeqAt.shaped (dF p) = true := by
  show ((dF p).canLay0 && decide ((dF p).depth ≤ 64)) = true
  simp [dF, PyData.canLay0, PyData.canLayAll0, PyData.depth, PyData.depthAll]
theorem eqv_f (p q : Nat × Nat) : PyData.eqv (dF p) (dF q) = decide (p = q) := by
  obtain ⟨a, b⟩ := p
  obtain ⟨c, d⟩ := q
  have e : PyData.eqv (dF (a, b)) (dF (c, d)) = (((a : Int) == (c : Int)) && (((b : Int) == (d : Int)) && true)) := by simp only [dF, PyData.eqv, PyData.eqvAll]
  rw [e, Bool.and_true]
  by_cases h1 : a = c
  · by_cases h2 : b = d
    · subst h1 h2; simp
    · have : ((b : Int) == (d : Int)) = false := beq_eq_false_iff_ne.mpr (by omega)
      simp [h2, this]
  · have : ((a : Int) == (c : Int)) = false := beq_eq_false_iff_ne.mpr (by omega)
    simp [h1, this]
theorem int_up (k : Nat) (b : Bool) : V.int ((k : Int) + (if b = true then 1 else 0)) = V.int ((k + (if b = true then 1 else 0) : Nat) : Int) := by cases b <;> rfl
theorem red_zero {R D : Nat} (hD : 0 < D) : red R D = (0, 1) ↔ R = 0 := by
  rw [red_eq hD (by decide) (by decide)]
  omega
/-! ### _law_rounded -/
abbrev sRound : Stmt := topS 54
theorem scRound : FnScope ["_law_number", "_law_width", "_law_rule_here", "_law_k", "_law_e", "_law_place_here"] ["_law_number", "_law_width", "_law_rule_here"] (defScope sRound) := ⟨rfl, rfl, rfl, by decide +kernel, rfl, by decide +kernel, by decide +kernel⟩
def spRound (K : PySem.W.Frag) : Sp := fun vs H Q _ => ∃ (v : V) (n d p : Nat) (e : Int) (r : Rule), vs = [v, .int (p : Nat), .str r.str] ∧ Dp K H v (dF (n, d)) ∧ CellAt n d p e ∧ Gives K H Q (dF (rndF n d e r))
theorem ok_round (B : Blt mg) (D : Df K mg "_law_rounded" sRound ["_law_number", "_law_width", "_law_rule_here"]) (G1 : Fx P w K mg base 1 "_law_cell_of" ["_law_number", "_law_width"] (spCell K)) (G2 : Fx P w K mg base 3 "_law_place" ["_law_number", "_law_width"] (spPlace K))
    (G3 : Fx P w K mg base 3 "_law_end" ["_law_k", "_law_e"] (spEnd K)) (G4 : Fx P w K mg base 1 "_law_goes_up" ["_law_k", "_law_place_here", "_law_rule_here"] (spGoes K)) : Fx P w K mg base 4 "_law_rounded" ["_law_number", "_law_width", "_law_rule_here"] (spRound K) := by
  refine D.ok scRound (fun vs H Q E h => ?_) (fun f cdv A outer s H vs Q E hr h => ?_)
  · obtain ⟨_, _, _, _, _, _, rfl, _⟩ := h
    rfl
  obtain ⟨v, n, d, p, e, r, rfl, hd, c, q⟩ := h
  refine ⟨_, pss_cons (ps_asg (pe_fx G1 (hr.mono (by decide)) (pa_cons (pv 0) (pa_cons (pv 1) pa_nil))) (pg_tup rfl (pgs_cons (pg_name (i := 3) scRound.nd rfl (.inl rfl)) (pgs_cons (pg_name (i := 4) scRound.nd rfl (.inl rfl)) pgs_nil))))
    (pss_cons (ps_set (i := 5) scRound.nd rfl (.inl rfl) (pe_fx G2 hr (pa_cons (pv 0) (pa_cons (pv 1) pa_nil))))
    (pss_cons (ps_if (pt_cmpR (r := rEqD K) (op_eqD hr.units) (pv 5) (pe_tup (pa_cons pe_int (pa_cons pe_int pa_nil))) (nomark _)) (pss_one (ps_ret (pv 0))) pss_nil)
    (pss_one (ps_ret (pe_fx G3 hr (pa_cons (pe_op op_add (pv 3) (pe_callTy call_int1 (by rfl) B.int PyProof.Rows.boot_int (pa_cons (pe_fx G4 (hr.mono (by decide)) (pa_cons (pv 3) (pa_cons (pv 5) (pa_cons (pv 2) pa_nil)))) pa_nil))) (pa_cons (pv 4) pa_nil))))))), ?_⟩
  obtain ⟨s1, s2, s3, s4, s5⟩ := c.small
  refine ⟨_, rfl, _, rfl, v, n, d, p, e, rfl, hd, c, fun v1 H1 sm1 hv1 => ?_⟩
  obtain ⟨a1, x, y, rfl, hs1, hx, hy⟩ := Dp.pair_inv hv1
  cases hx
  cases hy
  refine ⟨a1, _, rfl, hs1, rfl, _, _, rfl, _, _, rfl, rfl, ?_⟩
  refine ⟨_, rfl, _, rfl, v, n, d, p, e, rfl, Dp.same sm1 _ _ hd, c, fun v2 H2 sm2 hv2 => ?_⟩
  refine ⟨_, rfl, (by show 2 ≤ sizeLine; decide), fun p0 hp0 => ?_⟩
  have s0 := same_new hp0 (.tup [.int 0, .int 1])
  have sA := (sm1.trans sm2).trans s0
  refine ⟨dF (red (cellR n d e) (d * 2 ^ upE e)), dF (0, 1), Dp.same s0 _ _ hv2, Dp.mkPair upd_same (.int _) (.int _), shaped_f _, shaped_f _, _, rfl, ?_⟩
  rw [eqv_f, decide_eq_decide.mpr (red_zero s3)]
  by_cases h0 : cellR n d e = 0
  · rw [decide_eq_true h0]
    have hr1 : rndF n d e r = (n, d) := if_pos h0
    rw [hr1] at q
    exact iteT ⟨_, rfl, q _ _ sA (Dp.same sA _ _ hd)⟩
  · rw [decide_eq_false h0]
    have hr2 : rndF n d e r = red ((cellK n d e + (if goesUp r (cellK n d e) (red (cellR n d e) (d * 2 ^ upE e)).1 (red (cellR n d e) (d * 2 ^ upE e)).2 = true then 1 else 0)) * 2 ^ upE e) (2 ^ dn e) := if_neg h0
    rw [hr2] at q
    refine iteF ⟨_, rfl, _, rfl, _, rfl, _, rfl, v2, cellK n d e, _, _, r, rfl, Dp.same s0 _ _ hv2, fun v3 H3 sm3 hv3 => ?_⟩
    cases hv3
    refine .inr ⟨_, rfl, _, _, rfl, rfl, _, rfl, cellK n d e + (if goesUp r (cellK n d e) (red (cellR n d e) (d * 2 ^ upE e)).1 (red (cellR n d e) (d * 2 ^ upE e)).2 = true then 1 else 0), e, ?_, ?_, c.lo, c.hi, fun v4 H4 sm4 hv4 => q _ _ ((sA.trans sm3).trans sm4) hv4⟩
    · exact congrArg (fun z => [z, V.int e]) (int_up _ _)
    · have hk : cellK n d e ≤ n * 2 ^ dn e := Nat.div_le_self _ _
      have : (2 : Nat) ^ 400 + 1 < 2 ^ 500 := by
        have h1 : (2 : Nat) ^ 500 = 2 ^ 400 * 2 ^ 100 := by rw [← Nat.pow_add]
        have h2 : 0 < (2 : Nat) ^ 400 := Nat.two_pow_pos _
        have h3 : 4 ≤ (2 : Nat) ^ 100 := by decide
        have h4 : 2 ^ 400 * 4 ≤ (2 : Nat) ^ 400 * 2 ^ 100 := Nat.mul_le_mul_left _ h3
        omega
      split <;> omega
/-! ### _law_point -/
abbrev sPoint : Stmt := topS 61
theorem scPoint : FnScope ["_law_k", "_law_index", "_law_parts"] ["_law_k", "_law_index", "_law_parts"] (defScope sPoint) := ⟨rfl, rfl, rfl, by decide +kernel, rfl, by decide +kernel, by decide +kernel⟩
def spPoint (K : PySem.W.Frag) : Sp := fun vs H Q _ => ∃ k i u : Nat, vs = [.int (k : Nat), .int (i : Nat), .int (u : Nat)] ∧ k ≤ 4294967296 ∧ 0 < u ∧ u < 2 ^ 1000 ∧ Gives K H Q (dF (red (k * u + i) u))
theorem ok_point (D : Df K mg "_law_point" sPoint ["_law_k", "_law_index", "_law_parts"]) (G2 : Fx P w K mg base 2 "_law_low" ["_law_n", "_law_d"] (spLLow K)) : Fx P w K mg base 3 "_law_point" ["_law_k", "_law_index", "_law_parts"] (spPoint K) := by
  refine D.ok scPoint (fun vs H Q E h => ?_) (fun f cdv A outer s H vs Q E hr h => ?_)
  · obtain ⟨_, _, _, rfl, _⟩ := h
    rfl
  obtain ⟨k, i, u, rfl, hk, hu, hu2, q⟩ := h
  refine ⟨_, pss_one (ps_ret (pe_fx G2 hr (pa_cons (pe_op op_addN (pe_op op_mulN (pv 0) (pv 2)) (pv 1)) (pa_cons (pv 2) pa_nil)))), ?_⟩
  exact ⟨_, rfl, _, rfl, k, u, rfl, rfl, hk, _, rfl, k * u, i, rfl, rfl, _, rfl, _, _, rfl, hu, hu2, q⟩
/-! ### _law_applied -/
theorem rndB_le {b k m : Nat} {r : Rule} {N : Nat} (hb : b ≤ N) (h1 : k * 2 ^ N ≤ m) (h2 : m ≤ (k + 1) * 2 ^ N) : k * 2 ^ N ≤ rndB b r m ∧ rndB b r m ≤ (k + 1) * 2 ^ N := by
  obtain ⟨x, rfl⟩ := Nat.le.dest hb
  have hp : 0 < 2 ^ b := Nat.two_pow_pos b
  rw [Nat.pow_add, Nat.mul_comm (2 ^ b), ← Nat.mul_assoc, ← Nat.mul_assoc] at *
  rw [rndB_above]
  have e := Nat.div_add_mod m (2 ^ b)
  have hl := Nat.mod_lt m hp
  by_cases hz : m % 2 ^ b = 0
  · rw [hz, above_zero (good_byRule r _) hp]
    simp only [Bool.false_eq_true, if_false, Nat.add_zero]
    have e2 : m / 2 ^ b * 2 ^ b = m := by
      rw [Nat.mul_comm]
      omega
    rw [e2]
    exact ⟨h1, h2⟩
  · have hk : k * 2 ^ x ≤ m / 2 ^ b := (Nat.le_div_iff_mul_le hp).mpr h1
    have hk2 : m / 2 ^ b < (k + 1) * 2 ^ x := by
      rw [Nat.div_lt_iff_lt_mul hp]
      rcases Nat.lt_or_ge m ((k + 1) * 2 ^ x * 2 ^ b) with h | h
      · exact h
      · exfalso
        have : m = (k + 1) * 2 ^ x * 2 ^ b := by omega
        rw [this, Nat.mul_mod_left] at hz
        exact hz rfl
    constructor
    · exact Nat.mul_le_mul_right _ (by omega)
    · exact Nat.mul_le_mul_right _ (by split <;> omega)
theorem app_cons (M : Nat) (s : SR.Step) (c : Chain) (m : Nat) : app M (s :: c) m = app M c (rndB (M - s.1) s.2 m) := rfl
theorem app_le {N w0 k : Nat} : ∀ (c : Chain) (m : Nat), (∀ s ∈ c, w0 ≤ s.1) → k * 2 ^ N ≤ m → m ≤ (k + 1) * 2 ^ N → k * 2 ^ N ≤ app (N + w0) c m ∧ app (N + w0) c m ≤ (k + 1) * 2 ^ N
  | [], m, _, h1, h2 => ⟨h1, h2⟩
  | s :: c, m, hc, h1, h2 => by
    rw [app_cons]
    have hs := hc s List.mem_cons_self
    obtain ⟨a, b⟩ := rndB_le (b := N + w0 - s.1) (r := s.2) (by omega) h1 h2
    exact app_le c _ (fun t ht => hc t (List.mem_cons_of_mem _ ht)) a b
abbrev sApplied : Stmt := topS 55
theorem scApplied : FnScope ["_law_number", "_law_chain_here", "_law_width", "_law_rule_here"] ["_law_number", "_law_chain_here"] (defScope sApplied) := ⟨rfl, rfl, rfl, by decide +kernel, rfl, by decide +kernel, by decide +kernel⟩
structure AppOk (c : Chain) (w0 N k m : Nat) : Prop where
  w1 : 1 ≤ w0
  ws : ∀ s ∈ c, w0 ≤ s.1 ∧ s.1 ≤ N + w0
  k1 : 2 ^ (w0 - 1) ≤ k
  k2 : k + 1 ≤ 2 ^ w0
  m1 : k * 2 ^ N ≤ m
  m2 : m ≤ (k + 1) * 2 ^ N
  sz : w0 + N ≤ 190
def spApplied (K : PySem.W.Frag) : Sp := fun vs H Q _ => ∃ (v vc : V) (c : Chain) (w0 N k m : Nat), vs = [v, vc] ∧ Dp K H v (dF (red m (2 ^ N))) ∧ Dp K H vc (dChain c) ∧ AppOk c w0 N k m ∧ Gives K H Q (dF (red (app (N + w0) c m) (2 ^ N)))
theorem ok_applied (D : Df K mg "_law_applied" sApplied ["_law_number", "_law_chain_here"]) (G : Fx P w K mg base 4 "_law_rounded" ["_law_number", "_law_width", "_law_rule_here"] (spRound K)) : Fx P w K mg base 5 "_law_applied" ["_law_number", "_law_chain_here"] (spApplied K) := by
  refine D.ok scApplied (fun vs H Q E h => ?_) (fun f cdv A outer s H vs Q E hr h => ?_)
  · obtain ⟨_, _, _, _, _, _, _, rfl, _⟩ := h
    rfl
  obtain ⟨v, vc, c, w0, N, k, m, rfl, hd, hc, ok, q⟩ := h
  obtain ⟨a, xs, rfl, hs, hx⟩ := dp_chain hc
  have hl : xs.length = c.length := by rw [hx.len, List.length_map]
  refine ⟨_, pss_cons (ps_for PassesOwn.never rfl (pi_tup (pv 1)) (pg_tup rfl (pgs_cons (pg_name (i := 2) scApplied.nd rfl (.inl rfl)) (pgs_cons (pg_name (i := 3) scApplied.nd rfl (.inl rfl)) pgs_nil)))
      (pss_one (ps_set (i := 0) scApplied.nd rfl (.inl rfl) (pe_fx G hr (pa_cons (pv 0) (pa_cons (pv 2) (pa_cons (pv 3) pa_nil)))))))
    (pss_one (ps_ret (pv 0))), ?_⟩
  refine ⟨_, rfl, a, rfl, ⟨_, hs⟩, for_tup (K := K) (a := a) (xs := xs) (fun i σ H1 => ∃ v1 y2 y3, σ = [some v1, some (.ref a), y2, y3] ∧ Same H H1 ∧ Dp K H1 v1 (dF (red (app (N + w0) (c.take i) m) (2 ^ N))))
    ⟨_, _, _, rfl, Same.refl _, hd⟩ (fun i σ H1 _ p => ?_) (fun i x σ H1 hi p => ?_) (fun σ H1 p => ?_)⟩
  · obtain ⟨_, _, _, _, sm, _⟩ := p
    exact sm.tup hs
  · obtain ⟨v1, y2, y3, rfl, sm, hv1⟩ := p
    obtain ⟨st, e1, e2⟩ := dpc_get hx hi
    obtain ⟨b, rfl, hb⟩ := dp_step (Dp.same sm _ _ e2)
    have hst := ok.ws st (List.mem_of_getElem? e1)
    obtain ⟨a1, a2⟩ := app_le (N := N) (w0 := w0) (c.take i) m (fun s hs => (ok.ws s (List.mem_of_mem_take hs)).1) ok.m1 ok.m2
    have et : app (N + w0) (c.take (i + 1)) m = rndB (N + w0 - st.1) st.2 (app (N + w0) (c.take i) m) := by
      rw [List.take_add_one, e1]
      exact app_snoc _ _ _ _
    rw [et]
    generalize app (N + w0) (c.take i) m = mi at hv1 a1 a2
    have b1 : 2 ^ (w0 - 1) * 2 ^ N ≤ mi := Nat.le_trans (Nat.mul_le_mul_right _ ok.k1) a1
    have b2 : mi ≤ 2 ^ w0 * 2 ^ N := Nat.le_trans a2 (Nat.mul_le_mul_right _ ok.k2)
    obtain ⟨e, c1, c2, c3, c4, c5⟩ := rnd_eq (m := mi) (N := N) (p := st.1) st.2 ok.w1 hst.1 (by omega) b1 b2
    rw [← c5]
    have hN : 0 < 2 ^ N := Nat.two_pow_pos N
    have hsz := ok.sz
    have hm0 : 0 < mi := Nat.lt_of_lt_of_le (Nat.mul_pos (Nat.two_pow_pos _) hN) b1
    have q1 := red_cross (a := mi) (b := 2 ^ N)
    have q2 := red_pos (a := mi) hN
    have q3 : (red mi (2 ^ N)).1 ≤ mi := by unfold red; exact Nat.div_le_self _ _
    have q4 : (red mi (2 ^ N)).2 ≤ 2 ^ N := by unfold red; exact Nat.div_le_self _ _
    have big : 2 ^ w0 * 2 ^ N < 2 ^ 200 := by rw [← Nat.pow_add]; exact Nat.pow_lt_pow_right (by decide) (by omega)
    have big2 : 2 ^ N < 2 ^ 200 := Nat.pow_lt_pow_right (by decide) (by omega)
    have q5 : 0 < (red mi (2 ^ N)).1 := by
      rcases Nat.eq_zero_or_pos (red mi (2 ^ N)).1 with z | z
      · rw [z, Nat.zero_mul] at q1
        have := Nat.mul_pos hm0 q2
        omega
      · exact z
    have hw1 := ok.w1
    have hcell : CellAt (red mi (2 ^ N)).1 (red mi (2 ^ N)).2 st.1 e := ⟨q5, q2, by omega, by omega, by omega, c1, c2, by omega, by omega⟩
    exact ⟨b, _, rfl, hb, rfl, _, _, rfl, _, _, rfl, rfl, _, rfl, _, rfl, _, rfl, v1, _, _, st.1, e, st.2, rfl, hv1, hcell, fun v2 H2 sm2 hv2 => ⟨v2, _, _, rfl, sm.trans sm2, hv2⟩⟩
  · obtain ⟨v1, y2, y3, rfl, sm, hv1⟩ := p
    rw [hl, List.take_length] at hv1
    exact ⟨_, rfl, q _ _ sm hv1⟩
end
end K69
set_option Elab.async false
set_option linter.all false
set_option exponentiation.threshold 2000
set_option maxRecDepth 100000
set_option maxHeartbeats 8000000
namespace K69
open PySem PySem.Spec PyProof.Rows L2 SR RZ
/-! ### a chain and its falling part round alike -/
def AppTr (M m : Nat) (c : Chain) : Prop := ∃ l, (trimS c).2 = some l ∧ app M c m = app M (trimS c).1 m ∧ 2 ^ (M - l) ∣ app M c m
theorem AppTr.snoc {M m : Nat} {c : Chain} (h : AppTr M m c) (s : SR.Step) : AppTr M m (c ++ [s]) := by
  obtain ⟨l, e1, e2, e3⟩ := h
  unfold AppTr
  rw [trimS_snoc, app_snoc]
  generalize trimS c = a at e1 e2
  obtain ⟨x, o⟩ := a
  simp only at e1 e2
  subst e1
  by_cases hl : s.1 < l
  · refine ⟨s.1, ?_, ?_, rndB_dvd _ _ _⟩
    · unfold tstep; simp only [hl, decide_true, if_true]
    · unfold tstep
      simp only [hl, decide_true, if_true]
      rw [app_snoc, e2]
  · have hd : 2 ^ (M - s.1) ∣ app M c m := Nat.dvd_trans (Nat.pow_dvd_pow 2 (by omega)) e3
    rw [rndB_same hd]
    refine ⟨l, ?_, ?_, e3⟩
    · unfold tstep; simp only [hl, decide_false, Bool.false_eq_true, if_false]
    · unfold tstep
      simp only [hl, decide_false, Bool.false_eq_true, if_false]
      exact e2
theorem appTr_of {M m : Nat} : ∀ (t c : Chain), AppTr M m c → AppTr M m (c ++ t)
  | [], c, h => by rw [List.append_nil]; exact h
  | x :: t, c, h => by
    have := appTr_of t (c ++ [x]) (h.snoc x)
    rw [List.append_assoc] at this
    exact this
theorem app_trim {M m wd : Nat} {c : Chain} {r : Rule} {gs : List (Nat × Rule)} (hc : 1 ≤ c.length) (t : Tr c wd r gs) : app M c m = app M (toC wd r gs) m := by
  have h : AppTr M m c := by
    cases c with
    | nil => cases hc
    | cons s c => exact appTr_of c [s] ⟨s.1, rfl, rfl, rndB_dvd _ _ _⟩
  obtain ⟨l, _, e, _⟩ := h
  rw [e, t.eq]
theorem cut_app {N wd k i : Nat} {c : Chain} {r : Rule} {gs : List (Nat × Rule)} (hc : 1 ≤ c.length) (t : Tr c wd r gs) (hN : total gs ≤ N) (hi : i < 2 ^ N) :
    app (N + wd) c (k * 2 ^ N + i) = (k + (if above (sel (T r gs) k) i (2 ^ N) = true then 1 else 0)) * 2 ^ N := by
  rw [app_trim hc t, round_T gs r wd (N + wd) _ t.gaps (by omega), Nat.add_sub_cancel]
  have hp : 0 < 2 ^ N := Nat.two_pow_pos N
  rw [Nat.mul_comm k, Nat.mul_add_div hp, Nat.div_eq_of_lt hi, Nat.mul_add_mod, Nat.mod_eq_of_lt hi, Nat.add_zero]
theorem cut_test {N wd k i : Nat} {c : Chain} {r : Rule} {gs : List (Nat × Rule)} (hc : 1 ≤ c.length) (t : Tr c wd r gs) (hN : total gs ≤ N) (hi : i < 2 ^ N) :
    decide (red (app (N + wd) c (k * 2 ^ N + i)) (2 ^ N) = red k 1) = !above (sel (T r gs) k) i (2 ^ N) := by
  rw [cut_app hc t hN hi, red_full _ _ (Nat.two_pow_pos N), red_one]
  cases above (sel (T r gs) k) i (2 ^ N) <;> simp
section
variable {P : Program} {w : World} {K : PySem.W.Frag} {mg : Str → Option Value} {base : Heap}
/-! ### _law_least -/
abbrev sLLeast : Stmt := topS 60
theorem scLLeast : FnScope ["_law_chain_here", "_law_width", "_law_rule_here"] ["_law_chain_here"] (defScope sLLeast) := ⟨rfl, rfl, rfl, by decide +kernel, rfl, by decide +kernel, by decide +kernel⟩
theorem ok_lleast (B : Blt mg) (D : Df K mg "_law_least" sLLeast ["_law_chain_here"]) : Fx P w K mg base 1 "_law_least" ["_law_chain_here"] (spLastWidth K) := by
  refine D.ok scLLeast (fun vs H Q E h => ?_) (fun f cdv A outer s H vs Q E hr h => ?_)
  · obtain ⟨a, b, rfl, _⟩ := h
    rfl
  obtain ⟨v, c, rfl, hd, hok, q⟩ := h
  refine ⟨_, pss_one (ps_ret (pe_callB (cr_min rfl) (by rfl) B.min boot_min (pa_cons (pe_lc (own := [("_law_width", 1), ("_law_rule_here", 2)]) (g := gTup K 2 (gCons (gName 1) (gCons (gName 2) gNil))) (tt := tYes) rfl scLLeast.nd (pi_tup (pv 0)) (blkOk_by (N := ["_law_chain_here", "_law_width", "_law_rule_here"]) (sc := defScope sLLeast) (by decide +kernel))
    (fun _ _ _ _ _ => pg_tup rfl (pgs_cons (pg_name (i := 1) scLLeast.nd rfl (Or.inl rfl) (hf := Or.inr rfl)) (pgs_cons (pg_name (i := 2) scLLeast.nd rfl (Or.inl rfl) (hf := Or.inr rfl)) pgs_nil))) (fun _ _ _ _ _ => pts_nil) (fun _ _ _ _ _ => pv 1)) pa_nil))), ?_⟩
  obtain ⟨a, xs, rfl, hs, hx⟩ := dp_chain hd
  have hl : xs.length = c.length := by rw [hx.len, List.length_map]
  refine ⟨_, rfl, a, rfl, ⟨_, hs⟩, fun L hL => lc_tup (K := K) (a := a) (xs := xs) (fun i H1 => Same H H1 ∧ H1 L = some (.lst (((c.take i).map (fun s => ((s.1 : Nat) : Int))).map V.int))) ⟨same_new hL _, upd_same⟩ (fun i H1 _ p => p.1.tup hs) (fun i x H1 hi p => ?_) (fun H1 p => ?_)⟩
  · obtain ⟨st, e1, e2⟩ := dpc_get hx hi
    obtain ⟨b, rfl, hb⟩ := dp_step (Dp.same p.1 _ _ e2)
    refine ⟨b, _, rfl, hb, rfl, _, _, rfl, _, _, rfl, rfl, rfl, _, rfl, _, p.2, ?_, p.1.put hL, ?_⟩
    · rw [List.length_map, List.length_map, List.length_take]
      have := hok.le
      exact small1000 (by omega)
    · rw [upd_same, List.take_add_one, e1, List.map_append, List.map_append]
      rfl
  · rw [hl, List.take_length] at p
    refine ⟨L, c.map (fun s => ((s.1 : Nat) : Int)), rfl, .inl (.inl p.2), by have := hok.pos; rw [List.length_map]; omega, fun m hm hle => ?_⟩
    obtain ⟨wd, rfl, hw⟩ := least_ints hm hle
    exact q wd H1 hw p.1
theorem most_ints {c : Chain} {m : Int} (hm : m ∈ c.map (fun s => ((s.1 : Nat) : Int))) (hl : ∀ x ∈ c.map (fun s => ((s.1 : Nat) : Int)), x ≤ m) : ∃ s ∈ c, m = ((s.1 : Nat) : Int) ∧ ∀ t ∈ c, t.1 ≤ s.1 := by
  obtain ⟨s, hs, rfl⟩ := List.mem_map.mp hm
  refine ⟨s, hs, rfl, fun t ht => ?_⟩
  have := hl _ (List.mem_map.mpr ⟨t, ht, rfl⟩)
  omega
/-! ### _law_cut -/
abbrev sCut : Stmt := topS 62
theorem scCut : FnScope ["_law_chain_here", "_law_k", "_law_width", "_law_parts", "_law_step", "_law_low_here", "_law_high", "_law_middle"] ["_law_chain_here", "_law_k"] (defScope sCut) := ⟨rfl, rfl, rfl, by decide +kernel, rfl, by decide +kernel, by decide +kernel⟩
def spCut (K : PySem.W.Frag) : Sp := fun vs H Q _ => ∃ (v : V) (c : Chain) (k wd : Nat) (r : Rule) (gs : List (Nat × Rule)), vs = [v, .int (k : Nat)] ∧ Dp K H v (dChain c) ∧ ChainOk c ∧ Tr c wd r gs ∧ (∀ s ∈ c, s.1 ≤ 60) ∧ 2 ^ (wd - 1) ≤ k ∧ k + 1 ≤ 2 ^ wd ∧ wd ≤ 30 ∧ Gives K H Q (dTh (sel (T r gs) k))
theorem ok_cut (B : Blt mg) (D : Df K mg "_law_cut" sCut ["_law_chain_here", "_law_k"]) (G1 : Fx P w K mg base 1 "_law_least" ["_law_chain_here"] (spLastWidth K)) (G2 : Fx P w K mg base 5 "_law_applied" ["_law_number", "_law_chain_here"] (spApplied K))
    (G3 : Fx P w K mg base 3 "_law_point" ["_law_k", "_law_index", "_law_parts"] (spPoint K)) (G4 : Fx P w K mg base 2 "_law_low" ["_law_n", "_law_d"] (spLLow K)) : Fx P w K mg base 6 "_law_cut" ["_law_chain_here", "_law_k"] (spCut K) := by
  refine D.ok scCut (fun vs H Q E h => ?_) (fun f cdv A outer s H vs Q E hr h => ?_)
  · obtain ⟨_, _, _, _, _, _, rfl, _⟩ := h
    rfl
  obtain ⟨v, c, k, wd, r, gs, rfl, hd, hok, tr, h60, hk1, hk2, hwd, q⟩ := h
  refine ⟨_, pss_cons (ps_set (i := 2) scCut.nd rfl (.inl rfl) (pe_fx G1 (hr.mono (by decide)) (pa_cons (pv 0) pa_nil)))
    (pss_cons (ps_set (i := 3) scCut.nd rfl (.inl rfl) (pe_op op_shlB pe_int (pe_op op_addN (pe_op op_subN (pe_callB (cr_max rfl) (by rfl) B.max boot_max (pa_cons (pe_lc (own := [("_law_step", 4)]) (g := gName 4) (tt := tYes) rfl scCut.nd (pi_tup (pv 0)) (blkOk_by (N := ["_law_chain_here", "_law_k", "_law_width", "_law_parts", "_law_step", "_law_low_here", "_law_high", "_law_middle"]) (sc := defScope sCut) (by decide +kernel))
        (fun _ _ _ _ _ => pg_name (i := 4) scCut.nd rfl (Or.inl rfl) (hf := Or.inr rfl)) (fun _ _ _ _ _ => pts_nil) (fun _ _ _ _ _ => pe_ix (r := rIxT K) ix_tup (pv 4) pe_int (fun _ _ => rfl))) pa_nil)) (pv 2)) pe_int)))
    (pss_cons (ps_par (i := 5) (j := 6) (by rfl) scCut.nd rfl rfl (by decide) rfl rfl (pa_cons pe_int (pa_cons (pv 3) pa_nil)) (by rfl))
    (pss_cons (ps_while PassesOwn.never (pt_cmpR op_gt (pe_op op_subN (pv 6) (pv 5)) pe_int (nomark _))
      (pss_cons (ps_set (i := 7) scCut.nd rfl (.inl rfl) (pe_op op_fdivNN (pe_op op_addN (pv 5) (pv 6)) pe_int))
      (pss_one (ps_if (pt_cmpR (r := rEqD K) (op_eqD hr.units) (pe_fx G2 hr (pa_cons (pe_fx G3 (hr.mono (by decide)) (pa_cons (pv 1) (pa_cons (pv 7) (pa_cons (pv 3) pa_nil)))) (pa_cons (pv 0) pa_nil))) (pe_fx G4 (hr.mono (by decide)) (pa_cons (pv 1) (pa_cons pe_int pa_nil))) (nomark _))
        (pss_one (ps_set (i := 5) scCut.nd rfl (.inl rfl) (pv 7))) (pss_one (ps_set (i := 6) scCut.nd rfl (.inl rfl) (pv 7)))))))
    (pss_cons (ps_if (pt_cmpR op_eq (pe_op op_modNat (pv 6) pe_int) pe_int (nomark _)) (pss_one (ps_ret (pe_tup (pa_cons (pe_fx G4 (hr.mono (by decide)) (pa_cons (pv 6) (pa_cons (pv 3) pa_nil))) (pa_cons pe_str pa_nil))))) pss_nil)
    (pss_one (ps_ret (pe_tup (pa_cons (pe_fx G4 (hr.mono (by decide)) (pa_cons (pv 5) (pa_cons (pv 3) pa_nil))) (pa_cons pe_str pa_nil))))))))), ?_⟩
  refine ⟨_, rfl, v, c, rfl, hd, hok, fun wl H1 hwl s1 => ?_⟩
  have hwe : wd = wl := tr.least.uniq hwl
  subst hwe
  have hd1 := Dp.same s1 _ _ hd
  obtain ⟨a, xs, rfl, hs, hx⟩ := dp_chain hd1
  have hl : xs.length = c.length := by rw [hx.len, List.length_map]
  refine ⟨_, rfl, a, rfl, ⟨_, hs⟩, fun L hL => lc_tup (K := K) (a := a) (xs := xs) (fun i H2 => Same H1 H2 ∧ H2 L = some (.lst (((c.take i).map (fun s => ((s.1 : Nat) : Int))).map V.int))) ⟨same_new hL _, upd_same⟩ (fun i H2 _ p => p.1.tup hs) (fun i x H2 hi p => ?_) (fun H2 p => ?_)⟩
  · obtain ⟨st, e1, e2⟩ := dpc_get hx hi
    obtain ⟨b, rfl, hb⟩ := dp_step (Dp.same p.1 _ _ e2)
    refine ⟨rfl, _, rfl, b, _, 0, .int (st.1 : Nat), rfl, rfl, hb, rfl, _, p.2, ?_, p.1.put hL, ?_⟩
    · rw [List.length_map, List.length_map, List.length_take]
      have := hok.le
      exact small1000 (by omega)
    · rw [upd_same, List.take_add_one, e1, List.map_append, List.map_append]
      rfl
  rw [hl, List.take_length] at p
  refine ⟨L, c.map (fun s => ((s.1 : Nat) : Int)), rfl, .inl (.inl p.2), by have := hok.pos; rw [List.length_map]; omega, fun m hm hle => ?_⟩
  obtain ⟨sm, hsm, rfl, hmax⟩ := most_ints hm hle
  have s2 := p.1
  have hwm : wd ≤ sm.1 := tr.least.2 sm hsm
  have h60m := h60 sm hsm
  have hwd1 : 1 ≤ wd := by
    obtain ⟨⟨x, hx, rfl⟩, _⟩ := tr.least
    exact (hok.ws x hx).1
  refine ⟨_, rfl, sm.1, wd, rfl, rfl, hwm, sm.1 - wd, 2, rfl, rfl, 1, sm.1 - wd + 2, rfl, rfl, Nat.one_lt_two_pow (by decide), by omega, _, rfl, _, _, rfl, ?_⟩
  rw [Nat.one_mul]
  obtain ⟨N1, hN1⟩ : ∃ N1, sm.1 - wd + 1 = N1 := ⟨_, rfl⟩
  have hN : sm.1 - wd + 2 = N1 + 1 := by omega
  rw [hN]
  have htot : total gs + 1 ≤ N1 := by
    obtain ⟨y, hy, hy2⟩ := tr.tot
    have := hmax y hy
    omega
  have good := good_T gs r tr.gaps k
  have hden : (sel (T r gs) k).d ∣ 2 ^ N1 := Nat.dvd_trans (T_den gs r k) (Nat.pow_dvd_pow 2 htot)
  have hpN : 0 < 2 ^ (N1 + 1) := Nat.two_pow_pos _
  have hpN2 : 2 ^ (N1 + 1) < 2 ^ 1000 := Nat.pow_lt_pow_right (by decide) (by omega)
  have hk32 : k ≤ 4294967296 := by
    have : 2 ^ wd ≤ 2 ^ 30 := Nat.pow_le_pow_right (by decide) hwd
    have e : (2 : Nat) ^ 30 = 1073741824 := by decide
    omega
  have sB := s1.trans s2
  have hcd := Dp.same s2 _ _ hd1
  have htest := fun (i : Nat) (hi : i < 2 ^ (N1 + 1)) => cut_test (k := k) hok.pos tr (show total gs ≤ N1 + 1 by omega) hi
  have hend := fun (lo : Nat) => cut_end good hden (lo := lo)
  generalize sel (T r gs) k = t at q good hend htest
  refine while_by (fun σ H3 => ∃ lo hi y7, σ = [some (.ref a), some (.int (k : Nat)), some (.int (wd : Nat)), some (.int ((2 ^ (N1 + 1) : Nat) : Int)), none, some (.int (lo : Nat)), some (.int (hi : Nat)), y7] ∧ Same H2 H3 ∧ lo < hi ∧ hi ≤ 2 ^ (N1 + 1) ∧ above t lo (2 ^ (N1 + 1)) = false ∧ above t hi (2 ^ (N1 + 1)) = true)
    (fun σ _ => match σ with | [_, _, _, _, _, some (.int lo), some (.int hi), _] => (hi - lo).toNat | _ => 0) ⟨0, 2 ^ (N1 + 1), _, rfl, Same.refl _, hpN, Nat.le_refl _, above_zero good hpN, above_one good hpN⟩ (fun σ H3 h => ?_) (fun σ H Q Q' hQ h => ?_)
  · obtain ⟨lo, hi, y7, rfl, s3, hlt, hle2, a1, a2⟩ := h
    refine ⟨_, rfl, _, rfl, hi, lo, rfl, rfl, by omega, _, _, rfl, rfl, _, rfl, ?_⟩
    by_cases h1 : hi = lo + 1
    · subst h1
      rw [decide_eq_false (show ¬ (1 : Int) < ((lo + 1 - lo : Nat) : Int) by omega)]
      have he := hend lo a1 a2
      refine iteF ⟨_, rfl, lo + 1, 2, rfl, rfl, by decide, rfl, _, rfl, ?_⟩
      by_cases h2 : (lo + 1) % 2 = 0
      · rw [decide_eq_true (show V.int (((lo + 1) % 2 : Nat) : Int) = V.int 0 by rw [h2]; rfl)]
        rw [if_pos h2] at he
        refine iteT ⟨_, rfl, _, rfl, lo + 1, _, rfl, hpN, hpN2, fun v1 H4 s4 hv1 => ⟨(by show 2 ≤ sizeLine; decide), fun p0 hp0 => q _ _ (((sB.trans s3).trans s4).trans (same_new hp0 _)) ?_⟩⟩
        rw [← he]
        exact Dp.mkPair upd_same (Dp.same (same_new hp0 _) _ _ hv1) (.str _)
      · rw [decide_eq_false (show ¬ V.int (((lo + 1) % 2 : Nat) : Int) = V.int 0 from fun z => h2 (by have := V.int.inj z; omega))]
        rw [if_neg h2] at he
        refine iteF ⟨_, rfl, _, rfl, lo, _, rfl, hpN, hpN2, fun v1 H4 s4 hv1 => ⟨(by show 2 ≤ sizeLine; decide), fun p0 hp0 => q _ _ (((sB.trans s3).trans s4).trans (same_new hp0 _)) ?_⟩⟩
        rw [← he]
        exact Dp.mkPair upd_same (Dp.same (same_new hp0 _) _ _ hv1) (.str _)
    · rw [decide_eq_true (show (1 : Int) < ((hi - lo : Nat) : Int) by omega)]
      have hm1 : lo < (lo + hi) / 2 := by omega
      have hm2 : (lo + hi) / 2 < hi := by omega
      refine iteT ⟨_, rfl, _, rfl, lo, hi, rfl, rfl, lo + hi, 2, rfl, rfl, ⟨by decide, by decide⟩, ?_⟩
      generalize (lo + hi) / 2 = mi at hm1 hm2
      have hmi : mi < 2 ^ (N1 + 1) := by omega
      refine ⟨_, rfl, _, rfl, _, rfl, k, mi, _, rfl, hk32, hpN, hpN2, fun v1 H4 s4 hv1 => ?_⟩
      have s34 := s3.trans s4
      have hok2 : AppOk c wd (N1 + 1) k (k * 2 ^ (N1 + 1) + mi) := ⟨hwd1, fun s hs => ⟨tr.least.2 s hs, by have := hmax s hs; omega⟩, hk1, hk2, by omega, by rw [Nat.succ_mul]; omega, by omega⟩
      refine ⟨_, rfl, v1, .ref a, c, wd, N1 + 1, k, _, rfl, hv1, Dp.same s34 _ _ hcd, hok2, fun v2 H5 s5 hv2 => ?_⟩
      refine ⟨_, rfl, k, 1, rfl, by decide, Nat.one_lt_two_pow (by decide), fun v3 H6 s6 hv3 => ?_⟩
      refine ⟨_, _, Dp.same s6 _ _ hv2, hv3, shaped_f _, shaped_f _, _, rfl, ?_⟩
      rw [eqv_f, htest mi hmi]
      have s36 := (s34.trans s5).trans s6
      cases hab : above t mi (2 ^ (N1 + 1)) with
      | false => exact iteT ⟨_, rfl, ⟨mi, hi, _, rfl, s36, hm2, hle2, hab, a2⟩, by show ((hi : Int) - (mi : Int)).toNat < ((hi : Int) - (lo : Int)).toNat; omega⟩
      | true => exact iteF ⟨_, rfl, ⟨lo, mi, _, rfl, s36, hm1, by omega, a1, hab⟩, by show ((mi : Int) - (lo : Int)).toNat < ((hi : Int) - (lo : Int)).toNat; omega⟩
  · obtain ⟨x1, e1, x2, e2, x3, x4, e3, e4, x5, x6, x7, e6, e7, x8, e8, q⟩ := h
    exact ⟨x1, e1, x2, e2, x3, x4, e3, e4, x5, x6, x7, e6, e7, x8, e8, hQ _ _ q⟩
end
end K69
set_option Elab.async false
set_option linter.all false
set_option exponentiation.threshold 2000
set_option maxRecDepth 100000
set_option maxHeartbeats 8000000
namespace K69
open PySem PySem.Spec PyProof.Rows L2 SR RZ
section
variable {P : Program} {w : World} {K : PySem.W.Frag} {mg : Str → Option Value} {base : Heap}
/-! ### _law_cuts -/
abbrev sCuts : Stmt := topS 63
theorem scCuts : FnScope ["_law_chain_here", "_law_width", "_law_odd_one"] ["_law_chain_here"] (defScope sCuts) := ⟨rfl, rfl, rfl, by decide +kernel, rfl, by decide +kernel, by decide +kernel⟩
def spCuts (K : PySem.W.Frag) : Sp := fun vs H Q _ => ∃ (v : V) (c : Chain) (wd : Nat) (r : Rule) (gs : List (Nat × Rule)), vs = [v] ∧ Dp K H v (dChain c) ∧ ChainOk c ∧ Tr c wd r gs ∧ (∀ s ∈ c, s.1 ≤ 60) ∧ wd ≤ 30 ∧ Gives K H Q (dW (wantedOf wd (T r gs)))
theorem ok_cuts (B : Blt mg) (D : Df K mg "_law_cuts" sCuts ["_law_chain_here"]) (G1 : Fx P w K mg base 1 "_law_least" ["_law_chain_here"] (spLastWidth K)) (G2 : Fx P w K mg base 6 "_law_cut" ["_law_chain_here", "_law_k"] (spCut K)) : Fx P w K mg base 7 "_law_cuts" ["_law_chain_here"] (spCuts K) := by
  refine D.ok scCuts (fun vs H Q E h => ?_) (fun f cdv A outer s H vs Q E hr h => ?_)
  · obtain ⟨_, _, _, _, _, rfl, _⟩ := h
    rfl
  obtain ⟨v, c, wd, r, gs, rfl, hd, hok, tr, h60, hwd, q⟩ := h
  refine ⟨_, pss_cons (ps_set (i := 1) scCuts.nd rfl (.inl rfl) (pe_fx G1 (hr.mono (by decide)) (pa_cons (pv 0) pa_nil)))
    (pss_cons (ps_set (i := 2) scCuts.nd rfl (.inl rfl) (pe_fx G2 hr (pa_cons (pv 0) (pa_cons (pe_op op_add (pe_op op_shlB pe_int (pe_op op_subN (pv 1) pe_int)) (pe_callTy call_int1 (by rfl) B.int PyProof.Rows.boot_int (pa_cons (pe_cmpR op_gt (pv 1) pe_int (nomark _)) pa_nil))) pa_nil))))
    (pss_one (ps_ret (pe_tup (pa_cons (pe_ifExp (pt_cmpR op_gt (pv 1) pe_int (nomark _)) (pe_fx G2 hr (pa_cons (pv 0) (pa_cons (pe_op op_shlB pe_int (pe_op op_subN (pv 1) pe_int)) pa_nil))) pe_non) (pa_cons (pv 2) pa_nil)))))), ?_⟩
  refine ⟨_, rfl, v, c, rfl, hd, hok, fun wl H1 hwl s1 => ?_⟩
  have hwe : wd = wl := tr.least.uniq hwl
  subst hwe
  have hwd1 : 1 ≤ wd := by
    obtain ⟨⟨x, hx, rfl⟩, _⟩ := tr.least
    exact (hok.ws x hx).1
  obtain ⟨W, rfl⟩ : ∃ W, wd = W + 1 := ⟨wd - 1, by omega⟩
  have hp : 0 < 2 ^ W := Nat.two_pow_pos W
  have hp2 : 2 ^ (W + 1) = 2 * 2 ^ W := by rw [Nat.pow_succ]; omega
  refine ⟨_, rfl, _, rfl, W + 1, 1, rfl, rfl, by omega, 1, W + 1 - 1, rfl, rfl, Nat.one_lt_two_pow (by decide), by omega, _, rfl, _, _, rfl, rfl, ?_⟩
  have keven : W ≠ 0 → sel (T r gs) (2 ^ W) = (T r gs).1 := fun h => by
    obtain ⟨x, rfl⟩ : ∃ x, W = x + 1 := ⟨W - 1, by omega⟩
    unfold sel
    rw [if_pos (by rw [Nat.pow_succ]; omega)]
  have kodd : sel (T r gs) (2 ^ W + (if W = 0 then 0 else 1)) = (T r gs).2 := by
    unfold sel
    by_cases h : W = 0
    · subst h; rfl
    · obtain ⟨x, rfl⟩ : ∃ x, W = x + 1 := ⟨W - 1, by omega⟩
      rw [if_neg h, if_neg (by rw [Nat.pow_succ]; omega)]
  refine .inr ⟨_, rfl, _, _, rfl, rfl, v, c, 2 ^ W + (if W = 0 then 0 else 1), W + 1, r, gs, ?_, Dp.same s1 _ _ hd, hok, tr, h60, ?_, ?_, hwd, fun v2 H2 s2 hv2 => ?_⟩
  · by_cases h : W = 0
    · subst h; rfl
    · rw [if_neg h]
      have e1 : decide ((1 : Int) < ((W + 1 : Nat) : Int)) = true := decide_eq_true (by omega)
      have e2 : (V.int (((1 * 2 ^ (W + 1 - 1) : Nat) : Int) + (if decide ((1 : Int) < ((W + 1 : Nat) : Int)) = true then 1 else 0))) = V.int ((2 ^ W + 1 : Nat) : Int) := by
        rw [e1, if_pos rfl, Nat.one_mul, Nat.add_sub_cancel]
        rfl
      exact congrArg (fun z => [v, z]) e2
  · rw [Nat.add_sub_cancel]; omega
  · by_cases h : W = 0
    · subst h; decide
    · rw [if_neg h, hp2]
      have : 2 ≤ 2 ^ W := Nat.le_trans (by decide : 2 ≤ 2 ^ 1) (Nat.pow_le_pow_right (by decide) (by omega))
      omega
  rw [kodd] at hv2
  refine ⟨_, rfl, _, _, rfl, rfl, _, rfl, ?_⟩
  unfold wantedOf at q
  by_cases h : W = 0
  · rw [decide_eq_false (show ¬ (1 : Int) < ((W + 1 : Nat) : Int) by omega)]
    rw [if_neg (by omega)] at q
    refine iteF ⟨_, rfl, (by show 2 ≤ sizeLine; decide), fun p0 hp0 => q _ _ ((s1.trans s2).trans (same_new hp0 _)) (Dp.mkPair upd_same .non (Dp.same (same_new hp0 _) _ _ hv2))⟩
  · rw [decide_eq_true (show (1 : Int) < ((W + 1 : Nat) : Int) by omega)]
    rw [if_pos (by omega)] at q
    refine iteT ⟨_, rfl, _, rfl, W + 1, 1, rfl, rfl, by omega, 1, W + 1 - 1, rfl, rfl, Nat.one_lt_two_pow (by decide), by omega, v, c, 2 ^ W, W + 1, r, gs, ?_, Dp.same (s1.trans s2) _ _ hd, hok, tr, h60, ?_, ?_, hwd, fun v3 H3 s3 hv3 => ?_⟩
    · rw [Nat.one_mul, Nat.add_sub_cancel]; rfl
    · rw [Nat.add_sub_cancel]; omega
    · omega
    rw [keven h] at hv3
    refine ⟨_, rfl, (by show 2 ≤ sizeLine; decide), fun p0 hp0 => q _ _ (((s1.trans s2).trans s3).trans (same_new hp0 _)) (Dp.mkPair upd_same (Dp.same (same_new hp0 _) _ _ hv3) (Dp.same (s3.trans (same_new hp0 _)) _ _ hv2))⟩
end
end K69
set_option Elab.async false
set_option linter.all false
set_option exponentiation.threshold 2000
set_option maxRecDepth 100000
set_option maxHeartbeats 8000000
namespace K69
open PySem PySem.Spec PyProof.Rows L2 SR RZ
section
variable {P : Program} {w : World} {K : PySem.W.Frag} {mg : Str → Option Value} {base : Heap}
/-! ### _law_is_count, _law_is_chain -/
abbrev sIsCount : Stmt := topS 58
theorem scIsCount : FnScope ["_law_value"] ["_law_value"] (defScope sIsCount) := ⟨rfl, rfl, rfl, by decide +kernel, rfl, by decide +kernel, by decide +kernel⟩
def spIsCount : Sp := fun vs H Q _ => ∃ a : Nat, vs = [.int (a : Nat)] ∧ Q (.bl true) H
theorem ok_is_count (B : Blt mg) (D : Df K mg "_law_is_count" sIsCount ["_law_value"]) : Fx P w K mg base 1 "_law_is_count" ["_law_value"] spIsCount := by
  refine D.ok scIsCount (fun vs H Q E h => ?_) (fun f cdv A outer s H vs Q E hr h => ?_)
  · obtain ⟨a, rfl, _⟩ := h
    rfl
  obtain ⟨a, rfl, q⟩ := h
  refine ⟨_, pss_one (ps_ret (pe_and (pe_callB call_isi (by rfl) B.isinstance boot_isinstance (pa_cons (pv 0) (pa_cons (pe_bltn (v := .ty "int") (by rfl) B.int PyProof.Rows.boot_int rfl) pa_nil)))
    (pe_and (pe_not (pe_callB call_isi (by rfl) B.isinstance boot_isinstance (pa_cons (pv 0) (pa_cons (pe_bltn (v := .ty "bool") (by rfl) B.bool PyProof.Rows.boot_bool rfl) pa_nil))))
      (pe_one (pe_cmpR op_ge (pv 0) pe_int (nomark _)))))), ?_⟩
  refine ⟨_, rfl, _, _, _, _, _, rfl, .ty "int", .base (.int a), kit_ty kit_ii, true, rfl, ?_⟩
  refine iteT ⟨_, rfl, _, _, _, _, _, rfl, .ty "bool", .base (.int a), kit_ty kit_ib, false, rfl, true, rfl, ?_⟩
  refine iteT ⟨_, rfl, _, _, rfl, rfl, ?_⟩
  show Q (.bl (decide ((0 : Int) ≤ (a : Int)))) H
  rw [decide_eq_true (show (0 : Int) ≤ (a : Int) by omega)]
  exact q
abbrev sLIsChain : Stmt := topS 59
theorem scLIsChain : FnScope ["_law_value", "_law_step"] ["_law_value"] (defScope sLIsChain) := ⟨rfl, rfl, rfl, by decide +kernel, rfl, by decide +kernel, by decide +kernel⟩
theorem ok_lis_chain (B : Blt mg) (D : Df K mg "_law_is_chain" sLIsChain ["_law_value"]) (G : Fx P w K mg base 1 "_law_is_count" ["_law_value"] spIsCount) : Fx P w K mg base 2 "_law_is_chain" ["_law_value"] (spIsChain K) := by
  refine D.ok scLIsChain (fun vs H Q E h => ?_) (fun f cdv A outer s H vs Q E hr h => ?_)
  · obtain ⟨_, _, rfl, _⟩ := h
    rfl
  obtain ⟨v, c, rfl, hd, hok, q⟩ := h
  obtain ⟨a, xs, rfl, hs, hx⟩ := dp_chain hd
  have hl : xs.length = c.length := by rw [hx.len, List.length_map]
  have hpos := hok.pos
  have hle := hok.le
  refine ⟨_, pss_cons (ps_if (PW.pt (pw_or (pt_not (pt_val (pe_callB call_isi (by rfl) B.isinstance boot_isinstance (pa_cons (pv 0) (pa_cons (pe_bltn (v := .ty "tuple") (by rfl) B.tuple PyProof.Rows.boot_tuple rfl) pa_nil)))))
      (pw_or1 (pt_not (pt_chain op_le op_le pe_int (pe_callB call_len_seq (by rfl) B.len PySem.boot_len (pa_cons (pv 0) pa_nil)) pe_int))))) pss_never pss_nil)
    (pss_cons (ps_for PassesOwn.never rfl (pi_tup (pv 0)) (pg_name (i := 1) scLIsChain.nd rfl (.inl rfl))
      (pss_cons (ps_if (PW.pt (pw_or (pt_not (pt_val (pe_callB call_isi (by rfl) B.isinstance boot_isinstance (pa_cons (pv 1) (pa_cons (pe_bltn (v := .ty "tuple") (by rfl) B.tuple PyProof.Rows.boot_tuple rfl) pa_nil)))))
        (pw_or (pt_cmpR op_ne (pe_callB call_len_seq (by rfl) B.len PySem.boot_len (pa_cons (pv 1) pa_nil)) pe_int (nomark _))
        (pw_or (pt_not (pt_val (pe_fx G hr (pa_cons (pe_ix (r := rIxT K) ix_tup (pv 1) pe_int (fun _ _ => rfl)) pa_nil))))
        (pw_or1 (pt_not (pt_chain op_le op_le pe_int (pe_ix (r := rIxT K) ix_tup (pv 1) pe_int (fun _ _ => rfl)) pe_int))))))) pss_never pss_nil)
      (pss_one (ps_if (PW.pt (pw_or (pt_not (pt_val (pe_callB call_isi (by rfl) B.isinstance boot_isinstance (pa_cons (pe_ix (r := rIxT K) ix_tup (pv 1) pe_int (fun _ _ => rfl)) (pa_cons (pe_bltn (v := .ty "str") (by rfl) B.str PyProof.Rows.boot_str rfl) pa_nil)))))
        (pw_or1 (pt_cmpR op_notIn_seq (pe_ix (r := rIxT K) ix_tup (pv 1) pe_int (fun _ _ => rfl)) (pe_tup (pa_cons pe_str (pa_cons pe_str (pa_cons pe_str (pa_cons pe_str (pa_cons pe_str (pa_cons pe_str pa_nil))))))) (by rfl))))) pss_never pss_nil))))
    (pss_one (ps_ret pe_bl))), ?_⟩
  refine ⟨_, rfl, _, _, _, _, _, rfl, .ty "tuple", tyx_tup hs, kit_ty kit_tt, true, rfl, ?_⟩
  refine iteF ⟨_, rfl, a, _, rfl, .inr hs, _, _, rfl, rfl, _, rfl, ?_⟩
  rw [decide_eq_true (show (1 : Int) ≤ (xs.length : Int) by omega)]
  refine iteT ⟨_, _, rfl, rfl, _, rfl, ?_⟩
  rw [decide_eq_true (show (xs.length : Int) ≤ 12 by omega)]
  refine iteF ⟨_, rfl, a, rfl, ⟨_, hs⟩, for_tup (K := K) (a := a) (xs := xs) (fun i σ H1 => ∃ y1, σ = [some (.ref a), y1] ∧ Same H H1) ⟨_, rfl, Same.refl _⟩ (fun i σ H1 _ p => ?_) (fun i x σ H1 hi p => ?_) (fun σ H1 p => ?_)⟩
  · obtain ⟨_, _, sm⟩ := p
    exact sm.tup hs
  · obtain ⟨y1, rfl, sm⟩ := p
    obtain ⟨st, e1, e2⟩ := dpc_get hx hi
    obtain ⟨b, rfl, hb⟩ := dp_step (Dp.same sm _ _ e2)
    have hst := hok.ws st (List.mem_of_getElem? e1)
    refine ⟨_, rfl, _, _, _, _, _, rfl, .ty "tuple", tyx_tup hb, kit_ty kit_tt, true, rfl, ?_⟩
    refine iteF ⟨_, rfl, b, _, rfl, .inr hb, rfl, _, rfl, ?_⟩
    rw [show (!decide (V.int (([V.int (st.1 : Nat), V.str st.2.str].length : Nat) : Int) = V.int 2)) = false from by rw [decide_eq_true (show V.int (([V.int (st.1 : Nat), V.str st.2.str].length : Nat) : Int) = V.int 2 from rfl)]; rfl]
    refine iteF ⟨_, rfl, b, _, 0, .int (st.1 : Nat), rfl, rfl, hb, rfl, st.1, rfl, true, rfl, ?_⟩
    refine iteF ⟨_, rfl, b, _, 0, .int (st.1 : Nat), rfl, rfl, hb, rfl, _, _, rfl, rfl, _, rfl, ?_⟩
    rw [decide_eq_true (show (1 : Int) ≤ ((st.1 : Nat) : Int) by omega)]
    refine iteT ⟨_, _, rfl, rfl, _, rfl, ?_⟩
    rw [decide_eq_true (show ((st.1 : Nat) : Int) ≤ 100 by omega)]
    refine iteF ⟨_, rfl, b, _, 1, .str st.2.str, rfl, rfl, hb, rfl, _, _, _, _, _, rfl, .ty "str", .base (.str _), kit_ty kit_ss, true, rfl, ?_⟩
    refine iteF ⟨_, rfl, b, _, 1, .str st.2.str, rfl, rfl, hb, rfl, (by show 6 ≤ sizeLine; decide), fun p0 hp0 => ⟨p0, _, rfl, .inr (SqT.of upd_same), rfl, rfl, _, rfl, ?_⟩⟩
    rw [if_pos rfl, show inV (.str st.2.str) [.str "down", .str "half_down", .str "half_even", .str "half_up", .str "odd", .str "up"] = true by cases st.2 <;> decide +kernel]
    exact iteF ⟨_, rfl, sm.trans (same_new hp0 _)⟩
  · obtain ⟨y1, rfl, sm⟩ := p
    exact q _ sm
end
end K69
set_option Elab.async false
set_option linter.all false
set_option exponentiation.threshold 2000
set_option maxRecDepth 100000
set_option maxHeartbeats 8000000
namespace K69
open PySem PySem.Spec PyProof.Rows L2 SR RZ
def dThc (t : Th) : PyData := .tuple [.int (fix t : Nat), .str (side t.up)]
def dPc (p : Th × Th) : PyData := .tuple [dThc p.1, dThc p.2]
def dThcO : Option Th → PyData
  | none => .none
  | some t => dThc t
def dWc (wn : Wanted) : PyData := .tuple [dThcO wn.1, dThcO wn.2]
theorem still_thc (t : Th) : still (dThc t) = true := rfl
theorem dp_thc {K : PySem.W.Frag} {H : Hp} {v : V} {t : Th} (h : Dp K H v (dThc t)) : ∃ a, v = .ref a ∧ SqT K H a [.int (fix t : Nat), .str (side t.up)] := by
  obtain ⟨a, x, y, rfl, hs, hx, hy⟩ := Dp.pair_inv h
  cases hx
  cases hy
  exact ⟨a, rfl, hs⟩
section
variable {P : Program} {w : World} {K : PySem.W.Frag} {mg : Str → Option Value} {base : Heap}
/-! ### _law_split -/
abbrev sSplit : Stmt := topS 64
theorem scSplit : FnScope ["_law_rule_here", "_law_far", "_law_parity", "_law_ties_up"] ["_law_rule_here", "_law_far", "_law_parity"] (defScope sSplit) := ⟨rfl, rfl, rfl, by decide +kernel, rfl, by decide +kernel, by decide +kernel⟩
def spSplit : Sp := fun vs H Q _ => ∃ (r : Rule) (f par : Nat), vs = [.str r.str, .int (f + 1 : Nat), .int (par : Nat)] ∧ f ≤ 100 ∧ par < 2 ∧ ∀ H', Same H H' → Q (.int (lastDown r (f + 1) par : Nat)) H'
theorem ok_split (B : Blt mg) (D : Df K mg "_law_split" sSplit ["_law_rule_here", "_law_far", "_law_parity"]) : Fx P w K mg base 1 "_law_split" ["_law_rule_here", "_law_far", "_law_parity"] spSplit := by
  refine D.ok scSplit (fun vs H Q E h => ?_) (fun f cdv A outer s H vs Q E hr h => ?_)
  · obtain ⟨_, _, _, rfl, _⟩ := h
    rfl
  obtain ⟨r, f, par, rfl, hf, hpar, q⟩ := h
  refine ⟨_, pss_cons (ps_if (pt_cmpR op_in_seq (pv 0) (pe_tup (pa_cons pe_str (pa_cons pe_str pa_nil))) (by rfl)) (pss_one (ps_ret (pe_ifExp (pt_cmpR op_eq (pv 0) pe_str (nomark _)) (pe_op op_subN (pe_op op_shlB pe_int (pv 1)) pe_int) pe_int))) pss_nil)
    (pss_cons (ps_if (pt_cmpR op_eq (pv 0) pe_str (nomark _)) (pss_one (ps_ret (pe_ifExp (pt_cmpR op_eq (pv 2) pe_int (nomark _)) pe_int (pe_op op_subN (pe_op op_shlB pe_int (pv 1)) pe_int)))) pss_nil)
    (pss_cons (ps_set (i := 3) scSplit.nd rfl (.inl rfl) (pe_or (pe_cmpR op_eq (pv 0) pe_str (nomark _)) (pe_one (pe_and (pe_cmpR op_eq (pv 0) pe_str (nomark _)) (pe_one (pe_cmpR op_eq (pv 2) pe_int (nomark _)))))))
    (pss_one (ps_ret (pe_op op_subN (pe_op op_shlB pe_int (pe_op op_subN (pv 1) pe_int)) (pe_callTy call_int1 (by rfl) B.int PyProof.Rows.boot_int (pa_cons (pv 3) pa_nil))))))), ?_⟩
  refine ⟨_, rfl, (by show 2 ≤ sizeLine; decide), fun p hp => ⟨p, _, rfl, .inr (SqT.of upd_same), rfl, rfl, _, rfl, ?_⟩⟩
  have s0 := same_new hp (.tup [.str "down", .str "up"])
  have q' := q _ s0
  rw [split_eq r f par hpar] at q'
  have hp1 : 0 < 2 ^ (f + 1) := Nat.two_pow_pos _
  have hp0 : 0 < 2 ^ f := Nat.two_pow_pos _
  have hdu : inV (.str r.str) [.str "down", .str "up"] = (decide (r = .down) || decide (r = .up)) := by cases r <;> decide +kernel
  rw [if_neg (by decide), hdu]
  have one : (1 : Nat) < 2 ^ 1000 := Nat.one_lt_two_pow (by decide)
  have hpz : ∀ {n : Nat}, decide (V.int (par : Nat) = V.int (n : Nat)) = decide (par = n) := fun {n} => decide_eq_decide.mpr ⟨fun z => by have := V.int.inj z; omega, fun z => by rw [z]⟩
  cases r with
  | down =>
    refine iteT ⟨_, rfl, rfl, _, rfl, ?_⟩
    rw [show decide (V.str Rule.down.str = V.str "down") = true by decide +kernel]
    refine iteT ⟨_, rfl, 1, f + 1, rfl, rfl, one, by omega, 1 * 2 ^ (f + 1), 1, rfl, rfl, by omega, ?_⟩
    rw [Nat.one_mul]
    exact q'
  | up =>
    refine iteT ⟨_, rfl, rfl, _, rfl, ?_⟩
    rw [show decide (V.str Rule.up.str = V.str "down") = false by decide +kernel]
    exact iteF q'
  | odd =>
    refine iteF ⟨_, rfl, rfl, _, rfl, ?_⟩
    rw [show decide (V.str Rule.odd.str = V.str "odd") = true by decide +kernel]
    refine iteT ⟨_, rfl, rfl, _, rfl, ?_⟩
    rw [show decide (V.int (par : Nat) = V.int 0) = decide (par = 0) from hpz (n := 0)]
    by_cases h : par = 0
    · rw [decide_eq_true h]
      simp only [h, if_true] at q'
      exact iteT q'
    · rw [decide_eq_false h]
      simp only [h, if_false] at q'
      refine iteF ⟨_, rfl, 1, f + 1, rfl, rfl, one, by omega, 1 * 2 ^ (f + 1), 1, rfl, rfl, by omega, ?_⟩
      rw [Nat.one_mul]
      exact q'
  | hdown =>
    refine iteF ⟨_, rfl, rfl, _, rfl, ?_⟩
    rw [show decide (V.str Rule.hdown.str = V.str "odd") = false by decide +kernel]
    refine iteF ⟨_, rfl, rfl, _, rfl, ?_⟩
    rw [show decide (V.str Rule.hdown.str = V.str "half_up") = false by decide +kernel]
    refine iteF ⟨_, rfl, rfl, _, rfl, ?_⟩
    rw [show decide (V.str Rule.hdown.str = V.str "half_even") = false by decide +kernel]
    refine iteF ⟨_, rfl, f + 1, 1, rfl, rfl, by omega, 1, f + 1 - 1, rfl, rfl, one, by omega, _, rfl, .inr ⟨_, rfl, 1 * 2 ^ (f + 1 - 1), 0, rfl, rfl, by omega, ?_⟩⟩
    rw [Nat.one_mul]
    exact q'
  | hup =>
    refine iteF ⟨_, rfl, rfl, _, rfl, ?_⟩
    rw [show decide (V.str Rule.hup.str = V.str "odd") = false by decide +kernel]
    refine iteF ⟨_, rfl, rfl, _, rfl, ?_⟩
    rw [show decide (V.str Rule.hup.str = V.str "half_up") = true by decide +kernel]
    refine iteT ⟨_, rfl, f + 1, 1, rfl, rfl, by omega, 1, f + 1 - 1, rfl, rfl, one, by omega, _, rfl, .inr ⟨_, rfl, 1 * 2 ^ (f + 1 - 1), 1, rfl, rfl, ?_, ?_⟩⟩
    · rw [Nat.one_mul]; exact hp0
    rw [Nat.one_mul]
    exact q'
  | heven =>
    refine iteF ⟨_, rfl, rfl, _, rfl, ?_⟩
    rw [show decide (V.str Rule.heven.str = V.str "odd") = false by decide +kernel]
    refine iteF ⟨_, rfl, rfl, _, rfl, ?_⟩
    rw [show decide (V.str Rule.heven.str = V.str "half_up") = false by decide +kernel]
    refine iteF ⟨_, rfl, rfl, _, rfl, ?_⟩
    rw [show decide (V.str Rule.heven.str = V.str "half_even") = true by decide +kernel]
    refine iteT ⟨_, rfl, rfl, ?_⟩
    rw [show decide (V.int (par : Nat) = V.int 1) = decide (par = 1) from hpz (n := 1)]
    by_cases h : par = 0
    · rw [decide_eq_false (show ¬ par = 1 by omega)]
      simp only [h, if_true] at q'
      refine ⟨_, rfl, f + 1, 1, rfl, rfl, by omega, 1, f + 1 - 1, rfl, rfl, one, by omega, _, rfl, .inr ⟨_, rfl, 1 * 2 ^ (f + 1 - 1), 0, rfl, rfl, by omega, ?_⟩⟩
      rw [Nat.one_mul]
      exact q'
    · rw [decide_eq_true (show par = 1 by omega)]
      simp only [h, if_false] at q'
      refine ⟨_, rfl, f + 1, 1, rfl, rfl, by omega, 1, f + 1 - 1, rfl, rfl, one, by omega, _, rfl, .inr ⟨_, rfl, 1 * 2 ^ (f + 1 - 1), 1, rfl, rfl, ?_, ?_⟩⟩
      · rw [Nat.one_mul]; exact hp0
      rw [Nat.one_mul]
      exact q'
end
end K69
set_option Elab.async false
set_option linter.all false
set_option exponentiation.threshold 2000
set_option maxRecDepth 100000
set_option maxHeartbeats 8000000
namespace K69
open PySem PySem.Spec PyProof.Rows L2 SR RZ
theorem still_thcmap (l : List Th) : stillAll (l.map dThc) = true := stillAll_map _ still_thc l
section
variable {P : Program} {w : World} {K : PySem.W.Frag} {mg : Str → Option Value} {base : Heap}
theorem dp_pairc {K : PySem.W.Frag} {H : Hp} {v : V} {p : Th × Th} (h : Dp K H v (dPc p)) : ∃ a x y, v = .ref a ∧ SqT K H a [x, y] ∧ Dp K H x (dThc p.1) ∧ Dp K H y (dThc p.2) := by
  obtain ⟨a, x, y, rfl, hs, hx, hy⟩ := Dp.pair_inv h
  exact ⟨a, x, y, rfl, hs, hx, hy⟩
theorem pairc_at {K : PySem.W.Frag} {H : Hp} {x y : V} {p : Th × Th} (hx : Dp K H x (dThc p.1)) (hy : Dp K H y (dThc p.2)) (i : Nat) (h : i < 2) : ∃ z, atI [x, y] (i : Int) = some z ∧ Dp K H z (dThc (sel p i)) := by
  match i, h with
  | 0, _ => exact ⟨x, rfl, hx⟩
  | 1, _ => exact ⟨y, rfl, hy⟩
/-! ### _law_followed -/
abbrev sFollowed : Stmt := topS 65
theorem scFollowed : FnScope ["_law_pair", "_law_rule_here", "_law_far", "_law_found", "_law_parity", "_law_index", "_law_t", "_law_side"] ["_law_pair", "_law_rule_here", "_law_far"] (defScope sFollowed) := ⟨rfl, rfl, rfl, by decide +kernel, rfl, by decide +kernel, by decide +kernel⟩
def spFollowed (K : PySem.W.Frag) : Sp := fun vs H Q _ => ∃ (v : V) (T : Th × Th) (r : Rule) (far : Nat), vs = [v, .str r.str, .int (far : Nat)] ∧ Dp K H v (dPc T) ∧ (∀ i, Good (sel T i)) ∧ (1 ≤ far ∧ far ≤ 20) ∧ (∀ i, (sel T i).d ∣ 1048576) ∧ (∀ par, (comb1 T r far par).d ∣ 1048576) ∧ Gives K H Q (dPc (combined T r far))
theorem ok_followed (B : Blt mg) (D : Df K mg "_law_followed" sFollowed ["_law_pair", "_law_rule_here", "_law_far"]) (G1 : Fx P w K mg base 1 "_law_split" ["_law_rule_here", "_law_far", "_law_parity"] spSplit) : Fx P w K mg base 2 "_law_followed" ["_law_pair", "_law_rule_here", "_law_far"] (spFollowed K) := by
  refine D.ok scFollowed (fun vs H Q E h => ?_) (fun f cdv A outer s H vs Q E hr h => ?_)
  · obtain ⟨a, b, c, d, rfl, _⟩ := h
    rfl
  obtain ⟨v, T, r, far, rfl, hd, hg, ⟨hf1, hf2⟩, hdv, hcv, q⟩ := h
  obtain ⟨ap, x, y, rfl, hs, hx, hy⟩ := dp_pairc hd
  refine ⟨_, pss_cons (ps_set (i := 3) scFollowed.nd rfl (.inl rfl) (pe_lst pa_nil))
    (pss_cons (ps_for PassesOwn.never rfl (pi_tup (pe_tup (pa_cons pe_int (pa_cons pe_int pa_nil)))) (pg_name (i := 4) scFollowed.nd rfl (.inl rfl))
      (pss_cons (ps_set (i := 5) scFollowed.nd rfl (.inl rfl) (pe_fx G1 hr (pa_cons (pv 1) (pa_cons (pv 2) (pa_cons (pv 4) pa_nil)))))
      (pss_cons (ps_asg (pe_ix ix_tup (pv 0) (pe_op op_modNat (pv 5) pe_int) (fun _ _ => rfl)) (pg_tup rfl (pgs_cons (pg_name (i := 6) scFollowed.nd rfl (.inl rfl)) (pgs_cons (pg_name (i := 7) scFollowed.nd rfl (.inl rfl)) pgs_nil))))
      (pss_one (ps_expr (pe_bm PySem.F.plainAttrs_list PySem.F.slot_list_append PySem.F.type_list_append mt_append (pv 3) (pa_cons (pe_tup (pa_cons (pe_op op_shrNat (pe_op op_addN (pe_op op_shlB (pv 5) pe_int) (pv 6)) (pv 2)) (pa_cons (pv 7) pa_nil))) pa_nil)))))))
    (pss_one (ps_ret (pe_callTy call_tuple_of (by rfl) B.tuple PyProof.Rows.boot_tuple (pa_cons (pv 3) pa_nil))))), ?_⟩
  refine ⟨Nat.zero_le _, fun L hL => ⟨(by show 2 ≤ sizeLine; decide), fun pT hpT => ?_⟩⟩
  have s0 : Same H (upd H L (.lst [])) := same_new hL _
  have s1 : Same (upd H L (.lst [])) (upd (upd H L (.lst [])) pT (.tup [.int 0, .int 1])) := same_new hpT _
  have hLT : L ≠ pT := fun e => by rw [← e, upd_same] at hpT; cases hpT
  refine ⟨pT, rfl, ⟨_, SqT.of upd_same⟩, for_tup (K := K) (a := pT) (xs := [.int 0, .int 1]) (fun i σ H1 => ∃ y4 y5 y6 y7 acc, σ = [some (.ref ap), some (.str r.str), some (.int (far : Nat)), some (.ref L), y4, y5, y6, y7] ∧ Same (upd H pT (.tup [.int 0, .int 1])) H1 ∧ H1 L = some (.lst acc) ∧ DpAll K H1 acc ((((List.range i).map fun par => comb1 T r far par)).map dThc))
    ⟨none, none, none, none, [], rfl, ?_, ?_, .nil⟩ (fun i σ H1 _ p => ?_) (fun i z σ H1 hi p => ?_) (fun σ H1 p => ?_)⟩
  · intro b u e
    by_cases hb : b = pT
    · subst hb
      rw [upd_same] at e ⊢
      exact e
    · rw [upd_ne hb] at e ⊢
      exact s0 _ _ e
  · rw [upd_ne hLT, upd_same]
  · obtain ⟨_, _, _, _, _, _, s2, _⟩ := p
    exact SqT.of (s2 _ _ upd_same)
  · obtain ⟨y4, y5, y6, y7, acc, rfl, s2, hLa, hacc⟩ := p
    have hpTH : H pT = none := s0.free hpT
    have sH : Same H H1 := (same_new hpTH _).trans s2
    have hi2 : i < 2 := (List.getElem?_eq_some_iff.mp hi).1
    have hz : z = .int (i : Nat) := by
      match i, hi2, hi with
      | 0, _, h => exact (Option.some.inj h).symm
      | 1, _, h => exact (Option.some.inj h).symm
    subst hz
    obtain ⟨f, rfl⟩ : ∃ f, far = f + 1 := ⟨far - 1, by omega⟩
    have hld := ld_lt r f i
    have hfc := fix_comb hg r (f + 1) i hdv (hcv i)
    refine ⟨_, rfl, _, rfl, _, rfl, r, f, i, rfl, by omega, hi2, fun H2 sx => ?_⟩
    have sH2 := sH.trans sx
    generalize hcc : comb1 T r (f + 1) i = cc at hfc
    have hup : cc.up = (sel T (lastDown r (f + 1) i)).up := by rw [← hcc]; rfl
    generalize hidx : lastDown r (f + 1) i = idx at hld hfc hup
    obtain ⟨z, hz1, hz2⟩ := pairc_at (Dp.same sH2 _ _ hx) (Dp.same sH2 _ _ hy) (idx % 2) (by omega)
    rw [sel_mod] at hz2
    generalize sel T idx = t at hz2 hfc hup
    obtain ⟨a, rfl, ha⟩ := dp_thc hz2
    refine ⟨_, rfl, _, rfl, idx, 2, rfl, rfl, by decide, ap, [x, y], _, .ref a, rfl, rfl, sH2.tup hs, hz1, a, _, rfl, ha, rfl, _, _, rfl, _, _, rfl, rfl, ?_⟩
    have hb : idx < 2 ^ 1000 := Nat.lt_of_lt_of_le hld (Nat.pow_le_pow_right (by decide) (by omega))
    have hLa1 := sx _ _ hLa
    refine ⟨_, rfl, .inl ⟨rfl, _, .inl (.inl hLa1)⟩, _, rfl, idx, 20, rfl, rfl, hb, by decide, _, rfl, idx * 2 ^ 20, fix t, rfl, rfl, _, rfl, idx * 2 ^ 20 + fix t, f + 1, rfl, rfl, _, rfl, (by show 2 ≤ sizeLine; decide), fun p2 hp2 => ?_⟩
    have s4 := same_new hp2 (.tup [.int (((idx * 2 ^ 20 + fix t) / 2 ^ (f + 1) : Nat) : Int), .str (side t.up)])
    have hLa2 := s4 _ _ hLa1
    refine ⟨L, acc, _, rfl, rfl, hLa2, ?_, some (.int (i : Nat)), some (.int (idx : Nat)), some (.int (fix t : Nat)), some (.str (side t.up)), _, rfl, ?_, upd_same, ?_⟩
    · rw [hacc.len, List.length_map, List.length_map, List.length_range]
      exact small1000 (by omega)
    · intro b' u e
      have : b' ≠ L := fun z => by
        subst z
        rw [upd_ne hLT, hL] at e
        cases e
      rw [upd_ne this]
      exact s4 _ _ (sx _ _ (s2 _ _ e))
    · rw [List.range_succ, List.map_append, List.map_append]
      refine app_still hLa2 (sx.trans s4) hacc ?_ (still_thcmap _) (still_thc _)
      show Dp K _ _ (dThc (comb1 T r (f + 1) i))
      rw [hcc]
      have e : fix cc = (idx * 2 ^ 20 + fix t) / 2 ^ (f + 1) := hfc.symm
      unfold dThc
      rw [e, hup]
      exact Dp.mkPair upd_same (.int _) (.str _)
  · obtain ⟨y4, y5, y6, y7, acc, rfl, s2, hLa, hacc⟩ := p
    have hpTH : H pT = none := s0.free hpT
    exact ⟨_, rfl, L, acc, rfl, .inl ⟨.inl (.inl hLa), fun p hp => q _ _ ((same_new hpTH _).trans (s2.trans (same_new hp _))) (Dp.newTup hp hacc)⟩⟩
/-! ### _law_single -/
abbrev sSingle : Stmt := topS 66
theorem scSingle : FnScope ["_law_rule_here", "_law_never", "_law_always", "_law_down", "_law_up", "_law_pairs"] ["_law_rule_here"] (defScope sSingle) := ⟨rfl, rfl, rfl, by decide +kernel, rfl, by decide +kernel, by decide +kernel⟩
def spSingle (K : PySem.W.Frag) : Sp := fun vs H Q _ => ∃ (r : Rule), vs = [.str r.str] ∧ Gives K H Q (dPc (byRule r))
theorem ok_single (D : Df K mg "_law_single" sSingle ["_law_rule_here"]) : Fx P w K mg base 1 "_law_single" ["_law_rule_here"] (spSingle K) := by
  refine D.ok scSingle (fun vs H Q E h => ?_) (fun f cdv A outer s H vs Q E hr h => ?_)
  · obtain ⟨_, rfl, _⟩ := h
    rfl
  obtain ⟨r, rfl, q⟩ := h
  have hu := hr.units
  refine ⟨_, pss_cons (ps_asg (pe_tup (pa_cons (pe_tup (pa_cons (pe_op op_shlB pe_int pe_int) (pa_cons pe_str pa_nil))) (pa_cons (pe_tup (pa_cons pe_int (pa_cons pe_str pa_nil))) (pa_cons (pe_tup (pa_cons (pe_op op_shlB pe_int pe_int) (pa_cons pe_str pa_nil))) (pa_cons (pe_tup (pa_cons (pe_op op_shlB pe_int pe_int) (pa_cons pe_str pa_nil))) pa_nil)))))
      (pg_tup rfl (pgs_cons (pg_name (i := 1) scSingle.nd rfl (.inl rfl)) (pgs_cons (pg_name (i := 2) scSingle.nd rfl (.inl rfl)) (pgs_cons (pg_name (i := 3) scSingle.nd rfl (.inl rfl)) (pgs_cons (pg_name (i := 4) scSingle.nd rfl (.inl rfl)) pgs_nil))))))
    (pss_cons (ps_set (i := 5) scSingle.nd rfl (.inl rfl) (pe_disp (pps_cons pe_str (pe_tup (pa_cons (pv 1) (pa_cons (pv 1) pa_nil))) (pps_cons pe_str (pe_tup (pa_cons (pv 2) (pa_cons (pv 2) pa_nil))) (pps_cons pe_str (pe_tup (pa_cons (pv 2) (pa_cons (pv 1) pa_nil))) pps_nil))) (by rfl) (by rfl) (fun z => nomatch z) (by decide)))
    (pss_cons (ps_expr (pe_bm PySem.F.plainAttrs_dict PySem.F.slot_dict_update PySem.F.type_dict_update mt_dupdate (pv 5) (pa_cons (pe_disp (pps_cons pe_str (pe_tup (pa_cons (pv 3) (pa_cons (pv 3) pa_nil))) (pps_cons pe_str (pe_tup (pa_cons (pv 4) (pa_cons (pv 4) pa_nil))) (pps_cons pe_str (pe_tup (pa_cons (pv 3) (pa_cons (pv 4) pa_nil))) pps_nil))) (by rfl) (by rfl) (fun z => nomatch z) (by decide)) pa_nil)))
    (pss_one (ps_ret (pe_dget (Nat.lt_of_le_of_lt (Nat.add_le_add_left (by decide : 1 ≤ 64) _) hu) (pv 5) (pv 0) (fun _ _ => rfl)))))), ?_⟩
  have one : (1 : Nat) < 2 ^ 1000 := Nat.one_lt_two_pow (by decide)
  have two : 2 ≤ sizeLine := by decide
  refine ⟨1, 20, rfl, rfl, one, by decide, two, fun a1 h1 => ⟨two, fun a2 h2 => ⟨1, 19, rfl, rfl, one, by decide, two, fun a3 h3 => ⟨1, 19, rfl, rfl, one, by decide, two, fun a4 h4 => ⟨(by show 4 ≤ sizeLine; decide), fun a5 h5 => ?_⟩⟩⟩⟩⟩
  have s1 := same_new h1 (.tup [.int ((1 * 2 ^ 20 : Nat) : Int), .str "up"])
  have s2 := same_new h2 (.tup [.int 0, .str "down"])
  have s3 := same_new h3 (.tup [.int ((1 * 2 ^ 19 : Nat) : Int), .str "down"])
  have s4 := same_new h4 (.tup [.int ((1 * 2 ^ 19 : Nat) : Int), .str "up"])
  have s5 := same_new h5 (.tup [.ref a1, .ref a2, .ref a3, .ref a4])
  refine ⟨a5, _, rfl, SqT.of upd_same, rfl, _, _, rfl, _, _, rfl, _, _, rfl, _, _, rfl, rfl, ?_⟩
  have d1 : Dp K _ (.ref a1) (dThc never) := Dp.same (s2.trans (s3.trans (s4.trans s5))) _ _ (Dp.mkPair upd_same (.int _) (.str _))
  have d2 : Dp K _ (.ref a2) (dThc always) := Dp.same (s3.trans (s4.trans s5)) _ _ (Dp.mkPair upd_same (.int _) (.str _))
  have d3 : Dp K _ (.ref a3) (dThc tieDown) := Dp.same (s4.trans s5) _ _ (Dp.mkPair upd_same (.int _) (.str _))
  have d4 : Dp K _ (.ref a4) (dThc tieUp) := Dp.same s5 _ _ (Dp.mkPair upd_same (.int _) (.str _))
  have sA := s1.trans (s2.trans (s3.trans (s4.trans s5)))
  clear s1 s2 s3 s4 s5 h1 h2 h3 h4 h5
  generalize upd (upd (upd (upd (upd H a1 (.tup [.int ((1 * 2 ^ 20 : Nat) : Int), .str "up"])) a2 (.tup [.int 0, .str "down"])) a3 (.tup [.int ((1 * 2 ^ 19 : Nat) : Int), .str "down"])) a4 (.tup [.int ((1 * 2 ^ 19 : Nat) : Int), .str "up"])) a5 (.tup [.ref a1, .ref a2, .ref a3, .ref a4]) = H5 at d1 d2 d3 d4 sA
  refine fun p6 h6 => ⟨_, rfl, _, rfl, two, fun b1 k1 => ⟨_, rfl, _, rfl, two, fun b2 k2 => ⟨_, rfl, _, rfl, two, fun b3 k3 => ?_⟩⟩⟩
  have t6 := same_new h6 (.dK [])
  have t1 := same_new k1 (.tup [.ref a1, .ref a1])
  have t2 := same_new k2 (.tup [.ref a2, .ref a2])
  have t3 := same_new k3 (.tup [.ref a2, .ref a1])
  refine ⟨(t1.trans (t2.trans t3)) _ _ upd_same, [(.inr "down", .ref b1), (.inr "up", .ref b2), (.inr "odd", .ref b3)], rfl, (by show 3 ≤ 15; decide), ?_⟩
  have n1 : b1 ≠ p6 := fun e => by rw [e, upd_same] at k1; cases k1
  have n2 : b2 ≠ p6 := fun e => by rw [e, t1 _ _ upd_same] at k2; cases k2
  have n3 : b3 ≠ p6 := fun e => by rw [e, (t1.trans t2) _ _ upd_same] at k3; cases k3
  have sG : Same H5 (upd (upd (upd (upd (upd H5 p6 (.dK [])) b1 (.tup [.ref a1, .ref a1])) b2 (.tup [.ref a2, .ref a2])) b3 (.tup [.ref a2, .ref a1])) p6 (.dK (mergeK [] [(.inr "down", .ref b1), (.inr "up", .ref b2), (.inr "odd", .ref b3)]))) := (t6.trans (t1.trans (t2.trans t3))).put h6
  generalize hG : upd (upd (upd (upd (upd H5 p6 (.dK [])) b1 (.tup [.ref a1, .ref a1])) b2 (.tup [.ref a2, .ref a2])) b3 (.tup [.ref a2, .ref a1])) p6 (.dK (mergeK [] [(.inr "down", .ref b1), (.inr "up", .ref b2), (.inr "odd", .ref b3)])) = G at sG
  have g1 : G b1 = some (.tup [.ref a1, .ref a1]) := by rw [← hG, upd_ne n1]; exact (t2.trans t3) _ _ upd_same
  have g2 : G b2 = some (.tup [.ref a2, .ref a2]) := by rw [← hG, upd_ne n2]; exact t3 _ _ upd_same
  have g3 : G b3 = some (.tup [.ref a2, .ref a1]) := by rw [← hG, upd_ne n3]; exact upd_same
  have g6 : G p6 = some (.dK (mergeK [] [(.inr "down", .ref b1), (.inr "up", .ref b2), (.inr "odd", .ref b3)])) := by rw [← hG]; exact upd_same
  clear hG t6 t1 t2 t3 k1 k2 k3
  refine ⟨_, rfl, .inr (.inr (.inl ⟨rfl, .inl ⟨_, g6⟩⟩)), fun p7 h7 => ⟨_, rfl, _, rfl, two, fun c1 k1 => ⟨_, rfl, _, rfl, two, fun c2 k2 => ⟨_, rfl, _, rfl, two, fun c3 k3 => ?_⟩⟩⟩⟩
  have t6 := same_new h7 (.dK [])
  have t1 := same_new k1 (.tup [.ref a3, .ref a3])
  have t2 := same_new k2 (.tup [.ref a4, .ref a4])
  have t3 := same_new k3 (.tup [.ref a3, .ref a4])
  have m1 : c1 ≠ p7 := fun e => by rw [e, upd_same] at k1; cases k1
  have m2 : c2 ≠ p7 := fun e => by rw [e, t1 _ _ upd_same] at k2; cases k2
  have m3 : c3 ≠ p7 := fun e => by rw [e, (t1.trans t2) _ _ upd_same] at k3; cases k3
  have n7 : p6 ≠ p7 := fun e => by rw [← e, g6] at h7; cases h7
  have o1 : c1 ≠ p6 := fun e => by rw [e, t6 _ _ g6] at k1; cases k1
  have o2 : c2 ≠ p6 := fun e => by rw [e, (t6.trans t1) _ _ g6] at k2; cases k2
  have o3 : c3 ≠ p6 := fun e => by rw [e, (t6.trans (t1.trans t2)) _ _ g6] at k3; cases k3
  have sF := (t6.trans (t1.trans (t2.trans t3)))
  generalize hG2 : upd (upd (upd (upd G p7 (.dK [])) c1 (.tup [.ref a3, .ref a3])) c2 (.tup [.ref a4, .ref a4])) c3 (.tup [.ref a3, .ref a4]) = G2 at sF
  have e1 : G2 c1 = some (.tup [.ref a3, .ref a3]) := by rw [← hG2]; exact (t2.trans t3) _ _ upd_same
  have e2 : G2 c2 = some (.tup [.ref a4, .ref a4]) := by rw [← hG2]; exact t3 _ _ upd_same
  have e3 : G2 c3 = some (.tup [.ref a3, .ref a4]) := by rw [← hG2]; exact upd_same
  have e7 : G2 p7 = some (.dK []) := by rw [← hG2]; exact (t1.trans (t2.trans t3)) _ _ upd_same
  clear hG2 t6 t1 t2 t3 k1 k2 k3
  refine ⟨e7, [(.inr "half_down", .ref c1), (.inr "half_up", .ref c2), (.inr "half_even", .ref c3)], rfl, (by show 3 ≤ 15; decide), p6, p7, mergeK [] [(.inr "down", .ref b1), (.inr "up", .ref b2), (.inr "odd", .ref b3)], _, rfl, rfl, n7, ?_, upd_same, Nat.le_trans (Nat.add_le_add (length_mergeK _ _) (length_mergeK _ _)) (by show 6 ≤ sizeLine; decide), ?_⟩
  · rw [upd_ne n7]
    exact sF _ _ g6
  have sH : ∀ o o2, Same H5 (upd (upd G2 p7 o) p6 o2) := fun o o2 => ((sG.trans sF).trans (Same.refl _) |>.trans (Same.refl _) |> fun s => by
    intro b u e
    have hb6 : b ≠ p6 := fun z => by rw [z, h6] at e; cases e
    have hb7 : b ≠ p7 := fun z => by have := sG _ _ e; rw [z, h7] at this; cases this
    rw [upd_ne hb6, upd_ne hb7]
    exact s _ _ e)
  have at1 : ∀ {b : Addr} {x y : V} {t u : Th} (o o2 : HO), b ≠ p6 → b ≠ p7 → G2 b = some (.tup [x, y]) → Dp K H5 x (dThc t) → Dp K H5 y (dThc u) → Dp K (upd (upd G2 p7 o) p6 o2) (.ref b) (dPc (t, u)) := fun o o2 hb6 hb7 hb hx hy =>
    Dp.mkPair (by rw [upd_ne hb6, upd_ne hb7]; exact hb) (Dp.same (sH o o2) _ _ hx) (Dp.same (sH o o2) _ _ hy)
  have q7 : ∀ {b : Addr}, b ≠ p6 → ∀ {u}, G b = some u → b ≠ p7 := fun _ _ hb e => by rw [e, h7] at hb; cases hb
  refine ⟨_, rfl, _, rfl, p6, ?_⟩
  cases r with
  | down => exact ⟨.ref b1, rfl, .inl ⟨_, .inr "down", .inl upd_same, rfl, rfl⟩, q _ _ (sA.trans (sH _ _)) (at1 _ _ n1 (q7 n1 g1) (sF _ _ g1) d1 d1)⟩
  | up => exact ⟨.ref b2, rfl, .inl ⟨_, .inr "up", .inl upd_same, rfl, rfl⟩, q _ _ (sA.trans (sH _ _)) (at1 _ _ n2 (q7 n2 g2) (sF _ _ g2) d2 d2)⟩
  | odd => exact ⟨.ref b3, rfl, .inl ⟨_, .inr "odd", .inl upd_same, rfl, rfl⟩, q _ _ (sA.trans (sH _ _)) (at1 _ _ n3 (q7 n3 g3) (sF _ _ g3) d2 d1)⟩
  | hdown => exact ⟨.ref c1, rfl, .inl ⟨_, .inr "half_down", .inl upd_same, rfl, rfl⟩, q _ _ (sA.trans (sH _ _)) (at1 _ _ o1 m1 e1 d3 d3)⟩
  | hup => exact ⟨.ref c2, rfl, .inl ⟨_, .inr "half_up", .inl upd_same, rfl, rfl⟩, q _ _ (sA.trans (sH _ _)) (at1 _ _ o2 m2 e2 d4 d4)⟩
  | heven => exact ⟨.ref c3, rfl, .inl ⟨_, .inr "half_even", .inl upd_same, rfl, rfl⟩, q _ _ (sA.trans (sH _ _)) (at1 _ _ o3 m3 e3 d3 d4)⟩
end
end K69
set_option Elab.async false
set_option linter.all false
set_option exponentiation.threshold 2000
set_option maxRecDepth 100000
set_option maxHeartbeats 8000000
namespace K69
open PySem PySem.Spec PyProof.Rows L2 SR RZ
theorem toC_ge : ∀ (gs : List (Nat × Rule)) (w : Nat) (r : Rule) (x : SR.Step), x ∈ toC w r gs → w ≤ x.1
  | [], w, r, x, hx => by unfold toC at hx; simp at hx; subst hx; exact Nat.le_refl _
  | q :: gs, w, r, x, hx => by
    unfold toC at hx
    rcases List.mem_append.mp hx with hx | hx
    · have := toC_ge gs _ _ _ hx; omega
    · simp at hx; subst hx; exact Nat.le_refl _
theorem toC_last (gs : List (Nat × Rule)) (w : Nat) (r : Rule) : (toC w r gs).getLast? = some (w, r) := by
  cases gs with
  | nil => rfl
  | cons p gs => unfold toC; simp
theorem comb1_mod (P : Th × Th) (r : Rule) (f par : Nat) : comb1 P r f (par % 2) = comb1 P r f par := by
  unfold comb1
  simp only
  rw [ld_mod]
theorem comb1_T (r r' : Rule) (g : Nat) (gs : List (Nat × Rule)) (par : Nat) : comb1 (T r' gs) r g par = sel (T r ((g, r') :: gs)) par := by
  show _ = sel (combined (T r' gs) r g) par
  rw [comb1_sel, comb1_mod]
section
variable {P : Program} {w : World} {K : PySem.W.Frag} {mg : Str → Option Value} {base : Heap}
/-! ### _law_of_chain -/
abbrev sOf : Stmt := topS 67
theorem scOf : FnScope ["_law_chain_here", "_law_pair", "_law_wider", "_law_ahead", "_law_width", "_law_rule_here"] ["_law_chain_here"] (defScope sOf) := ⟨rfl, rfl, rfl, by decide +kernel, rfl, by decide +kernel, by decide +kernel⟩
def spOf (K : PySem.W.Frag) : Sp := fun vs H Q _ => ∃ (v : V) (wd : Nat) (r : Rule) (gs : List (Nat × Rule)), vs = [v] ∧ Dp K H v (dChain (toC wd r gs)) ∧ GapsOk gs ∧ total gs ≤ 19 ∧ Gives K H Q (dWc (wantedOf wd (T r gs)))
theorem ok_of (B : Blt mg) (D : Df K mg "_law_of_chain" sOf ["_law_chain_here"]) (G1 : Fx P w K mg base 1 "_law_single" ["_law_rule_here"] (spSingle K)) (G2 : Fx P w K mg base 2 "_law_followed" ["_law_pair", "_law_rule_here", "_law_far"] (spFollowed K)) : Fx P w K mg base 3 "_law_of_chain" ["_law_chain_here"] (spOf K) := by
  refine D.ok scOf (fun vs H Q E h => ?_) (fun f cdv A outer s H vs Q E hr h => ?_)
  · obtain ⟨_, _, _, _, rfl, _⟩ := h
    rfl
  obtain ⟨v, wd, r, gs, rfl, hd, hg, htot, q⟩ := h
  obtain ⟨a, xs, rfl, hs, hx⟩ := dp_chain hd
  have hl : xs.length = gs.length + 1 := by rw [hx.len, List.length_map, toC_len]
  have hne : xs ≠ [] := fun e => by rw [e] at hl; simp at hl
  obtain ⟨st, rest, ec, ew⟩ := toC_head gs wd r
  have e0 : (toC wd r gs)[0]? = some st := by rw [ec]; rfl
  obtain ⟨x0, hx0, hdx0⟩ := dpc_at hx e0
  obtain ⟨b, rfl, hb⟩ := dp_step hdx0
  refine ⟨_, pss_cons (ps_set (i := 1) scOf.nd rfl (.inl rfl) (pe_fx G1 (hr.mono (by decide)) (pa_cons (pe_ix (r := rIxT K) ix_tup (pe_ix (r := rIxT K) ix_tup (pv 0) pe_int (fun _ _ => rfl)) pe_int (fun _ _ => rfl)) pa_nil)))
    (pss_cons (ps_for PassesOwn.never rfl (pi_zipA (by rfl) B.zip (pa_cons (pv 0) (pa_cons (pe_slice sl_tupA (pv 0) (po_some pe_int) po_none) pa_nil)))
        (pg_tup rfl (pgs_cons (pg_tup rfl (pgs_cons (pg_name (i := 2) scOf.nd rfl (.inl rfl)) (pgs_cons (pg_name (i := 3) scOf.nd rfl (.inl rfl)) pgs_nil))) (pgs_cons (pg_tup rfl (pgs_cons (pg_name (i := 4) scOf.nd rfl (.inl rfl)) (pgs_cons (pg_name (i := 5) scOf.nd rfl (.inl rfl)) pgs_nil))) pgs_nil)))
      (pss_one (ps_set (i := 1) scOf.nd rfl (.inl rfl) (pe_fx G2 hr (pa_cons (pv 1) (pa_cons (pv 5) (pa_cons (pe_op op_subN (pv 2) (pv 4)) pa_nil)))))))
    (pss_one (ps_ret (pe_ifExp (pt_cmpR op_gt (pe_ix (r := rIxT K) ix_tup (pe_ix (r := rIxT K) ix_tup (pv 0) (pe_un un_neg pe_int) (fun _ _ => rfl)) pe_int (fun _ _ => rfl)) pe_int (nomark _)) (pv 1) (pe_tup (pa_cons pe_non (pa_cons (pe_ix (r := rIxT K) ix_tup (pv 1) pe_int (fun _ _ => rfl)) pa_nil))))))), ?_⟩
  refine ⟨_, rfl, a, xs, 0, .ref b, rfl, rfl, hs, atI_nat hx0, b, _, 1, .str st.2.str, rfl, rfl, hb, rfl, st.2, rfl, fun vp H1 s1 hvp => ?_⟩
  refine ⟨_, rfl, _, rfl, _, rfl, a, xs, rfl, s1.tup hs, fun hw => absurd hw (not_whole1 (by omega)), fun _ p hp => ?_⟩
  rw [cut_from1 xs hne]
  have s2 : Same H1 (upd H1 p (.tup (xs.drop 1))) := same_new hp _
  have hgt : min xs.length (xs.drop 1).length = gs.length := by rw [List.length_drop]; omega
  refine ⟨a, p, xs, xs.drop 1, rfl, .inr ⟨(s1.trans s2).tup hs, SqT.of upd_same, for_it (walk_zipT (K := K) (a := a) (b := p) (xs := xs) (ys := xs.drop 1) (n := gs.length) hgt.symm) (fun i σ H2 => ∃ F y2 y3 y4 y5, σ = [some (.ref a), some F, y2, y3, y4, y5] ∧ Same (upd H1 p (.tup (xs.drop 1))) H2 ∧ Dp K H2 F (dPc (thrF ((toC wd r gs).take (i + 1))).1))
    ⟨vp, _, _, _, _, rfl, Same.refl _, ?_⟩ (fun i σ H2 _ p => ?_) (fun i z σ H2 H3 hi p hy => ?_) (fun σ H2 p => ?_)⟩⟩
  · rw [ec]; exact Dp.same s2 _ _ hvp
  · obtain ⟨_, _, _, _, _, _, s3, _⟩ := p
    exact ⟨((s1.trans s2).trans s3).tup hs, SqT.of (s3 _ _ upd_same)⟩
  · obtain ⟨F, y2, y3, y4, y5, rfl, s3, hF⟩ := p
    obtain ⟨pT, u1, u2, rfl, hT, rfl, e1, e2⟩ := hy
    dsimp only at e1 e2
    rw [List.getElem?_drop, Nat.add_comm] at e2
    obtain ⟨sa, a1, a2⟩ := dpc_get hx e1
    obtain ⟨sb, b1, b2⟩ := dpc_get hx e2
    have hi' := (List.getElem?_eq_some_iff.mp b1).1
    rw [toC_len] at hi'
    have et : (toC wd r gs).take (i + 2) = (toC wd r gs).take (i + 1) ++ [sb] := by rw [List.take_add_one, b1]; rfl
    have ea : ((toC wd r gs).take (i + 1)).getLast? = some sa := by rw [List.take_add_one, a1]; simp
    obtain ⟨w2, r2, gs2, t1, t2, t3, t4⟩ := toC_take gs r wd (i + 2) (by omega) (by omega) hg
    rw [et] at t1
    obtain ⟨g, r3, gs3, rfl, rfl, t5⟩ := toC_snoc t1 (by
      intro z
      have := congrArg List.length z
      rw [List.length_take, toC_len] at this
      simp at this)
    have hg3 : GapsOk gs3 := fun p hp => t2 p (List.mem_cons_of_mem _ hp)
    have hg1 : 1 ≤ g := t2 (g, r3) List.mem_cons_self
    have htot0 : total ((g, r3) :: gs3) = g + total gs3 := by unfold total; rw [List.map_cons, List.sum_cons]
    have hge := toC_ge gs wd r (w2, r2) (List.mem_of_getElem? b1)
    have htot2 : total ((g, r3) :: gs3) ≤ 19 := by
      have : w2 ≥ wd := hge
      omega
    rw [t5, toC_last] at ea
    obtain rfl := Option.some.inj ea
    have sT : Same H2 (upd H2 pT (.tup [u1, u2])) := same_new hT _
    have sAll := ((s1.trans s2).trans s3).trans sT
    obtain ⟨ba, rfl, hba⟩ := dp_step (Dp.same sAll _ _ a2)
    obtain ⟨bb, rfl, hbb⟩ := dp_step (Dp.same sAll _ _ b2)
    rw [t5, thrF_toC] at hF
    refine ⟨pT, _, rfl, SqT.of upd_same, rfl, _, _, rfl, ba, _, rfl, hba, rfl, _, _, rfl, _, _, rfl, rfl, _, _, rfl, bb, _, rfl, hbb, rfl, _, _, rfl, _, _, rfl, rfl, rfl, ?_⟩
    refine ⟨_, rfl, _, rfl, _, rfl, _, rfl, w2 + g, w2, rfl, rfl, by omega, F, T r3 gs3, r2, g, ?_, Dp.same sT _ _ hF, good_T gs3 r3 hg3, ⟨hg1, by omega⟩, T_dvd20 r3 (by omega), fun par => ?_, fun F2 H4 s4 hF2 => ?_⟩
    · rw [Nat.add_sub_cancel_left]; rfl
    · rw [comb1_T]
      exact T_dvd20 r2 htot2 par
    · rw [show i + 1 + 1 = i + 2 from rfl, et, t1, thrF_toC]
      exact ⟨F2, _, _, _, _, rfl, (s3.trans sT).trans s4, hF2⟩
  · obtain ⟨F, y2, y3, y4, y5, rfl, s3, hF⟩ := p
    have ef : (toC wd r gs).take (gs.length + 1) = toC wd r gs := List.take_of_length_le (by rw [toC_len]; exact Nat.le_refl _)
    rw [ef, thrF_toC] at hF
    have sAll := (s1.trans s2).trans s3
    obtain ⟨xl, hxl, hdl⟩ := dpc_at hx (show (toC wd r gs)[gs.length]? = some (wd, r) by
      have := toC_last gs wd r
      rw [List.getLast?_eq_getElem?, toC_len, Nat.add_sub_cancel] at this
      exact this)
    obtain ⟨bl, rfl, hbl⟩ := dp_step (Dp.same sAll _ _ hdl)
    have hneg : atI xs (-1) = some (.ref bl) := by
      have h0 := hxl
      unfold atI ixN
      rw [if_neg (by decide), if_pos (by omega), hl]
      show xs[(-1 + ((gs.length + 1 : Nat) : Int)).toNat]? = _
      rw [show (-1 + ((gs.length + 1 : Nat) : Int)).toNat = gs.length by omega]
      exact hxl
    refine ⟨_, rfl, _, rfl, a, xs, -1, .ref bl, rfl, rfl, sAll.tup hs, hneg, bl, _, 0, .int (wd : Nat), rfl, rfl, hbl, rfl, _, _, rfl, rfl, _, rfl, ?_⟩
    unfold wantedOf at q
    by_cases hw : wd > 1
    · rw [decide_eq_true (show (1 : Int) < ((wd : Nat) : Int) by omega)]
      rw [if_pos hw] at q
      exact iteT ⟨_, rfl, q _ _ sAll hF⟩
    · rw [decide_eq_false (show ¬ (1 : Int) < ((wd : Nat) : Int) by omega)]
      rw [if_neg hw] at q
      obtain ⟨aF, xF, yF, rfl, hsF, hxF, hyF⟩ := dp_pairc hF
      refine iteF ⟨_, rfl, aF, _, _, yF, rfl, rfl, hsF, rfl, (by show 2 ≤ sizeLine; decide), fun p2 hp2 => ?_⟩
      exact q _ _ (sAll.trans (same_new hp2 _)) (Dp.newTup hp2 (.cons .non (.cons hyF .nil)))
end
end K69
set_option Elab.async false
set_option linter.all false
set_option exponentiation.threshold 2000
set_option maxRecDepth 100000
set_option maxHeartbeats 8000000
namespace K69
open PySem PySem.Spec PyProof.Rows L2 SR RZ
/-- chains of n steps down to the width `last`, none wider than `widest` -/
def AllOk (last n widest : Nat) (c : Chain) : Prop := ∃ r gs, c = toC last r gs ∧ GapsOk gs ∧ gs.length + 1 = n ∧ last + total gs ≤ max last widest
theorem AllOk.front {last n widest width : Nat} {c : Chain} {r : Rule} {gs : List (Nat × Rule)} (e : c = toC last r gs) (g : GapsOk gs) (hl : gs.length + 1 = n) (r' : Rule) (h1 : last + total gs + 1 ≤ width) (h2 : width ≤ widest) : AllOk last (n + 1) widest ((width, r') :: c) := by
  refine ⟨r, gs ++ [(width - (last + total gs), r')], ?_, ?_, ?_, ?_⟩
  · rw [toC_front, e]
    rw [show last + total gs + (width - (last + total gs)) = width by omega]
  · intro p hp
    rcases List.mem_append.mp hp with hp | hp
    · exact g p hp
    · rw [List.mem_singleton.mp hp]
      show 1 ≤ width - (last + total gs)
      omega
  · rw [List.length_append]; simp only [List.length_singleton]; omega
  · rw [total_app]; omega
abbrev rulesV : List V := rules.map fun r => V.str r.str
section
variable {P : Program} {w : World} {K : PySem.W.Frag} {mg : Str → Option Value} {base : Heap}
abbrev sAll : Stmt := topS 68
theorem scAll : FnScope ["_law_last", "_law_count", "_law_widest", "_law_rules", "_law_found", "_law_rule_here", "_law_turn", "_law_longer", "_law_chain_here", "_law_width"] ["_law_last", "_law_count", "_law_widest"] (defScope sAll) := ⟨rfl, rfl, rfl, by decide +kernel, rfl, by decide +kernel, by decide +kernel⟩
def spAll (K : PySem.W.Frag) : Sp := fun vs H Q _ => ∃ last n widest : Nat, vs = [.int (last : Nat), .int (n : Nat), .int (widest : Nat)] ∧ 1 ≤ n ∧ n ≤ 3 ∧ widest ≤ last + 20 ∧ last ≤ 100 ∧
  ∀ v H' (cs : List Chain), Same H H' → Dp K H' v (.list (cs.map dChain)) → cs.length ≤ 3000000 → (∀ c ∈ cs, AllOk last n widest c) → Q v H'
theorem ok_all (B : Blt mg) (D : Df K mg "_law_all" sAll ["_law_last", "_law_count", "_law_widest"]) : Fx P w K mg base 1 "_law_all" ["_law_last", "_law_count", "_law_widest"] (spAll K) := by
  refine D.ok scAll (fun vs H Q E h => ?_) (fun f cdv A outer s H vs Q E hr h => ?_)
  · obtain ⟨_, _, _, rfl, _⟩ := h
    rfl
  obtain ⟨last, n, widest, rfl, hn1, hn3, hwi, hla, q⟩ := h
  refine ⟨_, pss_cons (ps_set (i := 3) scAll.nd rfl (.inl rfl) (pe_lst (pa_cons pe_str (pa_cons pe_str (pa_cons pe_str (pa_cons pe_str (pa_cons pe_str (pa_cons pe_str pa_nil))))))))
    (pss_cons (ps_setLc (i := 4) (own := [("_law_rule_here", 5)]) (g := gName 5) (tt := tYes) rfl scAll.nd rfl rfl (sw_true rfl rfl rfl (by decide +kernel)) (pi_list (pv 3)) (blkOk_by (N := ["_law_last", "_law_count", "_law_widest", "_law_rules", "_law_found", "_law_rule_here", "_law_turn", "_law_longer", "_law_chain_here", "_law_width"]) (sc := defScope sAll) (by decide +kernel))
      (fun _ _ _ _ _ => pg_name (i := 5) scAll.nd rfl (Or.inl rfl) (hf := Or.inr rfl)) (fun _ _ _ _ _ => pts_nil) (fun _ _ _ _ _ => pe_tup (pa_cons (pe_tup (pa_cons (pv 0) (pa_cons (pv 5) pa_nil))) pa_nil)))
    (pss_cons (ps_for PassesOwn.never rfl (pi_range1 (by rfl) B.range (pa_cons (pe_op op_subN (pv 1) pe_int) pa_nil)) (pg_name (i := 6) scAll.nd rfl (.inl rfl))
      (pss_cons (ps_set (i := 7) scAll.nd rfl (.inl rfl) (pe_lst pa_nil))
      (pss_cons (ps_for PassesOwn.never rfl (pi_list (pv 4)) (pg_name (i := 8) scAll.nd rfl (.inr rfl))
        (pss_one (ps_for PassesOwn.never rfl (pi_range2 (by rfl) B.range (pa_cons (pe_op op_addN (pe_ix (r := rIxT K) ix_tup (pe_ix (r := rIxT K) ix_tup (pv 8) pe_int (fun _ _ => rfl)) pe_int (fun _ _ => rfl)) pe_int) (pa_cons (pe_op op_addN (pv 2) pe_int) pa_nil))) (pg_name (i := 9) scAll.nd rfl (.inr rfl))
          (pss_one (ps_expr (pe_bm PySem.F.plainAttrs_list PySem.F.slot_list_extend PySem.F.type_list_extend mt_extend (pv 7) (pa_cons (pe_lc (own := [("_law_rule_here", 5)]) (g := gName 5) (tt := tYes) rfl scAll.nd (pi_list (pv 3)) (blkOk_by (N := ["_law_last", "_law_count", "_law_widest", "_law_rules", "_law_found", "_law_rule_here", "_law_turn", "_law_longer", "_law_chain_here", "_law_width"]) (sc := defScope sAll) (by decide +kernel))
            (fun _ _ _ _ _ => pg_name (i := 5) scAll.nd rfl (Or.inl rfl) (hf := Or.inr rfl)) (fun _ _ _ _ _ => pts_nil) (fun _ _ _ _ _ => pe_op (r := rCatA K) op_catA (pe_tup (pa_cons (pe_tup (pa_cons (pv 9) (pa_cons (pv 5) pa_nil))) pa_nil)) (pv 8))) pa_nil)))))))
      (pss_one (ps_set (i := 4) scAll.nd rfl (.inl rfl) (pv 7))))))
    (pss_one (ps_ret (pv 4))))), ?_⟩
  refine ⟨(by show 6 ≤ sizeLine; decide), fun aR hR => ?_⟩
  have sR := same_new hR (.lst rulesV)
  refine ⟨_, rfl, aR, rfl, ⟨_, SqL.of upd_same⟩, fun L0 hL0 => lc_list (K := K) (a := aR) (xs := rulesV) (fun i H1 => Same (upd H aR (.lst rulesV)) H1 ∧ ∃ acc, H1 L0 = some (.lst acc) ∧ DpAll K H1 acc ((rules.take i).map fun r => dChain [(last, r)])) ⟨same_new hL0 _, [], upd_same, .nil⟩ (fun i H1 _ p => SqL.of (p.1 _ _ upd_same)) (fun i z H1 hi p => ?_) (fun H1 p => ?_)⟩
  · obtain ⟨s1, acc, hL, hacc⟩ := p
    rw [List.getElem?_map] at hi
    cases hri : rules[i]? with
    | none => rw [hri] at hi; cases hi
    | some r =>
    rw [hri] at hi
    obtain rfl : V.str r.str = z := Option.some.inj hi
    refine ⟨rfl, _, rfl, _, rfl, (by show 2 ≤ sizeLine; decide), fun p1 hp1 => ⟨(by show 1 ≤ sizeLine; decide), fun p2 hp2 => ?_⟩⟩
    have s2 := same_new hp1 (.tup [.int (last : Nat), .str r.str])
    have s3 := same_new hp2 (.tup [.ref p1])
    have s23 := s2.trans s3
    refine ⟨acc, s23 _ _ hL, ?_, (s1.trans s23).put hL0, _, upd_same, ?_⟩
    · rw [hacc.len, List.length_map, List.length_take, rules_len]
      exact small1000 (by omega)
    · have et : rules.take (i + 1) = rules.take i ++ [r] := by rw [List.take_add_one, hri]; rfl
      rw [et, List.map_append]
      exact app_still (s23 _ _ hL) s23 hacc (Dp.tup (SqT.of upd_same) (.cons (Dp.same s3 _ _ (Dp.mkPair upd_same (.int _) (.str _))) .nil)) (stillAll_map _ (fun r => still_chain _) _) (still_chain _)
  obtain ⟨s1, acc0, hL, hacc0⟩ := p
  have htk : rules.take (rulesV).length = rules := rfl
  rw [htk] at hacc0
  have hRr : H1 aR = some (.lst rulesV) := s1 _ _ upd_same
  have sH1 : Same H H1 := sR.trans s1
  refine ⟨_, rfl, n, 1, rfl, rfl, hn1, _, rfl, by omega, by omega, ?_⟩
  rw [Int.toNat_natCast]
  refine for_range (lo := 0) (n := n - 1) (fun k σ H2 => ∃ a y6 y7 y8 y9 xs cs, σ = [some (.int (last : Nat)), some (.int (n : Nat)), some (.int (widest : Nat)), some (.ref aR), some (.ref a), none, y6, y7, y8, y9] ∧ Same H1 H2 ∧ H2 a = some (.lst xs) ∧ DpAll K H2 xs (cs.map dChain) ∧ (∀ c ∈ cs, AllOk last (k + 1) widest c) ∧ cs.length ≤ 6 * 144 ^ k)
    ⟨L0, none, none, none, none, acc0, rules.map fun r => [(last, r)], rfl, Same.refl _, hL, ?_, ?_, ?_⟩ (fun k σ H2 hk p => ?_) (fun σ H2 p => ?_)
  · rw [List.map_map]; exact hacc0
  · intro c hc
    obtain ⟨r, _, rfl⟩ := List.mem_map.mp hc
    exact ⟨r, [], rfl, (fun p hp => nomatch hp), rfl, by simp [total]; omega⟩
  · rw [List.length_map, rules_len]; decide
  · obtain ⟨a, y6, y7, y8, y9, xs, cs, rfl, s2, ha, hxs, hcs, hlen⟩ := p
    have hk1 : k ≤ 1 := by omega
    have hcl : cs.length ≤ 864 := by
      have h3 : 144 ^ k ≤ 144 ^ 1 := Nat.pow_le_pow_right (by decide) hk1
      have h4 : 6 * 144 ^ k ≤ 6 * 144 ^ 1 := Nat.mul_le_mul_left _ h3
      have : 6 * 144 ^ 1 = 864 := by decide
      omega
    have hxl : xs.length = cs.length := by rw [hxs.len, List.length_map]
    refine ⟨Nat.zero_le _, fun L hL2 => ?_⟩
    have hLa : L ≠ a := fun e => by rw [e, ha] at hL2; cases hL2
    have sL := same_new hL2 (.lst [])
    refine ⟨_, rfl, a, rfl, ⟨_, SqL.of (sL _ _ ha)⟩, for_list (K := K) (a := a) (xs := xs) (fun i σ H3 => ∃ y6 y8 y9 acc ds, σ = [some (.int (last : Nat)), some (.int (n : Nat)), some (.int (widest : Nat)), some (.ref aR), some (.ref a), none, y6, some (.ref L), y8, y9] ∧ Same H2 H3 ∧ H3 L = some (.lst acc) ∧ DpAll K H3 acc (ds.map dChain) ∧ (∀ c ∈ ds, AllOk last (k + 2) widest c) ∧ ds.length ≤ i * 144)
      ⟨_, _, _, [], [], rfl, sL, upd_same, .nil, (fun c hc => nomatch hc), Nat.zero_le _⟩ (fun i σ H3 _ p => ?_) (fun i x σ H3 hi p => ?_) (fun σ H3 p => ?_)⟩
    · obtain ⟨_, _, _, _, _, _, s3, _⟩ := p
      exact SqL.of (s3 _ _ ha)
    · obtain ⟨y6, y8, y9, acc, ds, rfl, s3, hL3, hacc, hds, hdl⟩ := p
      have hi864 : i < 864 := by
        have := (List.getElem?_eq_some_iff.mp hi).1
        omega
      obtain ⟨c, hc, hcx⟩ : ∃ c, cs[i]? = some c ∧ Dp K H2 x (dChain c) := by
        obtain ⟨d, e1, e2⟩ := hxs.get hi
        rw [List.getElem?_map] at e1
        cases hci : cs[i]? with
        | none => rw [hci] at e1; cases e1
        | some c =>
          rw [hci] at e1
          cases e1
          exact ⟨c, rfl, e2⟩
      obtain ⟨r0, gs, rfl, hg, hgl, hgt⟩ := hcs c (List.mem_of_getElem? hc)
      obtain ⟨st, rest, ec, ew⟩ := toC_head gs last r0
      obtain ⟨ac, xc, rfl, hsc, hxc⟩ := dp_chain hcx
      obtain ⟨x0, hx0, hdx0⟩ := dpc_at hxc (show (toC last r0 gs)[0]? = some st by rw [ec]; rfl)
      obtain ⟨b, rfl, hb⟩ := dp_step (Dp.same s3 _ _ hdx0)
      have hxcl : xc.length = gs.length + 1 := by rw [hxc.len, List.length_map, toC_len]
      refine ⟨_, rfl, ac, xc, 0, .ref b, rfl, rfl, s3.tup hsc, atI_nat hx0, b, _, 0, .int (st.1 : Nat), rfl, rfl, hb, rfl, st.1, 1, rfl, rfl, _, rfl, widest, 1, rfl, rfl, _, _, rfl, ⟨by omega, by omega, by omega, by omega⟩, ?_⟩
      have hJ : (((widest + 1 : Nat) : Int) - ((st.1 + 1 : Nat) : Int)).toNat ≤ 20 := by omega
      have hJ2 : ∀ j, j < (((widest + 1 : Nat) : Int) - ((st.1 + 1 : Nat) : Int)).toNat → st.1 + 1 + j ≤ widest := fun j hj => by omega
      generalize (((widest + 1 : Nat) : Int) - ((st.1 + 1 : Nat) : Int)).toNat = J at hJ hJ2
      refine for_range (lo := ((st.1 + 1 : Nat) : Int)) (n := J) (fun j σ H4 => ∃ y6 y9 acc ds, σ = [some (.int (last : Nat)), some (.int (n : Nat)), some (.int (widest : Nat)), some (.ref aR), some (.ref a), none, y6, some (.ref L), some (.ref ac), y9] ∧ Same H2 H4 ∧ H4 L = some (.lst acc) ∧ DpAll K H4 acc (ds.map dChain) ∧ (∀ c ∈ ds, AllOk last (k + 2) widest c) ∧ ds.length ≤ i * 144 + j * 6)
        ⟨_, _, acc, ds, rfl, s3, hL3, hacc, hds, by omega⟩ (fun j σ H4 hj p => ?_) (fun σ H4 p => ?_)
      · obtain ⟨y6, y9, acc, ds, rfl, s4, hL4, hacc, hds, hdl⟩ := p
        have hwj := hJ2 j hj
        rw [show ((st.1 + 1 : Nat) : Int) + (j : Int) = ((st.1 + 1 + j : Nat) : Int) by omega]
        generalize hwd : st.1 + 1 + j = wj at hwj
        have hR4 : H4 aR = some (.lst rulesV) := s4 _ _ (s2 _ _ hRr)
        refine ⟨_, rfl, .inl ⟨rfl, _, SqL.of hL4⟩, _, rfl, aR, rfl, ⟨_, SqL.of hR4⟩, fun Lc hLc => ?_⟩
        refine lc_list (K := K) (a := aR) (xs := rulesV) (fun i H5 => Same H4 H5 ∧ ∃ accC, H5 Lc = some (.lst accC) ∧ DpAll K H5 accC ((rules.take i).map fun r => dChain ((wj, r) :: toC last r0 gs))) ⟨same_new hLc _, [], upd_same, .nil⟩ (fun i H5 _ p => SqL.of (p.1 _ _ hR4)) (fun i z H5 hi p => ?_) (fun H5 p => ?_)
        · obtain ⟨s5, accC, hLC, haccC⟩ := p
          rw [List.getElem?_map] at hi
          cases hri : rules[i]? with
          | none => rw [hri] at hi; cases hi
          | some r =>
          rw [hri] at hi
          obtain rfl : V.str r.str = z := Option.some.inj hi
          refine ⟨rfl, _, rfl, _, rfl, (by show 2 ≤ sizeLine; decide), fun p1 hp1 => ⟨(by show 1 ≤ sizeLine; decide), fun p2 hp2 => ?_⟩⟩
          have t1 := same_new hp1 (.tup [.int (wj : Nat), .str r.str])
          have t2 := same_new hp2 (.tup [.ref p1])
          have t12 := t1.trans t2
          have s25 := s4.trans s5
          refine ⟨_, rfl, p2, ac, [.ref p1], xc, rfl, rfl, SqT.of upd_same, t12.tup (s25.tup hsc), small (by show 1 + xc.length ≤ 1000; omega), fun e => absurd e (by simp), fun _ e => absurd (congrArg List.length e) (by rw [hxcl]; simp), fun _ _ p3 hp3 => ?_⟩
          have t3 := same_new hp3 (.tup ([.ref p1] ++ xc))
          have tA := t12.trans t3
          refine ⟨accC, tA _ _ hLC, ?_, (s5.trans tA).put hLc, _, upd_same, ?_⟩
          · rw [haccC.len, List.length_map, List.length_take, rules_len]
            exact small1000 (by omega)
          · have et : rules.take (i + 1) = rules.take i ++ [r] := by rw [List.take_add_one, hri]; rfl
            rw [et, List.map_append]
            refine app_still (tA _ _ hLC) tA haccC ?_ (stillAll_map _ (fun r => still_chain _) _) (still_chain _)
            exact Dp.tup (SqT.of upd_same) (.cons (Dp.same (t2.trans t3) _ _ (Dp.mkPair upd_same (.int _) (.str _))) (DpAll.same (s25.trans tA) _ _ hxc))
        · obtain ⟨s5, accC, hLC, haccC⟩ := p
          rw [show rules.take (rulesV).length = rules from rfl] at haccC
          have hacc5 := DpAll.same s5 _ _ hacc
          have hne : L ≠ Lc := fun e => by rw [← e, hL4] at hLc; cases hLc
          have hal : acc.length = ds.length := by rw [hacc.len, List.length_map]
          have hcl2 : accC.length = 6 := by rw [haccC.len, List.length_map, rules_len]
          refine ⟨L, Lc, acc, accC, rfl, rfl, s5 _ _ hL4, hLC, ?_, _, _, _, ds ++ rules.map fun r => (wj, r) :: toC last r0 gs, rfl, (s4.trans s5).put hL2, upd_same, ?_, ?_, ?_⟩
          · refine Nat.le_of_lt (Nat.lt_of_le_of_lt (show acc.length + accC.length ≤ 1000000 by omega) (by decide))
          · rw [List.map_append, List.map_map]
            refine dpa_still (s5 _ _ hL4) _ _ ?_ (hacc5.append haccC)
            have e : ds.map dChain ++ (rules.map fun r => dChain ((wj, r) :: toC last r0 gs)) = (ds ++ rules.map fun r => (wj, r) :: toC last r0 gs).map dChain := by rw [List.map_append, List.map_map]; rfl
            show stillAll (ds.map dChain ++ (rules.map fun r => dChain ((wj, r) :: toC last r0 gs))) = true
            rw [e]
            exact stillAll_chains _
          · intro c hc
            rcases List.mem_append.mp hc with hc | hc
            · exact hds c hc
            · obtain ⟨r, _, rfl⟩ := List.mem_map.mp hc
              exact AllOk.front rfl hg hgl r (by omega) hwj
          · rw [List.length_append, List.length_map, rules_len]
            omega
      · obtain ⟨y6, y9, acc, ds, rfl, s4, hL4, hacc, hds, hdl⟩ := p
        exact ⟨_, _, _, acc, ds, rfl, s4, hL4, hacc, hds, by omega⟩
    · obtain ⟨y6, y8, y9, acc, ds, rfl, s3, hL3, hacc, hds, hdl⟩ := p
      refine ⟨_, rfl, L, _, _, _, _, acc, ds, rfl, s2.trans s3, hL3, hacc, hds, ?_⟩
      rw [Nat.pow_succ]
      omega
  · obtain ⟨a, y6, y7, y8, y9, xs, cs, rfl, s2, ha, hxs, hcs, hlen⟩ := p
    have hn : n - 1 + 1 = n := by omega
    rw [hn] at hcs
    have h2 : n - 1 ≤ 2 := by omega
    have h3 : 144 ^ (n - 1) ≤ 144 ^ 2 := Nat.pow_le_pow_right (by decide) h2
    have h4 : 6 * 144 ^ (n - 1) ≤ 6 * 144 ^ 2 := Nat.mul_le_mul_left _ h3
    have h5 : 6 * 144 ^ 2 = 124416 := by decide
    exact ⟨_, rfl, q _ _ cs (sH1.trans s2) (.lst (SqL.of ha) hxs) (by omega) hcs⟩
end
end K69
set_option Elab.async false
set_option linter.all false
set_option exponentiation.threshold 2000
set_option maxRecDepth 100000
set_option maxHeartbeats 8000000
namespace K69
open PySem PySem.Spec PyProof.Rows L2 SR RZ
/-! ### plain words -/
theorem fits_wanted {wd : Nat} {P P' : Th × Th} : FitsW (wantedOf wd P) P' ↔ wantedOf wd P' = wantedOf wd P := by
  unfold FitsW Fits wantedOf
  by_cases h : wd > 1
  · simp only [h, if_true, reduceCtorEq, Option.some.injEq, false_or, Prod.mk.injEq]
    exact ⟨fun z => ⟨z.1.symm, z.2.symm⟩, fun z => ⟨z.1.symm, z.2.symm⟩⟩
  · simp only [h, if_false, reduceCtorEq, Option.some.injEq, false_or, true_or, true_and, Prod.mk.injEq]
    exact ⟨fun z => z.symm, fun z => z.symm⟩
theorem res_ex (wn : Wanted) : ∀ m, (∀ k, 1 ≤ k → k ≤ m → ls k wn = none) ∨ ∃ n s, Res wn n s ∧ n ≤ m
  | 0 => .inl fun k h1 h2 => by omega
  | m + 1 => by
    rcases res_ex wn m with h | ⟨n, s, h, hn⟩
    · cases e : ls (m + 1) wn with
      | none =>
        refine .inl fun k h1 h2 => ?_
        by_cases z : k = m + 1
        · rw [z, e]
        · exact h k h1 (by omega)
      | some s => exact .inr ⟨m + 1, s, ⟨by omega, e, fun k h1 h2 => h k h1 (by omega)⟩, Nat.le_refl _⟩
    · exact .inr ⟨n, s, h, by omega⟩
theorem toC_le : ∀ (gs : List (Nat × Rule)) (w : Nat) (r : Rule) (x : SR.Step), x ∈ toC w r gs → x.1 ≤ w + total gs
  | [], w, r, x, hx => by unfold toC at hx; simp at hx; subst hx; exact Nat.le_add_right _ _
  | (g, r') :: gs, w, r, x, hx => by
    have e : total ((g, r') :: gs) = g + total gs := by unfold total; rw [List.map_cons, List.sum_cons]
    unfold toC at hx
    rcases List.mem_append.mp hx with hx | hx
    · have := toC_le gs _ _ _ hx; omega
    · simp at hx; subst hx; exact Nat.le_add_right _ _
theorem trimS_toC : ∀ (gs : List (Nat × Rule)) (w : Nat) (r : Rule), GapsOk gs → trimS (toC w r gs) = (toC w r gs, some w)
  | [], w, r, _ => rfl
  | (g, r') :: gs, w, r, h => by
    have ih := trimS_toC gs (w + g) r' fun p hp => h p (List.mem_cons_of_mem _ hp)
    have hg : 1 ≤ g := h (g, r') List.mem_cons_self
    show trimS (toC (w + g) r' gs ++ [(w, r)]) = _
    rw [trimS_snoc, ih]
    unfold tstep
    simp only [show w < w + g by omega, decide_true, if_true]
    rfl
theorem tr_toC (gs : List (Nat × Rule)) (w : Nat) (r : Rule) (h : GapsOk gs) : Tr (toC w r gs) w r gs := by
  obtain ⟨st, rest, ec, ew⟩ := toC_head gs w r
  refine ⟨trimS_toC gs w r h, h, ⟨⟨(w, r), ?_, rfl⟩, fun x hx => toC_ge gs w r x hx⟩, by rw [toC_len]; exact Nat.le_refl _, st, ?_, ew⟩
  · exact List.mem_of_getLast? (toC_last gs w r)
  · rw [ec]; exact List.mem_cons_self
theorem eqv_tho2 (a b : Option Th) : PyData.eqv (dThO a) (dThO b) = decide (a = b) := by
  cases a <;> cases b <;> simp [dThO, eqv_th, PyData.eqv] <;> simp [dTh, PyData.eqv]
theorem eqv_w_self (a : Wanted) : PyData.eqv (dW a) (dW a) = true := by
  have e : PyData.eqv (dW a) (dW a) = (PyData.eqv (dThO a.1) (dThO a.1) && (PyData.eqv (dThO a.2) (dThO a.2) && true)) := by
    unfold dW
    simp only [PyData.eqv, PyData.eqvAll]
  rw [e, eqv_tho2, eqv_tho2]
  simp
theorem shaped_w (a : Wanted) : SeqAt.shaped (dW a) = true := by
  obtain ⟨a, b⟩ := a
  have hs : ∀ u, PyData.strOk (side u) = true := fun u => by cases u <;> decide +kernel
  cases a <;> cases b <;> simp [SeqAt.shaped, dW, dThO, dTh, PyData.canLay0, PyData.canLayAll0, PyData.depth, PyData.depthAll, hs]
theorem shaped_wc (a : Wanted) : SeqAt.shaped (dWc a) = true := by
  obtain ⟨a, b⟩ := a
  have hs : ∀ u, PyData.strOk (side u) = true := fun u => by cases u <;> decide +kernel
  cases a <;> cases b <;> simp [SeqAt.shaped, dWc, dThcO, dThc, PyData.canLay0, PyData.canLayAll0, PyData.depth, PyData.depthAll, hs]
/-- good and exact in parts of 2 ^ 20 -/
def Ex (o : Option Th) : Prop := ∀ t, o = some t → Good t ∧ t.d ∣ 1048576
theorem eqv_thc {a b : Th} (ha : Good a ∧ a.d ∣ 1048576) (hb : Good b ∧ b.d ∣ 1048576) (h : PyData.eqv (dThc a) (dThc b) = true) : a = b := by
  have e : PyData.eqv (dThc a) (dThc b) = (((fix a : Int) == (fix b : Int)) && ((side a.up == side b.up) && true)) := by
    unfold dThc
    simp only [PyData.eqv, PyData.eqvAll]
  rw [e, Bool.and_true, Bool.and_eq_true] at h
  have h1 : (fix a : Int) = (fix b : Int) := by simpa using h.1
  have h2 : side a.up = side b.up := by simpa using h.2
  exact fix_inj ha.1 hb.1 ha.2 hb.2 (by omega) (side_inj h2)
theorem eqv_thco {a b : Option Th} (ha : Ex a) (hb : Ex b) (h : PyData.eqv (dThcO a) (dThcO b) = true) : a = b := by
  cases a with
  | none =>
    cases b with
    | none => rfl
    | some u => simp [dThcO, dThc, PyData.eqv] at h
  | some t =>
    cases b with
    | none => simp [dThcO, dThc, PyData.eqv] at h
    | some u => rw [eqv_thc (ha t rfl) (hb u rfl) h]
theorem eqv_wc {a b : Wanted} (ha : Ex a.1 ∧ Ex a.2) (hb : Ex b.1 ∧ Ex b.2) (h : PyData.eqv (dWc a) (dWc b) = true) : a = b := by
  have e : PyData.eqv (dWc a) (dWc b) = (PyData.eqv (dThcO a.1) (dThcO b.1) && (PyData.eqv (dThcO a.2) (dThcO b.2) && true)) := by
    unfold dWc
    simp only [PyData.eqv, PyData.eqvAll]
  rw [e, Bool.and_true, Bool.and_eq_true] at h
  exact Prod.ext (eqv_thco ha.1 hb.1 h.1) (eqv_thco ha.2 hb.2 h.2)
theorem ex_wanted {wd : Nat} {r : Rule} {gs : List (Nat × Rule)} (g : GapsOk gs) (h : total gs ≤ 19) : Ex (wantedOf wd (T r gs)).1 ∧ Ex (wantedOf wd (T r gs)).2 := by
  have a := good_T gs r g
  have b := T_dvd20 r h
  unfold wantedOf
  constructor
  · intro t ht
    dsimp only at ht
    split at ht
    · cases ht; exact ⟨a 0, b 0⟩
    · cases ht
  · intro t ht
    cases ht
    exact ⟨a 1, b 1⟩
end K69
set_option Elab.async false
set_option linter.all false
set_option exponentiation.threshold 2000
set_option maxRecDepth 100000
set_option maxHeartbeats 8000000
namespace K69
open PySem PySem.Spec PyProof.Rows L2 SR RZ
theorem Same.lstL {K : PySem.W.Frag} {H H' : Hp} {a : Addr} {xs : List V} (e : Same H H') (h : SqL K H a xs) : SqL K H' a xs := by
  rcases h with (h | ⟨o, h⟩) | h
  · exact .inl (.inl (e _ _ h))
  · exact .inl (.inr ⟨o, e _ _ h⟩)
  · exact .inr h
theorem any_rep (n : Nat) : (List.replicate n false).any id = false := by
  induction n with
  | zero => rfl
  | succ n ih => rw [List.replicate_succ, List.any_cons, ih]; rfl
section
variable {P : Program} {w : World} {K : PySem.W.Frag} {mg : Str → Option Value} {base : Heap}
abbrev sRight : Stmt := topS 69
theorem scRight : FnScope ["_law_chain_here", "_law_last", "_law_found", "_law_due", "_law_count", "_law_one"] ["_law_chain_here"] (defScope sRight) := ⟨rfl, rfl, rfl, by decide +kernel, rfl, by decide +kernel, by decide +kernel⟩
def spRight (K : PySem.W.Frag) : Sp := fun vs H Q _ => ∃ (v : V) (c : Chain) (wd : Nat) (r : Rule) (gs : List (Nat × Rule)), vs = [v] ∧ Dp K H v (dChain c) ∧ ChainOk c ∧ Tr c wd r gs ∧ gs.length ≤ 4 ∧ total gs ≤ 5 ∧ wd ≤ 3 ∧ (∀ s ∈ c, s.1 ≤ 60) ∧ ∀ H', Same H H' → Q (.bl true) H'
theorem ok_right (B : Blt mg) (D : Df K mg "_law_right" sRight ["_law_chain_here"]) (G1 : Fx P w K mg base 1 "_law_least" ["_law_chain_here"] (spLastWidth K)) (G2 : Fx P w K mg base 12 "shortest" ["chain"] (spShortest K))
    (G3 : Fx P w K mg base 7 "_law_cuts" ["_law_chain_here"] (spCuts K)) (G4 : Fx P w K mg base 2 "_law_is_chain" ["_law_value"] (spIsChain K)) (G5 : Fx P w K mg base 3 "_law_of_chain" ["_law_chain_here"] (spOf K)) (G6 : Fx P w K mg base 1 "_law_all" ["_law_last", "_law_count", "_law_widest"] (spAll K)) :
    Fx P w K mg base 13 "_law_right" ["_law_chain_here"] (spRight K) := by
  refine D.ok scRight (fun vs H Q E h => ?_) (fun f cdv A outer s H vs Q E hr h => ?_)
  · obtain ⟨_, _, _, _, _, rfl, _⟩ := h
    rfl
  obtain ⟨v, c, wd, r, gs, rfl, hd, hok, tr, hgl, htot, hwd, h60, q⟩ := h
  have hu := hr.units
  have hu65 : (A.deeper (envOfC "_law_right" (defScope sRight) s.heap.objs.size f cdv)).units + 64 < cLine := hu
  refine ⟨_, pss_cons (ps_asg (pe_tup (pa_cons (pe_fx G1 (hr.mono (by decide)) (pa_cons (pv 0) pa_nil)) (pa_cons (pe_fx G2 hr (pa_cons (pv 0) pa_nil)) pa_nil))) (pg_tup rfl (pgs_cons (pg_name (i := 1) scRight.nd rfl (.inl rfl)) (pgs_cons (pg_name (i := 2) scRight.nd rfl (.inr rfl)) pgs_nil))))
    (pss_cons (ps_if (PW.pt (pw_or (pt_cmpR (r := rNeD K) (op_neD hu) (pe_fx G3 (hr.mono (by decide)) (pa_cons (pv 2) pa_nil)) (pe_fx G3 (hr.mono (by decide)) (pa_cons (pv 0) pa_nil)) (nomark _))
        (pw_or (pt_not (pt_val (pe_fx G4 (hr.mono (by decide)) (pa_cons (pv 2) pa_nil)))) (pw_or1 (pt_cmpR op_gt (pe_callB call_len_seq (by rfl) B.len PySem.boot_len (pa_cons (pv 2) pa_nil)) pe_int (nomark _))))))
      (pss_one (ps_ret (pe_and (pe_cmpR op_gt (pe_callB call_len_seq (by rfl) B.len PySem.boot_len (pa_cons (pv 2) pa_nil)) pe_int (nomark _)) (pe_one (pe_cmpR (r := rEqD K) (op_eqD hu) (pe_fx G3 (hr.mono (by decide)) (pa_cons (pv 2) pa_nil)) (pe_fx G3 (hr.mono (by decide)) (pa_cons (pv 0) pa_nil)) (nomark _)))))) pss_nil)
    (pss_cons (ps_set (i := 3) scRight.nd rfl (.inr rfl) (pe_fx G5 (hr.mono (by decide)) (pa_cons (pv 2) pa_nil)))
    (pss_cons (ps_for PassesOwn.never rfl (pi_range2 (by rfl) B.range (pa_cons pe_int (pa_cons (pe_callB call_len_seq (by rfl) B.len PySem.boot_len (pa_cons (pv 2) pa_nil)) pa_nil))) (pg_name (i := 4) scRight.nd rfl (.inl rfl))
      (pss_one (ps_if (pt_val (pe_callB (cr_any rfl) (by rfl) B.any (by decide +kernel) (pa_cons (pe_lc (own := [("_law_one", 5)]) (g := gName 5) (tt := tYes) rfl scRight.nd (pi_list (pe_fx G6 (hr.mono (by decide)) (pa_cons (pv 1) (pa_cons (pv 4) (pa_cons (pe_op op_addN (pv 1) pe_int) pa_nil))))) (blkOk_by (N := ["_law_chain_here", "_law_last", "_law_found", "_law_due", "_law_count", "_law_one"]) (sc := defScope sRight) (by decide +kernel))
          (fun _ _ _ _ _ => pg_name (i := 5) scRight.nd rfl (Or.inl rfl) (hf := Or.inr rfl)) (fun _ _ _ _ _ => pts_nil) (fun _ _ _ _ _ => pe_cmpR (r := rEqD K) (op_eqD hu) (pe_fx G5 (hr.mono (by decide)) (pa_cons (pv 5) pa_nil)) (pv 3) (nomark _))) pa_nil)))
        (pss_one (ps_ret pe_bl)) pss_nil)))
    (pss_one (ps_ret (pe_not (pe_callB (cr_any rfl) (by rfl) B.any (by decide +kernel) (pa_cons (pe_lc (own := [("_law_one", 5)]) (g := gName 5) (tt := tYes) rfl scRight.nd (pi_list (pe_fx G6 (hr.mono (by decide)) (pa_cons (pv 1) (pa_cons (pe_callB call_len_seq (by rfl) B.len PySem.boot_len (pa_cons (pv 2) pa_nil)) (pa_cons (pe_ix (r := rIxT K) ix_tup (pe_ix (r := rIxT K) ix_tup (pv 2) pe_int (fun _ _ => rfl)) pe_int (fun _ _ => rfl)) pa_nil))))) (blkOk_by (N := ["_law_chain_here", "_law_last", "_law_found", "_law_due", "_law_count", "_law_one"]) (sc := defScope sRight) (by decide +kernel))
          (fun _ _ _ _ _ => pg_name (i := 5) scRight.nd rfl (Or.inl rfl) (hf := Or.inr rfl)) (fun _ _ _ _ _ => pts_nil) (fun _ _ _ _ _ => pe_and (pe_cmpR (r := rLtD K) (op_ltD hu) (pv 5) (pv 2) (nomark _)) (pe_one (pe_cmpR (r := rEqD K) (op_eqD hu) (pe_fx G5 (hr.mono (by decide)) (pa_cons (pv 5) pa_nil)) (pv 3) (nomark _))))) pa_nil)))))))), ?_⟩
  have gw := wanted_good (wd := wd) (r := r) tr.gaps
  have dw := wanted_den (wd := wd) (r := r) htot
  obtain ⟨n, st, hres, hn⟩ : ∃ n s, Res (wantedOf wd (T r gs)) n s ∧ n ≤ gs.length + 1 := by
    rcases res_ex (wantedOf wd (T r gs)) (gs.length + 1) with h | h
    · obtain ⟨s, hs, _⟩ := ls_complete gs r _ tr.gaps gw (fits_wanted.mpr rfl)
      rw [h (gs.length + 1) (by omega) (Nat.le_refl _)] at hs
      cases hs
    · exact h
  have hres2 := hres
  obtain ⟨hn1, hls, hnone⟩ := hres2
  obtain ⟨r2, gs2, hg2, hl2, rfl, hf2, h82, ht2⟩ := ls_small hls gw dw
  have hfc : widened (toC 0 r2 gs2) wd = toC wd r2 gs2 := by rw [← toC_wid, Nat.zero_add]
  have hW := fits_wanted.mp hf2
  have trf := tr_toC gs2 wd r2 hg2
  have hwd1 : 1 ≤ wd := by
    obtain ⟨⟨x, hx, rfl⟩, _⟩ := tr.least
    exact (hok.ws x hx).1
  have hge := toC_ge gs2 wd r2
  have hle := toC_le gs2 wd r2
  have ht32 : total gs2 ≤ 32 := by omega
  have hokf : ChainOk (toC wd r2 gs2) := ⟨by rw [toC_len]; omega, by rw [toC_len]; omega, fun s hs => ⟨by have := hge s hs; omega, by have := hle s hs; omega⟩⟩
  have h60f : ∀ s ∈ toC wd r2 gs2, s.1 ≤ 60 := fun s hs => by have := hle s hs; omega
  -- no shorter chain
  have hshort : ∀ r3 gs3, GapsOk gs3 → gs3.length + 1 < n → total gs3 ≤ 19 → total gs2 ≤ 19 → PyData.eqv (dWc (wantedOf wd (T r3 gs3))) (dWc (wantedOf wd (T r2 gs2))) = false := fun r3 gs3 hg3 hl3 ht3 ht => by
    cases e : PyData.eqv (dWc (wantedOf wd (T r3 gs3))) (dWc (wantedOf wd (T r2 gs2))) with
    | false => rfl
    | true =>
      have e2 := eqv_wc (ex_wanted hg3 ht3) (ex_wanted hg2 ht) e
      rw [hW] at e2
      obtain ⟨s, hs, _⟩ := ls_complete gs3 r3 _ hg3 gw (fits_wanted.mpr e2)
      rw [hnone _ (by omega) hl3] at hs
      cases hs
  have hless : ∀ r3 gs3, GapsOk gs3 → gs3.length + 1 = n → total gs3 ≤ 19 → total gs2 ≤ 19 → chLt (toC wd r3 gs3) (toC wd r2 gs2) = true → PyData.eqv (dWc (wantedOf wd (T r3 gs3))) (dWc (wantedOf wd (T r2 gs2))) = false := fun r3 gs3 hg3 hl3 ht3 ht hlt => by
    cases e : PyData.eqv (dWc (wantedOf wd (T r3 gs3))) (dWc (wantedOf wd (T r2 gs2))) with
    | false => rfl
    | true =>
      have e2 := eqv_wc (ex_wanted hg3 ht3) (ex_wanted hg2 ht) e
      rw [hW] at e2
      obtain ⟨s, hs, hle⟩ := ls_complete gs3 r3 _ hg3 gw (fits_wanted.mpr e2)
      rw [hl3, hls] at hs
      cases hs
      have hle2 := chLe_wid wd hle
      rw [hfc, ← toC_wid, Nat.zero_add] at hle2
      unfold chLe at hle2
      rw [hle2] at hlt
      cases hlt
  refine ⟨_, rfl, v, c, rfl, hd, hok, fun wl H1 hwl s1 => ?_⟩
  have hwe : wd = wl := tr.least.uniq hwl
  subst hwe
  refine ⟨_, rfl, v, c, wd, r, gs, n, _, rfl, Dp.same s1 _ _ hd, hok, tr, hgl, htot, hwd, hres, hn, fun vf H2 s2 hvf => ⟨(by show 2 ≤ sizeLine; decide), fun p hp => ?_⟩⟩
  rw [hfc] at hvf
  have sp := same_new hp (.tup [.int (wd : Nat), vf])
  refine ⟨p, _, rfl, SqT.of upd_same, rfl, _, _, rfl, _, _, rfl, rfl, ?_⟩
  have sA := (s1.trans s2).trans sp
  have hcf := Dp.same sp _ _ hvf
  clear sp
  generalize upd H2 p (.tup [.int (wd : Nat), vf]) = H3 at sA hcf
  have hdc := Dp.same sA _ _ hd
  obtain ⟨af, xf, rfl, hsf, hxf⟩ := dp_chain hcf
  have hlf : xf.length = gs2.length + 1 := by rw [hxf.len, List.length_map, toC_len]
  refine ⟨_, rfl, .ref af, _, wd, r2, gs2, rfl, hcf, hokf, trf, h60f, by omega, fun v1 H4 s4 hv1 => ⟨_, rfl, v, c, wd, r, gs, rfl, Dp.same s4 _ _ hdc, hok, tr, h60, by omega, fun v2 H5 s5 hv2 => ?_⟩⟩
  rw [hW] at hv1
  refine ⟨_, _, Dp.same s5 _ _ hv1, hv2, shaped_w _, shaped_w _, _, rfl, ?_⟩
  rw [eqv_w_self]
  have s45 := s4.trans s5
  refine iteF ⟨_, rfl, .ref af, _, rfl, Dp.same s45 _ _ hcf, hokf, fun H6 s6 => ⟨true, rfl, ?_⟩⟩
  have s46 := s45.trans s6
  refine iteF ⟨_, rfl, af, xf, rfl, .inr (s46.tup hsf), _, _, rfl, rfl, _, rfl, ?_⟩
  by_cases h3 : 3 < xf.length
  · rw [decide_eq_true (show (3 : Int) < ((xf.length : Nat) : Int) by omega)]
    refine iteT ⟨_, rfl, af, xf, rfl, .inr (s46.tup hsf), _, _, rfl, rfl, true, ?_, ?_⟩
    · exact congrArg V.bl (decide_eq_true (show (3 : Int) < ((xf.length : Nat) : Int) by omega))
    refine iteT ⟨_, rfl, .ref af, _, wd, r2, gs2, rfl, Dp.same s46 _ _ hcf, hokf, trf, h60f, by omega, fun v3 H7 s7 hv3 => ⟨_, rfl, v, c, wd, r, gs, rfl, Dp.same (s46.trans s7) _ _ hdc, hok, tr, h60, by omega, fun v4 H8 s8 hv4 => ?_⟩⟩
    rw [hW] at hv3
    refine ⟨_, _, Dp.same s8 _ _ hv3, hv4, shaped_w _, shaped_w _, ?_⟩
    rw [eqv_w_self]
    exact q _ (((sA.trans s46).trans s7).trans s8)
  rw [decide_eq_false (show ¬ (3 : Int) < ((xf.length : Nat) : Int) by omega)]
  have ht16 : total gs2 ≤ 16 := by omega
  refine iteF ⟨_, rfl, .ref af, wd, r2, gs2, rfl, Dp.same s46 _ _ hcf, hg2, by omega, fun vd H7 s7 hvd => ?_⟩
  have s47 := s46.trans s7
  have sB := sA.trans s47
  have hcf7 := Dp.same s47 _ _ hcf
  have hxf7 := DpAll.same s47 _ _ hxf
  have hsf7 := s47.tup hsf
  clear s4 s5 s6 s7 s45 s46 s47 hv1 hv2
  refine ⟨_, rfl, af, xf, rfl, .inr hsf7, 1, _, rfl, ⟨by decide, by decide, by omega, by omega⟩, ?_⟩
  rw [show ((xf.length : Int) - 1).toNat = gs2.length by omega]
  refine for_range (lo := 1) (n := gs2.length) (fun j σ H8 => (∃ y4, σ = [some v, some (.int (wd : Nat)), some (.ref af), some vd, y4, none]) ∧ Same H7 H8) ⟨⟨_, rfl⟩, Same.refl _⟩ (fun j σ H8 hj p => ?_) (fun σ H8 p => ?_)
  · obtain ⟨⟨y4, rfl⟩, s8⟩ := p
    rw [show (1 : Int) + (j : Int) = ((j + 1 : Nat) : Int) by omega]
    refine ⟨_, rfl, _, rfl, _, rfl, wd, 7, rfl, rfl, wd, j + 1, wd + 7, rfl, by omega, by omega, by omega, by omega, fun va H9 cs s9 hva hcl hcs => ?_⟩
    cases hva with
    | @lst a xs _ hsa hxa =>
    have hxl : xs.length = cs.length := by rw [hxa.len, List.length_map]
    refine ⟨a, rfl, ⟨_, hsa⟩, fun L hL => lc_list (K := K) (a := a) (xs := xs) (fun i H10 => Same H9 H10 ∧ H10 L = some (.lst ((List.replicate i false).map V.bl))) ⟨same_new hL _, upd_same⟩ (fun i H10 _ p => Same.lstL p.1 hsa) (fun i x H10 hi p => ?_) (fun H10 p => ?_)⟩
    · obtain ⟨s10, hL10⟩ := p
      obtain ⟨one, ho1, ho2⟩ : ∃ one, cs[i]? = some one ∧ Dp K H9 x (dChain one) := by
        obtain ⟨d, e1, e2⟩ := hxa.get hi
        rw [List.getElem?_map] at e1
        cases hci : cs[i]? with
        | none => rw [hci] at e1; cases e1
        | some c =>
          rw [hci] at e1
          cases e1
          exact ⟨c, rfl, e2⟩
      obtain ⟨r3, gs3, rfl, hg3, hl3, ht3⟩ := hcs one (List.mem_of_getElem? ho1)
      refine ⟨rfl, _, rfl, x, wd, r3, gs3, rfl, Dp.same s10 _ _ ho2, hg3, by omega, fun vo H11 s11 hvo => ⟨_, rfl, _, _, hvo, Dp.same (((s8.trans s9).trans s10).trans s11) _ _ hvd, shaped_wc _, shaped_wc _, ?_⟩⟩
      rw [hshort r3 gs3 hg3 (by omega) (by omega) (by omega)]
      refine ⟨_, s11 _ _ hL10, ?_, (s10.trans s11).put hL, ?_⟩
      · rw [List.length_map, List.length_replicate]
        have := (List.getElem?_eq_some_iff.mp hi).1
        exact Nat.lt_of_le_of_lt (show i ≤ 3000000 by omega) (by decide)
      · rw [upd_same, List.replicate_succ', List.map_append]
        rfl
    · obtain ⟨s10, hL10⟩ := p
      refine ⟨L, List.replicate xs.length false, rfl, SqL.of hL10, _, rfl, ?_⟩
      rw [any_rep]
      exact iteF ⟨⟨_, rfl⟩, (s8.trans s9).trans s10⟩
  · obtain ⟨⟨y4, rfl⟩, s8⟩ := p
    obtain ⟨sh, rest, ec, ew⟩ := toC_head gs2 wd r2
    obtain ⟨x0, hx0, hdx0⟩ := dpc_at (DpAll.same s8 _ _ hxf7) (show (toC wd r2 gs2)[0]? = some sh by rw [ec]; rfl)
    obtain ⟨b0, rfl, hb0⟩ := dp_step hdx0
    refine ⟨_, rfl, _, rfl, af, xf, rfl, .inr (s8.tup hsf7), _, rfl, af, xf, 0, .ref b0, rfl, rfl, s8.tup hsf7, atI_nat hx0, b0, _, 0, .int (sh.1 : Nat), rfl, rfl, hb0, rfl, wd, xf.length, sh.1, rfl, by omega, by omega, by omega, by omega, fun va H9 cs s9 hva hcl hcs => ?_⟩
    cases hva with
    | @lst a xs _ hsa hxa =>
    have hxl : xs.length = cs.length := by rw [hxa.len, List.length_map]
    refine ⟨a, rfl, ⟨_, hsa⟩, fun L hL => lc_list (K := K) (a := a) (xs := xs) (fun i H10 => Same H9 H10 ∧ H10 L = some (.lst ((List.replicate i false).map V.bl))) ⟨same_new hL _, upd_same⟩ (fun i H10 _ p => Same.lstL p.1 hsa) (fun i x H10 hi p => ?_) (fun H10 p => ?_)⟩
    · obtain ⟨s10, hL10⟩ := p
      obtain ⟨one, ho1, ho2⟩ : ∃ one, cs[i]? = some one ∧ Dp K H9 x (dChain one) := by
        obtain ⟨d, e1, e2⟩ := hxa.get hi
        rw [List.getElem?_map] at e1
        cases hci : cs[i]? with
        | none => rw [hci] at e1; cases e1
        | some c =>
          rw [hci] at e1
          cases e1
          exact ⟨c, rfl, e2⟩
      obtain ⟨r3, gs3, rfl, hg3, hl3, ht3⟩ := hcs one (List.mem_of_getElem? ho1)
      have fin : ∀ (H11 : Hp), Same H10 H11 → ∃ acc, H11 L = some (.lst acc) ∧ acc.length < sizeLine ∧ Same H9 (upd H11 L (.lst (acc ++ [.bl false]))) ∧ (upd H11 L (.lst (acc ++ [.bl false]))) L = some (.lst ((List.replicate (i + 1) false).map V.bl)) := fun H11 s11 => by
        refine ⟨_, s11 _ _ hL10, ?_, (s10.trans s11).put hL, ?_⟩
        · rw [List.length_map, List.length_replicate]
          have := (List.getElem?_eq_some_iff.mp hi).1
          exact Nat.lt_of_le_of_lt (show i ≤ 3000000 by omega) (by decide)
        · rw [upd_same, List.replicate_succ', List.map_append]
          rfl
      refine ⟨rfl, _, rfl, _, rfl, dChain (toC wd r3 gs3), dChain (toC wd r2 gs2), Dp.same s10 _ _ ho2, Dp.same ((s8.trans s9).trans s10) _ _ hcf7, alike_chain _ _, (fun z => nomatch z), Nat.le_trans (depth_chain _) (by decide), _, rfl, ?_⟩
      rw [dataLt_chain]
      cases hlt : chLt (toC wd r3 gs3) (toC wd r2 gs2) with
      | false => exact iteF (fin _ (Same.refl _))
      | true =>
        refine iteT ⟨_, rfl, x, wd, r3, gs3, rfl, Dp.same s10 _ _ ho2, hg3, by omega, fun vo H11 s11 hvo => ⟨_, rfl, _, _, hvo, Dp.same (((s8.trans s9).trans s10).trans s11) _ _ hvd, shaped_wc _, shaped_wc _, ?_⟩⟩
        rw [hless r3 gs3 hg3 (by omega) (by omega) (by omega) hlt]
        exact fin _ s11
    · obtain ⟨s10, hL10⟩ := p
      refine ⟨L, List.replicate xs.length false, rfl, SqL.of hL10, _, rfl, ?_⟩
      rw [any_rep]
      exact q _ (((sB.trans s8).trans s9).trans s10)
end
end K69
set_option Elab.async false
set_option linter.all false
set_option exponentiation.threshold 2000
set_option maxRecDepth 100000
set_option maxHeartbeats 8000000
namespace K69
open PySem PySem.Spec PyProof.Rows L2 SR RZ
/-- a source of draws at p, at most C turns old -/
def Src (H : Hp) (p : Addr) (C : Nat) : Prop := ∃ a b c : Nat, H p = some (.lst [.int (a : Nat), .int (b : Nat), .int (c : Nat)]) ∧ b < 2 ^ 62 ∧ c ≤ C
section
variable {P : Program} {w : World} {K : PySem.W.Frag} {mg : Str → Option Value} {base : Heap}
/-! ### _law_source -/
abbrev sSource : Stmt := topS 45
theorem scSource : FnScope ["_law_script", "_law_k", "_law_given", "_law_digits"] ["_law_script", "_law_k"] (defScope sSource) := ⟨rfl, rfl, rfl, by decide +kernel, rfl, by decide +kernel, by decide +kernel⟩
def spSource (K : PySem.W.Frag) : Sp := fun vs H Q _ => ∃ (l : Addr) (ns : List Int) (k : Nat), vs = [.ref l, .int (k : Nat)] ∧ SqL K H l (ns.map V.int) ∧ k ≤ 1 ∧ ∀ p H', H p = none → Same H H' → Src H' p 0 → Q (.ref p) H'
theorem ok_source (B : Blt mg) (D : Df K mg "_law_source" sSource ["_law_script", "_law_k"]) : Fx P w K mg base 1 "_law_source" ["_law_script", "_law_k"] (spSource K) := by
  refine D.ok scSource (fun vs H Q E h => ?_) (fun f cdv A outer s H vs Q E hr h => ?_)
  · obtain ⟨_, _, _, rfl, _⟩ := h
    rfl
  obtain ⟨l, ns, k, rfl, hs, hk, q⟩ := h
  refine ⟨_, pss_cons (ps_set (i := 2) scSource.nd rfl (.inl rfl) (pe_ifExp (pt_cmpR op_lt (pv 1) (pe_callB call_len_seq (by rfl) B.len PySem.boot_len (pa_cons (pv 0) pa_nil)) (nomark _)) (pe_ix (r := rIxL K) ix_list (pv 0) (pv 1) (fun _ _ => rfl)) pe_int))
    (pss_cons (ps_set (i := 3) scSource.nd rfl (.inl rfl) (pe_ifExp (pt_cmpR op_ge (pe_callB call_abs (by rfl) B.abs PyProof.Rows.boot_abs (pa_cons (pv 2) pa_nil)) (pe_op op_pow pe_int pe_int) (nomark _)) (pe_op op_mod (pe_callB call_abs (by rfl) B.abs PyProof.Rows.boot_abs (pa_cons (pv 2) pa_nil)) (pe_op op_powB (pe_op op_pow pe_int pe_int) pe_int)) pe_int))
    (pss_one (ps_ret (pe_lst (pa_cons (pv 3) (pa_cons (pe_op op_mod (pe_op op_add (pe_op op_add (pe_op op_mul (pe_op op_mod (pv 2) pe_int) pe_int) (pe_op op_mul (pe_op op_mul pe_int (pv 1)) (pv 1))) pe_int) pe_int) (pa_cons pe_int pa_nil))))))), ?_⟩
  refine ⟨_, rfl, _, rfl, l, _, rfl, .inl hs, _, _, rfl, rfl, _, rfl, ?_⟩
  by_cases hlt : k < ns.length
  · rw [decide_eq_true (show (k : Int) < (((ns.map V.int).length : Nat) : Int) by rw [List.length_map]; omega)]
    refine iteT ⟨_, rfl, _, rfl, l, ns.map V.int, (k : Nat), .int ns[k], rfl, rfl, hs, atI_nat (by simp [hlt]), ?_⟩
    generalize ns[k] = g
    refine ⟨_, rfl, g, rfl, _, _, rfl, rfl, ⟨by decide, by decide, by decide⟩, _, _, rfl, rfl, _, rfl, ?_⟩
    have hX : (0 : Int) < (10 ^ (60 : Int).toNat) ^ (4 : Int).toNat := by decide +kernel
    have hb0 : ∀ z : Int, 0 ≤ z % 2305843009213693921 ∧ z % 2305843009213693921 < 2305843009213693921 := fun z => ⟨Int.emod_nonneg _ (by decide), Int.emod_lt_of_pos _ (by decide)⟩
    have fin : ∀ (D z : Int) (p : Addr), 0 ≤ D → H p = none → Q (.ref p) (upd H p (.lst [.int D, .int (z % 2305843009213693921), .int 0])) := fun D z p hD hp => by
      obtain ⟨a, rfl⟩ := Int.eq_ofNat_of_zero_le hD
      obtain ⟨b, hb⟩ := Int.eq_ofNat_of_zero_le (hb0 z).1
      have hb2 := (hb0 z).2
      rw [hb] at hb2 ⊢
      exact q p _ hp (same_new hp _) ⟨a, b, 0, upd_same, by omega, Nat.le_refl _⟩
    generalize decide ((10 : Int) ^ (18 : Int).toNat ≤ if g < 0 then -g else g) = bb
    cases bb with
    | true =>
      refine iteT ⟨_, rfl, g, rfl, _, _, rfl, rfl, ⟨by decide, by decide, by decide⟩, _, _, rfl, rfl, ⟨by decide, by decide +kernel⟩, _, _, rfl, rfl, hX, ?_⟩
      exact ⟨_, rfl, _, rfl, _, _, rfl, rfl, (show (0 : Int) < 2305843009213693951 by decide), _, _, rfl, rfl, .inr ⟨by decide, by decide⟩, _, rfl, _, _, rfl, rfl, .inl ⟨by decide, by decide⟩, _, rfl, _, _, rfl, rfl, .inr ⟨by omega, by omega⟩, _, _, rfl, rfl, _, _, rfl, rfl, _, _, rfl, rfl, (show (0 : Int) < 2305843009213693921 by decide), (by show 3 ≤ sizeLine; decide), fun p hp => fin _ _ p (Int.emod_nonneg _ (Int.ne_of_gt hX)) hp⟩
    | false =>
      exact iteF ⟨_, rfl, _, rfl, _, _, rfl, rfl, (show (0 : Int) < 2305843009213693951 by decide), _, _, rfl, rfl, .inr ⟨by decide, by decide⟩, _, rfl, _, _, rfl, rfl, .inl ⟨by decide, by decide⟩, _, rfl, _, _, rfl, rfl, .inr ⟨by omega, by omega⟩, _, _, rfl, rfl, _, _, rfl, rfl, _, _, rfl, rfl, (show (0 : Int) < 2305843009213693921 by decide), (by show 3 ≤ sizeLine; decide), fun p hp => fin _ _ p (Int.le_refl _) hp⟩
  · rw [decide_eq_false (show ¬ (k : Int) < (((ns.map V.int).length : Nat) : Int) by rw [List.length_map]; omega)]
    refine iteF ?_
    refine ⟨_, rfl, 0, rfl, _, _, rfl, rfl, ⟨by decide, by decide, by decide⟩, _, _, rfl, rfl, _, rfl, ?_⟩
    have hX : (0 : Int) < (10 ^ (60 : Int).toNat) ^ (4 : Int).toNat := by decide +kernel
    have hb0 : ∀ z : Int, 0 ≤ z % 2305843009213693921 ∧ z % 2305843009213693921 < 2305843009213693921 := fun z => ⟨Int.emod_nonneg _ (by decide), Int.emod_lt_of_pos _ (by decide)⟩
    have fin : ∀ (D z : Int) (p : Addr), 0 ≤ D → H p = none → Q (.ref p) (upd H p (.lst [.int D, .int (z % 2305843009213693921), .int 0])) := fun D z p hD hp => by
      obtain ⟨a, rfl⟩ := Int.eq_ofNat_of_zero_le hD
      obtain ⟨b, hb⟩ := Int.eq_ofNat_of_zero_le (hb0 z).1
      have hb2 := (hb0 z).2
      rw [hb] at hb2 ⊢
      exact q p _ hp (same_new hp _) ⟨a, b, 0, upd_same, by omega, Nat.le_refl _⟩
    generalize decide ((10 : Int) ^ (18 : Int).toNat ≤ if (0 : Int) < 0 then -(0 : Int) else 0) = bb
    cases bb with
    | true =>
      refine iteT ⟨_, rfl, 0, rfl, _, _, rfl, rfl, ⟨by decide, by decide, by decide⟩, _, _, rfl, rfl, ⟨by decide, by decide +kernel⟩, _, _, rfl, rfl, hX, ?_⟩
      exact ⟨_, rfl, _, rfl, _, _, rfl, rfl, (show (0 : Int) < 2305843009213693951 by decide), _, _, rfl, rfl, .inr ⟨by decide, by decide⟩, _, rfl, _, _, rfl, rfl, .inl ⟨by decide, by decide⟩, _, rfl, _, _, rfl, rfl, .inr ⟨by omega, by omega⟩, _, _, rfl, rfl, _, _, rfl, rfl, _, _, rfl, rfl, (show (0 : Int) < 2305843009213693921 by decide), (by show 3 ≤ sizeLine; decide), fun p hp => fin _ _ p (Int.emod_nonneg _ (Int.ne_of_gt hX)) hp⟩
    | false =>
      exact iteF ⟨_, rfl, _, rfl, _, _, rfl, rfl, (show (0 : Int) < 2305843009213693951 by decide), _, _, rfl, rfl, .inr ⟨by decide, by decide⟩, _, rfl, _, _, rfl, rfl, .inl ⟨by decide, by decide⟩, _, rfl, _, _, rfl, rfl, .inr ⟨by omega, by omega⟩, _, _, rfl, rfl, _, _, rfl, rfl, _, _, rfl, rfl, (show (0 : Int) < 2305843009213693921 by decide), (by show 3 ≤ sizeLine; decide), fun p hp => fin _ _ p (Int.le_refl _) hp⟩
/-! ### _law_draw -/
abbrev sDraw : Stmt := topS 46
theorem scDraw : FnScope ["_law_source_here", "_law_size", "_law_digit", "_law_turn", "_law_mixed"] ["_law_source_here", "_law_size"] (defScope sDraw) := ⟨rfl, rfl, rfl, by decide +kernel, rfl, by decide +kernel, by decide +kernel⟩
def spDraw : Sp := fun vs H Q _ => ∃ (p : Addr) (n C : Nat), vs = [.ref p, .int (n : Nat)] ∧ Src H p C ∧ C ≤ 1000 ∧ 0 < n ∧ n ≤ 1000 ∧ ∀ (r : Nat) H', r < n → But p H H' → Src H' p (C + 1) → Q (.int (r : Nat)) H'
theorem ok_draw (D : Df K mg "_law_draw" sDraw ["_law_source_here", "_law_size"]) : Fx P w K mg base 1 "_law_draw" ["_law_source_here", "_law_size"] spDraw := by
  refine D.ok scDraw (fun vs H Q E h => ?_) (fun f cdv A outer s H vs Q E hr h => ?_)
  · obtain ⟨_, _, _, rfl, _⟩ := h
    rfl
  obtain ⟨p, n, C, rfl, ⟨a, b, c, hp, hb, hc⟩, hC, hn1, hn2, q⟩ := h
  refine ⟨_, pss_cons (ps_if (pt_cmpR op_gt (pe_ix (r := rIxL K) ix_list (pv 0) pe_int (fun _ _ => rfl)) pe_int (nomark _))
      (pss_cons (ps_set (i := 2) scDraw.nd rfl (.inl rfl) (pe_op op_modNat (pe_ix (r := rIxL K) ix_list (pv 0) pe_int (fun _ _ => rfl)) (pv 1)))
      (pss_cons (ps_asg (pe_op op_fdivNN (pe_ix (r := rIxL K) ix_list (pv 0) pe_int (fun _ _ => rfl)) (pv 1)) (pg_sub (pv 0) pe_int set_list))
      (pss_one (ps_ret (pv 2))))) pss_nil)
    (pss_cons (ps_asg (pe_op op_addN (pe_ix (r := rIxL K) ix_list (pv 0) pe_int (fun _ _ => rfl)) pe_int) (pg_sub (pv 0) pe_int set_list))
    (pss_cons (ps_set (i := 3) scDraw.nd rfl (.inl rfl) (pe_ix (r := rIxL K) ix_list (pv 0) pe_int (fun _ _ => rfl)))
    (pss_cons (ps_set (i := 4) scDraw.nd rfl (.inl rfl) (pe_op op_modNat (pe_op op_mulB (pe_op op_addN (pe_op op_addN (pe_ix (r := rIxL K) ix_list (pv 0) pe_int (fun _ _ => rfl)) (pe_op op_mulB (pe_op op_mulB pe_int (pv 3)) (pv 3))) pe_int) pe_int) pe_int))
    (pss_cons (ps_set (i := 4) scDraw.nd rfl (.inl rfl) (pe_op op_modNat (pe_op op_mulB (pv 4) (pe_op op_addN (pe_op op_modNat (pv 4) pe_int) (pe_op op_mulB pe_int (pv 3)))) pe_int))
    (pss_one (ps_ret (pe_op op_modNat (pe_op op_addN (pe_op op_fdivNN (pv 4) pe_int) (pe_op op_fdivNN (pv 4) pe_int)) (pv 1)))))))), ?_⟩
  refine ⟨_, rfl, p, _, 0, .int (a : Nat), rfl, rfl, SqL.of hp, rfl, _, _, rfl, rfl, _, rfl, ?_⟩
  have hN : ∀ {xs : List V} {j : Nat}, j < xs.length → ixN xs.length ((j : Nat) : Int) = some j := fun {xs j} hj => by
    unfold ixN
    rw [if_pos (by omega), if_pos (by omega)]
    rfl
  by_cases ha : 0 < a
  · rw [decide_eq_true (show (0 : Int) < (a : Int) by omega)]
    refine iteT ⟨_, rfl, p, _, 0, .int (a : Nat), rfl, rfl, SqL.of hp, rfl, _, rfl, a, n, rfl, rfl, hn1, ?_⟩
    refine ⟨_, rfl, p, _, 0, .int (a : Nat), rfl, rfl, SqL.of hp, rfl, _, rfl, a, n, rfl, rfl, ⟨hn1, by omega⟩, ?_⟩
    refine ⟨_, rfl, p, _, 0, 0, rfl, rfl, hp, hN (j := 0) (by show 0 < 3; decide), ?_⟩
    exact ⟨_, rfl, q _ _ (Nat.mod_lt _ hn1) (fun b' o hb' e => by rw [upd_ne hb']; exact e) ⟨a / n, b, c, upd_same, hb, by omega⟩⟩
  · rw [decide_eq_false (show ¬ (0 : Int) < (a : Int) by omega)]
    refine iteF ⟨_, rfl, p, _, 2, .int (c : Nat), rfl, rfl, SqL.of hp, rfl, c, 1, rfl, rfl, ?_⟩
    refine ⟨_, rfl, p, _, 2, 2, rfl, rfl, hp, hN (j := 2) (by show 2 < 3; decide), ?_⟩
    have hp2 : (upd H p (.lst ([.int (a : Nat), .int (b : Nat), .int (c : Nat)].set 2 (.int ((c + 1 : Nat) : Int))))) p = some (.lst [.int (a : Nat), .int (b : Nat), .int ((c + 1 : Nat) : Int)]) := upd_same
    refine ⟨_, rfl, p, _, 2, .int ((c + 1 : Nat) : Int), rfl, rfl, SqL.of hp2, rfl, ?_⟩
    have big : ∀ {x : Nat}, x < 2 ^ 200 → x < 2 ^ 1000 := fun h => Nat.lt_trans h (Nat.pow_lt_pow_right (by decide) (by decide))
    have b1 : (65537 * (c + 1)) < 2 ^ 200 := Nat.lt_of_le_of_lt (m := 100000000) (by omega) (by decide)
    have b2 : c + 1 < 2 ^ 200 := Nat.lt_of_le_of_lt (m := 1001) (by omega) (by decide)
    have b3 : 65537 * (c + 1) * (c + 1) ≤ 65668139537 := Nat.le_trans (Nat.mul_le_mul (show 65537 * (c + 1) ≤ 65602537 by omega) (show c + 1 ≤ 1001 by omega)) (by decide)
    have b4 : b + 65537 * (c + 1) * (c + 1) + 11 < 2 ^ 200 := by
      generalize 65537 * (c + 1) * (c + 1) = y at b3
      clear b1 b2
      have hb4 : b < 4611686018427387904 := hb
      have : b + y + 11 < 5000000000000000000 := by omega
      exact Nat.lt_trans this (by decide)
    refine ⟨_, rfl, p, _, 1, .int (b : Nat), rfl, rfl, SqL.of hp2, rfl, _, rfl, 65537, c + 1, rfl, rfl, big (by decide), big b2, _, rfl, 65537 * (c + 1), c + 1, rfl, rfl, big b1, big b2, b, 65537 * (c + 1) * (c + 1), rfl, rfl, _, 11, rfl, rfl, _, 48271, rfl, rfl, big b4, big (by decide), _, 2305843009213693921, rfl, rfl, by decide, ?_⟩
    have m1 : (b + 65537 * (c + 1) * (c + 1) + 11) * 48271 % 2305843009213693921 < 2305843009213693921 := Nat.mod_lt _ (by decide)
    generalize (b + 65537 * (c + 1) * (c + 1) + 11) * 48271 % 2305843009213693921 = m at m1
    have m2 : m % 1000003 < 1000003 := Nat.mod_lt _ (by decide)
    have b5 : m % 1000003 + 99991 * (c + 1) < 2 ^ 200 := by
      clear b1 b2 b3 b4
      have : m % 1000003 + 99991 * (c + 1) < 200000000 := by omega
      exact Nat.lt_trans this (by decide)
    have b6 : m < 2 ^ 200 := Nat.lt_trans m1 (by decide)
    refine ⟨_, rfl, _, rfl, m, 1000003, rfl, rfl, by decide, _, rfl, 99991, c + 1, rfl, rfl, big (by decide), big b2, _, _, rfl, rfl, m, _, rfl, rfl, big b6, big b5, _, 2305843009213693907, rfl, rfl, by decide, ?_⟩
    generalize m * (m % 1000003 + 99991 * (c + 1)) % 2305843009213693907 = m'
    exact ⟨_, rfl, m', 97, rfl, rfl, ⟨by decide, by decide⟩, _, rfl, m', 1000033, rfl, rfl, ⟨by decide, by decide⟩, _, _, rfl, rfl, _, rfl, _, n, rfl, rfl, hn1, q _ _ (Nat.mod_lt _ hn1) (fun b' o hb' e => by rw [upd_ne hb']; exact e) ⟨a, b, c + 1, hp2, hb, by omega⟩⟩
end
end K69
set_option Elab.async false
set_option linter.all false
set_option exponentiation.threshold 2000
set_option maxRecDepth 100000
set_option maxHeartbeats 8000000
namespace K69
open PySem PySem.Spec PyProof.Rows L2 SR RZ
theorem src_no {H : Hp} {p : Addr} {C : Nat} (s : Src H p C) : ∀ ys, ¬ Rd H p (.tup ys) := by
  obtain ⟨a, b, c, h, _⟩ := s
  rintro ys (e | ⟨o, e⟩)
  · rw [h] at e; cases e
  · rw [h] at e; cases e
theorem Src.same {H H' : Hp} {p : Addr} {C : Nat} (s : Src H p C) (e : Same H H') : Src H' p C := by
  obtain ⟨a, b, c, h, r⟩ := s
  exact ⟨a, b, c, e _ _ h, r⟩
theorem Src.mono {H : Hp} {p : Addr} {C C' : Nat} (s : Src H p C) (h : C ≤ C') : Src H p C' := by
  obtain ⟨a, b, c, e, h1, h2⟩ := s
  exact ⟨a, b, c, e, h1, Nat.le_trans h2 h⟩
theorem Src.ne {H : Hp} {p L : Addr} {C : Nat} (s : Src H p C) (h : H L = none) : L ≠ p := fun e => by
  obtain ⟨a, b, c, e2, _⟩ := s
  rw [e, e2] at h
  cases h
theorem Src.put {H : Hp} {p L : Addr} {C : Nat} {o : HO} (s : Src H p C) (h : L ≠ p) : Src (upd H L o) p C := by
  obtain ⟨a, b, c, e, r⟩ := s
  exact ⟨a, b, c, by rw [upd_ne (Ne.symm h)]; exact e, r⟩
section
variable {P : Program} {w : World} {K : PySem.W.Frag} {mg : Str → Option Value} {base : Heap}
/-! ### _law_pick, _law_rule -/
abbrev sPick : Stmt := topS 47
theorem scPick : FnScope ["_law_source_here", "_law_some"] ["_law_source_here", "_law_some"] (defScope sPick) := ⟨rfl, rfl, rfl, by decide +kernel, rfl, by decide +kernel, by decide +kernel⟩
def spPick : Sp := fun vs H Q _ => ∃ (p l : Addr) (xs : List V) (C : Nat), vs = [.ref p, .ref l] ∧ Src H p C ∧ C ≤ 1000 ∧ H l = some (.lst xs) ∧ l ≠ p ∧ 0 < xs.length ∧ xs.length ≤ 1000 ∧ ∀ x H', x ∈ xs → But p H H' → Src H' p (C + 1) → Q x H'
theorem ok_pick (B : Blt mg) (D : Df K mg "_law_pick" sPick ["_law_source_here", "_law_some"]) (G : Fx P w K mg base 1 "_law_draw" ["_law_source_here", "_law_size"] spDraw) : Fx P w K mg base 2 "_law_pick" ["_law_source_here", "_law_some"] spPick := by
  refine D.ok scPick (fun vs H Q E h => ?_) (fun f cdv A outer s H vs Q E hr h => ?_)
  · obtain ⟨_, _, _, _, rfl, _⟩ := h
    rfl
  obtain ⟨p, l, xs, C, rfl, hsrc, hC, hl, hne, hx1, hx2, q⟩ := h
  refine ⟨_, pss_one (ps_ret (pe_ix (r := rIxL K) ix_list (pv 1) (pe_fx G hr (pa_cons (pv 0) (pa_cons (pe_callB call_len_seq (by rfl) B.len PySem.boot_len (pa_cons (pv 1) pa_nil)) pa_nil))) (fun _ _ => rfl))), ?_⟩
  refine ⟨_, rfl, _, rfl, _, rfl, l, xs, rfl, .inl (SqL.of hl), p, xs.length, C, rfl, hsrc, hC, hx1, hx2, fun r H' hr b s' => ?_⟩
  exact ⟨l, xs, _, xs[r], rfl, rfl, SqL.of (b _ _ hne hl), atI_nat (by simp [hr]), q _ _ (List.getElem_mem hr) b s'⟩
abbrev sRule : Stmt := topS 56
theorem scRule : FnScope ["_law_source_here"] ["_law_source_here"] (defScope sRule) := ⟨rfl, rfl, rfl, by decide +kernel, rfl, by decide +kernel, by decide +kernel⟩
def spRule : Sp := fun vs H Q _ => ∃ (p : Addr) (C : Nat), vs = [.ref p] ∧ Src H p C ∧ C ≤ 1000 ∧ ∀ (r : Rule) H', But p H H' → Src H' p (C + 1) → Q (.str r.str) H'
theorem ok_rule (D : Df K mg "_law_rule" sRule ["_law_source_here"]) (G : Fx P w K mg base 2 "_law_pick" ["_law_source_here", "_law_some"] spPick) : Fx P w K mg base 3 "_law_rule" ["_law_source_here"] spRule := by
  refine D.ok scRule (fun vs H Q E h => ?_) (fun f cdv A outer s H vs Q E hr h => ?_)
  · obtain ⟨_, _, rfl, _⟩ := h
    rfl
  obtain ⟨p, C, rfl, hsrc, hC, q⟩ := h
  refine ⟨_, pss_one (ps_ret (pe_fx G hr (pa_cons (pv 0) (pa_cons (pe_lst (pa_cons pe_str (pa_cons pe_str (pa_cons pe_str (pa_cons pe_str (pa_cons pe_str (pa_cons pe_str pa_nil))))))) pa_nil)))), ?_⟩
  refine ⟨_, rfl, (by show 6 ≤ sizeLine; decide), fun l hl => ?_⟩
  have s0 := same_new hl (.lst rulesV)
  refine ⟨p, l, rulesV, C, rfl, hsrc.same s0, hC, upd_same, hsrc.ne hl, (by show 0 < 6; decide), (by show 6 ≤ 1000; decide), fun x H' hx b s' => ?_⟩
  obtain ⟨r, _, rfl⟩ := List.mem_map.mp hx
  exact q r H' ((But.of_same s0).trans b) s'
/-! ### _law_chain -/
/-- the steps that are drawn: one of the width `last`, none narrower, none more than five wider -/
structure Gen (last : Nat) (c : Chain) : Prop where
  pos : 1 ≤ c.length
  le : c.length ≤ 5
  one : ∃ s ∈ c, s.1 = last
  all : ∀ s ∈ c, last ≤ s.1 ∧ s.1 ≤ last + 5
theorem Gen.perm {last : Nat} {c c' : Chain} (g : Gen last c) (h : c'.Perm c) : Gen last c' := by
  obtain ⟨a, b, ⟨s, hs, hw⟩, d⟩ := g
  exact ⟨by rw [h.length_eq]; exact a, by rw [h.length_eq]; exact b, ⟨s, h.mem_iff.mpr hs, hw⟩, fun t ht => d t (h.mem_iff.mp ht)⟩
theorem perm_map_inv {α β : Type} (f : α → β) {l l2 : List β} (h : l.Perm l2) : ∀ m : List α, l2 = m.map f → ∃ m' : List α, m'.Perm m ∧ l = m'.map f := by
  induction h with
  | nil => intro m e; exact ⟨[], by cases m <;> simp_all, rfl⟩
  | cons x _ ih =>
    intro m e
    cases m with
    | nil => cases e
    | cons a m =>
      rw [List.map_cons, List.cons.injEq] at e
      obtain ⟨m', p, e2⟩ := ih m e.2
      exact ⟨a :: m', p.cons a, by rw [List.map_cons, e.1, e2]⟩
  | swap x y l =>
    intro m e
    match m, e with
    | a :: b :: m, e =>
      rw [List.map_cons, List.map_cons, List.cons.injEq, List.cons.injEq] at e
      exact ⟨b :: a :: m, List.Perm.swap _ _ _, by rw [List.map_cons, List.map_cons, e.1, e.2.1, e.2.2]⟩
  | trans _ _ ih1 ih2 =>
    intro m e
    obtain ⟨m2, p2, e2⟩ := ih2 m e
    obtain ⟨m1, p1, e1⟩ := ih1 m2 e2
    exact ⟨m1, p1.trans p2, e1⟩
def dNeg (s : SR.Step) : PyData := .tuple [.int (0 - ((s.1 : Nat) : Int)), .str s.2.str]
theorem still_neg (s : SR.Step) : still (dNeg s) = true := rfl
theorem dp_neg {K : PySem.W.Frag} {H : Hp} {v : V} {s : SR.Step} (h : Dp K H v (dNeg s)) : ∃ a, v = .ref a ∧ SqT K H a [.int (0 - ((s.1 : Nat) : Int)), .str s.2.str] := by
  obtain ⟨a, x, y, rfl, hs, hx, hy⟩ := Dp.pair_inv h
  cases hx
  cases hy
  exact ⟨a, rfl, hs⟩
theorem dpa_drop {K : PySem.W.Frag} {H : Hp} : ∀ {xs : List V} {ds : List PyData} (n : Nat), DpAll K H xs ds → DpAll K H (xs.drop n) (ds.drop n)
  | _, _, 0, h => h
  | _, _, n + 1, .nil => .nil
  | _, _, n + 1, .cons _ t => dpa_drop n t
theorem dpa_take {K : PySem.W.Frag} {H : Hp} : ∀ {xs : List V} {ds : List PyData} (n : Nat), DpAll K H xs ds → DpAll K H (xs.take n) (ds.take n)
  | _, _, 0, _ => by simp only [List.take_zero]; exact .nil
  | _, _, n + 1, .nil => .nil
  | _, _, n + 1, .cons h t => .cons h (dpa_take n t)
theorem cut_to1 (xs : List V) (h : xs ≠ []) : cutV xs none (some 1) = xs.take 1 := by
  unfold cutV
  have h1 : 1 ≤ xs.length := by
    cases xs with
    | nil => exact absurd rfl h
    | cons _ _ => simp
  rw [show HT.sIx xs.length xs.length (some 1) = min 1 xs.length from HT.sIx_nat xs.length _ 1, HT.sIx_none, Nat.min_eq_left h1]
  rfl
theorem But.free {p L : Addr} {H H' : Hp} (b : But p H H') (h : H' L = none) (hne : L ≠ p) : H L = none := by
  cases e : H L with
  | none => rfl
  | some o => rw [b _ _ hne e] at h; cases h
theorem alike_neg (a b : SR.Step) : PySem.W.alike (dNeg a) (dNeg b) = true := by simp [dNeg, PySem.W.alike, PySem.W.alikeAll]
abbrev sLChain : Stmt := topS 57
theorem scLChain : FnScope ["_law_source_here", "_law_last", "_law_most", "_law_far", "_law_found", "_law_turn", "_law_width", "_law_rule_here", "_law_falling"] ["_law_source_here", "_law_last", "_law_most", "_law_far"] (defScope sLChain) := ⟨rfl, rfl, rfl, by decide +kernel, rfl, by decide +kernel, by decide +kernel⟩
def spLChain (K : PySem.W.Frag) : Sp := fun vs H Q _ => ∃ (p : Addr) (last far C : Nat), vs = [.ref p, .int (last : Nat), .int 5, .int (far : Nat)] ∧ Src H p C ∧ C ≤ 900 ∧ 1 ≤ far ∧ far ≤ 5 ∧ last ≤ 50 ∧ ∀ v H' c, Gen last c → But p H H' → Src H' p (C + 20) → Dp K H' v (dChain c) → Q v H'
theorem ok_lchain (B : Blt mg) (D : Df K mg "_law_chain" sLChain ["_law_source_here", "_law_last", "_law_most", "_law_far"]) (G1 : Fx P w K mg base 1 "_law_draw" ["_law_source_here", "_law_size"] spDraw) (G2 : Fx P w K mg base 3 "_law_rule" ["_law_source_here"] spRule) : Fx P w K mg base 4 "_law_chain" ["_law_source_here", "_law_last", "_law_most", "_law_far"] (spLChain K) := by
  refine D.ok scLChain (fun vs H Q E h => ?_) (fun f cdv A outer s H vs Q E hr h => ?_)
  · obtain ⟨_, _, _, _, rfl, _⟩ := h
    rfl
  obtain ⟨p, last, far, C, rfl, hsrc, hC, hf1, hf2, hla, q⟩ := h
  have hu := hr.units
  refine ⟨_, pss_cons (ps_set (i := 4) scLChain.nd rfl (.inl rfl) (pe_lst (pa_cons (pe_tup (pa_cons (pv 1) (pa_cons (pe_fx G2 hr (pa_cons (pv 0) pa_nil)) pa_nil))) pa_nil)))
    (pss_cons (ps_for PassesOwn.never rfl (pi_range1 (by rfl) B.range (pa_cons (pe_fx G1 (hr.mono (by decide)) (pa_cons (pv 0) (pa_cons (pv 2) pa_nil))) pa_nil)) (pg_name (i := 5) scLChain.nd rfl (.inl rfl))
      (pss_one (ps_expr (pe_bm PySem.F.plainAttrs_list PySem.F.slot_list_append PySem.F.type_list_append mt_append (pv 4) (pa_cons (pe_tup (pa_cons (pe_op op_addN (pe_op op_addN (pv 1) pe_int) (pe_fx G1 (hr.mono (by decide)) (pa_cons (pv 0) (pa_cons (pv 3) pa_nil)))) (pa_cons (pe_fx G2 hr (pa_cons (pv 0) pa_nil)) pa_nil))) pa_nil)))))
    (pss_cons (ps_if (pt_cmpR op_gt (pe_fx G1 (hr.mono (by decide)) (pa_cons (pv 0) (pa_cons pe_int pa_nil))) pe_int (nomark _))
      (pss_cons (ps_set (i := 8) scLChain.nd rfl (.inl rfl) (pe_callB (cr_sortD hu) (by rfl) B.sorted PyProof.Rows.boot_sorted (pa_cons (pe_lc (own := [("_law_width", 6), ("_law_rule_here", 7)]) (g := gTup K 2 (gCons (gName 6) (gCons (gName 7) gNil))) (tt := tYes) rfl scLChain.nd (pi_list (pv 4)) (blkOk_by (N := ["_law_source_here", "_law_last", "_law_most", "_law_far", "_law_found", "_law_turn", "_law_width", "_law_rule_here", "_law_falling"]) (sc := defScope sLChain) (by decide +kernel))
          (fun _ _ _ _ _ => pg_tup rfl (pgs_cons (pg_name (i := 6) scLChain.nd rfl (Or.inl rfl) (hf := Or.inr rfl)) (pgs_cons (pg_name (i := 7) scLChain.nd rfl (Or.inl rfl) (hf := Or.inr rfl)) pgs_nil))) (fun _ _ _ _ _ => pts_nil)
          (fun _ _ _ _ _ => pe_tup (pa_cons (pe_op op_sub pe_int (pv 6)) (pa_cons (pv 7) pa_nil)))) pa_nil)))
      (pss_one (ps_ret (pe_callTy call_tuple_of (by rfl) B.tuple PyProof.Rows.boot_tuple (pa_cons (pe_lc (own := [("_law_width", 6), ("_law_rule_here", 7)]) (g := gTup K 2 (gCons (gName 6) (gCons (gName 7) gNil))) (tt := tYes) rfl scLChain.nd (pi_list (pv 8)) (blkOk_by (N := ["_law_source_here", "_law_last", "_law_most", "_law_far", "_law_found", "_law_turn", "_law_width", "_law_rule_here", "_law_falling"]) (sc := defScope sLChain) (by decide +kernel))
          (fun _ _ _ _ _ => pg_tup rfl (pgs_cons (pg_name (i := 6) scLChain.nd rfl (Or.inl rfl) (hf := Or.inr rfl)) (pgs_cons (pg_name (i := 7) scLChain.nd rfl (Or.inl rfl) (hf := Or.inr rfl)) pgs_nil))) (fun _ _ _ _ _ => pts_nil)
          (fun _ _ _ _ _ => pe_tup (pa_cons (pe_op op_sub pe_int (pv 6)) (pa_cons (pv 7) pa_nil)))) pa_nil))))) pss_nil)
    (pss_one (ps_ret (pe_callTy call_tuple_of (by rfl) B.tuple PyProof.Rows.boot_tuple (pa_cons (pe_op op_cat (pe_slice sl_list (pv 4) (po_some pe_int) po_none) (pe_slice sl_list (pv 4) po_none (po_some pe_int))) pa_nil)))))), ?_⟩
  have hno := src_no hsrc
  refine ⟨_, rfl, _, rfl, p, C, rfl, hsrc, by omega, fun r0 H1 b1 s1 => ⟨(by show 2 ≤ sizeLine; decide), fun p1 hp1 => ⟨(by show 1 ≤ sizeLine; decide), fun L hL => ?_⟩⟩⟩
  have t1 := same_new hp1 (.tup [.int (last : Nat), .str r0.str])
  have t2 := same_new hL (.lst [.ref p1])
  have hd1 : Dp K _ (.ref p1) (dStep (last, r0)) := Dp.same t2 _ _ (Dp.mkPair upd_same (.int _) (.str _))
  have hL0 : (upd (upd H1 p1 (.tup [.int (last : Nat), .str r0.str])) L (.lst [.ref p1])) L = some (.lst [.ref p1]) := upd_same
  have b2 := b1.trans (But.of_same (t1.trans t2))
  have s2 := s1.same (t1.trans t2)
  have hLp : L ≠ p := (s1.same t1).ne hL
  have hLH : H L = none := (b1.trans (But.of_same t1)).free hL hLp
  clear t1 t2 hp1 hL
  generalize upd (upd H1 p1 (.tup [.int (last : Nat), .str r0.str])) L (.lst [.ref p1]) = H2 at hd1 hL0 b2 s2
  refine ⟨_, rfl, _, rfl, p, 5, C + 1, rfl, s2, by omega, by decide, by decide, fun k H3 hk b3 s3 => ⟨_, rfl, by omega, by omega, ?_⟩⟩
  rw [Int.toNat_natCast]
  refine for_range (lo := 0) (n := k) (fun i σ H4 => ∃ y5 acc c, σ = [some (.ref p), some (.int (last : Nat)), some (.int 5), some (.int (far : Nat)), some (.ref L), y5, none, none, none] ∧ But p H H4 ∧ Src H4 p (C + 2 + 2 * i) ∧ H4 L = some (.lst acc) ∧ DpAll K H4 acc (c.map dStep) ∧ c.length = i + 1 ∧ (∃ s ∈ c, s.1 = last) ∧ ∀ s ∈ c, last ≤ s.1 ∧ s.1 ≤ last + 5)
    ⟨_, [.ref p1], [(last, r0)], rfl, b2.trans b3, s3, b3 _ _ hLp hL0, .cons (dp_but b3 (src_no s2) _ _ (still_step _) hd1) .nil, rfl, ⟨(last, r0), List.mem_cons_self, rfl⟩, fun s hs => by
      rw [List.mem_singleton.mp hs]
      exact ⟨Nat.le_refl _, Nat.le_add_right _ _⟩⟩ (fun i σ H4 hi p4 => ?_) (fun σ H4 p4 => ?_)
  · obtain ⟨y5, acc, c, rfl, b4, s4, hL4, hacc, hcl, hone, hall⟩ := p4
    refine ⟨_, rfl, .inl ⟨rfl, _, SqL.of hL4⟩, _, rfl, last, 1, rfl, rfl, _, rfl, _, rfl, p, far, C + 2 + 2 * i, rfl, s4, by omega, hf1, by omega, fun d H5 hd b5 s5 => ⟨last + 1, d, rfl, rfl, _, rfl, p, C + 2 + 2 * i + 1, rfl, s5, by omega, fun r H6 b6 s6 => ⟨(by show 2 ≤ sizeLine; decide), fun p2 hp2 => ?_⟩⟩⟩
    have hL6 := b6 _ _ hLp (b5 _ _ hLp hL4)
    have hacc6 := dpa_but b6 (src_no s5) _ _ (stillAll_map _ still_step _) (dpa_but b5 (src_no s4) _ _ (stillAll_map _ still_step _) hacc)
    have t := same_new hp2 (.tup [.int ((last + 1 + d : Nat) : Int), .str r.str])
    refine ⟨L, acc, _, rfl, rfl, t _ _ hL6, ?_, _, _, c ++ [(last + 1 + d, r)], rfl, (((b4.trans b5).trans b6).trans (But.of_same t)).put hLH, ((s6.same t).put hLp).mono (by omega), upd_same, ?_, by rw [List.length_append]; simp only [List.length_singleton]; omega, ?_, ?_⟩
    · rw [hacc.len, List.length_map]
      exact small1000 (by omega)
    · rw [List.map_append]
      exact app_still (t _ _ hL6) t hacc6 (Dp.mkPair upd_same (.int _) (.str _)) (stillAll_map _ still_step _) (still_step _)
    · obtain ⟨s, hs, e⟩ := hone
      exact ⟨s, List.mem_append_left _ hs, e⟩
    · intro s hs
      rcases List.mem_append.mp hs with hs | hs
      · exact hall s hs
      · rw [List.mem_singleton.mp hs]
        exact ⟨by show last ≤ last + 1 + d; omega, by show last + 1 + d ≤ last + 5; omega⟩
  · obtain ⟨y5, acc, c, rfl, b4, s4, hL4, hacc, hcl, hone, hall⟩ := p4
    have hgen : Gen last c := ⟨by omega, by omega, hone, hall⟩
    refine ⟨_, rfl, p, 4, _, rfl, s4, by omega, by decide, by decide, fun d H5 hd b5 s5 => ⟨_, _, rfl, rfl, _, rfl, ?_⟩⟩
    have hL5 := b5 _ _ hLp hL4
    have hacc5 := dpa_but b5 (src_no s4) _ _ (stillAll_map _ still_step _) hacc
    have b45 := b4.trans b5
    have hal : acc.length = c.length := by rw [hacc.len, List.length_map]
    generalize decide ((0 : Int) < (d : Int)) = bb
    cases bb with
    | true =>
      refine iteT ⟨_, rfl, L, rfl, ⟨_, SqL.of hL5⟩, fun D hD => lc_list (K := K) (a := L) (xs := acc) (fun i H6 => Same H5 H6 ∧ ∃ acc2, H6 D = some (.lst acc2) ∧ DpAll K H6 acc2 ((c.take i).map dNeg)) ⟨same_new hD _, [], upd_same, .nil⟩ (fun i H6 _ p => SqL.of (p.1 _ _ hL5)) (fun i x H6 hi p6 => ?_) (fun H6 p6 => ?_)⟩
      · obtain ⟨s6, acc2, hD6, hacc6⟩ := p6
        obtain ⟨st, e1, e2⟩ := dpc_get hacc5 hi
        obtain ⟨b, rfl, hb⟩ := dp_step (Dp.same s6 _ _ e2)
        refine ⟨b, _, rfl, hb, rfl, _, _, rfl, _, _, rfl, rfl, rfl, _, rfl, _, _, rfl, rfl, _, rfl, (by show 2 ≤ sizeLine; decide), fun p3 hp3 => ?_⟩
        have t := same_new hp3 (.tup [.int (0 - ((st.1 : Nat) : Int)), .str st.2.str])
        refine ⟨acc2, t _ _ hD6, ?_, (s6.trans t).put hD, _, upd_same, ?_⟩
        · rw [hacc6.len, List.length_map, List.length_take]
          exact small1000 (by omega)
        · rw [List.take_add_one, e1, List.map_append]
          exact app_still (t _ _ hD6) t hacc6 (Dp.mkPair upd_same (.int _) (.str _)) (stillAll_map _ still_neg _) (still_neg _)
      · obtain ⟨s6, acc2, hD6, hacc6⟩ := p6
        rw [hal, List.take_length] at hacc6
        refine ⟨D, acc2, c.map dNeg, rfl, SqL.of hD6, hacc6, ?_, .inl ?_, ?_, fun ys es p4 hperm hys hp4 => ?_⟩
        · intro x hx y hy
          obtain ⟨a, _, rfl⟩ := List.mem_map.mp hx
          obtain ⟨b, _, rfl⟩ := List.mem_map.mp hy
          exact alike_neg a b
        · intro x hx
          obtain ⟨a, _, rfl⟩ := List.mem_map.mp hx
          exact ⟨_, _, rfl⟩
        · intro x hx
          obtain ⟨a, _, rfl⟩ := List.mem_map.mp hx
          exact Nat.le_trans (show (dNeg a).depth ≤ 1 by simp [dNeg, PyData.depth, PyData.depthAll]) (by decide)
        obtain ⟨c', hpc, rfl⟩ := perm_map_inv dNeg hperm c rfl
        have t4 := same_new hp4 (.lst ys)
        have hys4 := DpAll.same t4 _ _ hys
        have hyl : ys.length = c'.length := by rw [hys.len, List.length_map]
        have hcl' : c'.length ≤ 5 := by rw [hpc.length_eq]; exact hgen.le
        have s64 := s6.trans t4
        refine ⟨_, rfl, p4, rfl, ⟨_, SqL.of upd_same⟩, fun D2 hD2 => lc_list (K := K) (a := p4) (xs := ys) (fun i H7 => Same (upd H6 p4 (.lst ys)) H7 ∧ ∃ acc2, H7 D2 = some (.lst acc2) ∧ DpAll K H7 acc2 ((c'.take i).map dStep)) ⟨same_new hD2 _, [], upd_same, .nil⟩ (fun i H7 _ p => SqL.of (p.1 _ _ upd_same)) (fun i x H7 hi p7 => ?_) (fun H7 p7 => ?_)⟩
        · obtain ⟨s7, acc3, hD7, hacc7⟩ := p7
          obtain ⟨d', e1, e2⟩ := hys4.get hi
          rw [List.getElem?_map] at e1
          cases hci : c'[i]? with
          | none => rw [hci] at e1; cases e1
          | some st =>
          rw [hci] at e1
          cases e1
          obtain ⟨b, rfl, hb⟩ := dp_neg (Dp.same s7 _ _ e2)
          refine ⟨b, _, rfl, hb, rfl, _, _, rfl, _, _, rfl, rfl, rfl, _, rfl, _, _, rfl, rfl, _, rfl, (by show 2 ≤ sizeLine; decide), fun p3 hp3 => ?_⟩
          have e0 : (0 : Int) - (0 - ((st.1 : Nat) : Int)) = ((st.1 : Nat) : Int) := by omega
          show ∃ acc, (upd H7 p3 (.tup [.int ((0 : Int) - (0 - ((st.1 : Nat) : Int))), .str st.2.str])) D2 = some (.lst acc) ∧ acc.length < sizeLine ∧ Same (upd H6 p4 (.lst ys)) (upd (upd H7 p3 (.tup [.int ((0 : Int) - (0 - ((st.1 : Nat) : Int))), .str st.2.str])) D2 (.lst (acc ++ [.ref p3]))) ∧ ∃ acc2, (upd (upd H7 p3 (.tup [.int ((0 : Int) - (0 - ((st.1 : Nat) : Int))), .str st.2.str])) D2 (.lst (acc ++ [.ref p3]))) D2 = some (.lst acc2) ∧ DpAll K (upd (upd H7 p3 (.tup [.int ((0 : Int) - (0 - ((st.1 : Nat) : Int))), .str st.2.str])) D2 (.lst (acc ++ [.ref p3]))) acc2 ((c'.take (i + 1)).map dStep)
          rw [e0]
          have t := same_new hp3 (.tup [.int ((st.1 : Nat) : Int), .str st.2.str])
          refine ⟨acc3, t _ _ hD7, ?_, (s7.trans t).put hD2, _, upd_same, ?_⟩
          · rw [hacc7.len, List.length_map, List.length_take]
            exact small1000 (by omega)
          · rw [List.take_add_one, hci, List.map_append]
            exact app_still (t _ _ hD7) t hacc7 (Dp.mkPair upd_same (.int _) (.str _)) (stillAll_map _ still_step _) (still_step _)
        · obtain ⟨s7, acc3, hD7, hacc7⟩ := p7
          rw [hyl, List.take_length] at hacc7
          have sA := s64.trans s7
          exact ⟨D2, acc3, rfl, .inl ⟨SqL.of hD7, fun p5 hp5 => q _ _ c' (hgen.perm hpc) (b45.trans (But.of_same (sA.trans (same_new hp5 _)))) ((s5.same (sA.trans (same_new hp5 _))).mono (by omega)) (Dp.newTup hp5 hacc7)⟩⟩
    | false =>
      have hne : acc ≠ [] := fun e => by rw [e] at hal; simp at hal; omega
      refine iteF ⟨_, rfl, _, rfl, L, acc, rfl, SqL.of hL5, fun q1 hq1 => ?_⟩
      rw [cut_from1 acc hne]
      have t1 := same_new hq1 (.lst (acc.drop 1))
      refine ⟨_, rfl, _, rfl, L, acc, rfl, SqL.of (t1 _ _ hL5), fun q2 hq2 => ?_⟩
      rw [cut_to1 acc hne]
      have t2 := same_new hq2 (.lst (acc.take 1))
      refine ⟨q1, q2, _, _, rfl, rfl, t2 _ _ upd_same, upd_same, ?_, fun q3 hq3 => ?_⟩
      · rw [List.length_drop, List.length_take]
        exact small (by omega)
      have t3 := same_new hq3 (.lst (acc.drop 1 ++ acc.take 1))
      have tA := (t1.trans t2).trans t3
      have hdp : DpAll K (upd (upd (upd H5 q1 (.lst (acc.drop 1))) q2 (.lst (acc.take 1))) q3 (.lst (acc.drop 1 ++ acc.take 1))) (acc.drop 1 ++ acc.take 1) ((c.drop 1 ++ c.take 1).map dStep) := by
        rw [List.map_append, List.map_drop, List.map_take]
        exact (dpa_drop 1 (DpAll.same tA _ _ hacc5)).append (dpa_take 1 (DpAll.same tA _ _ hacc5))
      have hperm : (c.drop 1 ++ c.take 1).Perm c := by
        have := List.perm_append_comm (l₁ := c.drop 1) (l₂ := c.take 1)
        rw [List.take_append_drop] at this
        exact this
      exact ⟨q3, _, rfl, .inl ⟨SqL.of upd_same, fun p5 hp5 => q _ _ (c.drop 1 ++ c.take 1) (hgen.perm hperm) (b45.trans (But.of_same (tA.trans (same_new hp5 _)))) ((s5.same (tA.trans (same_new hp5 _))).mono (by omega)) (Dp.newTup hp5 hdp)⟩⟩
end
end K69
set_option Elab.async false
set_option linter.all false
set_option exponentiation.threshold 2000
set_option maxRecDepth 100000
set_option maxHeartbeats 8000000
namespace K69
open PySem PySem.Spec PyProof.Rows L2 SR RZ
theorem But.same0 {p : Addr} {H H1 H2 : Hp} (b : But p H1 H2) (s : Same H H1) (h : H p = none) : Same H H2 := fun x o e => b x o (fun z => by rw [z, h] at e; cases e) (s x o e)
section
variable {P : Program} {w : World} {K : PySem.W.Frag} {mg : Str → Option Value} {base : Heap}
abbrev sLaw : Stmt := topS 70
theorem scLaw : FnScope ["_law_script", "_law_k", "_law_source_here", "_law_turn"] ["_law_script"] (defScope sLaw) := ⟨rfl, rfl, rfl, by decide +kernel, rfl, by decide +kernel, by decide +kernel⟩
def spLaw (K : PySem.W.Frag) : Sp := fun vs H Q _ => ∃ (l : Addr) (ns : List Int), vs = [.ref l] ∧ SqL K H l (ns.map V.int) ∧ ∀ H', Q (.bl true) H'
theorem ok_law (B : Blt mg) (D : Df K mg "law" sLaw ["_law_script"]) (G1 : Fx P w K mg base 1 "_law_source" ["_law_script", "_law_k"] (spSource K)) (G2 : Fx P w K mg base 2 "_law_pick" ["_law_source_here", "_law_some"] spPick) (G3 : Fx P w K mg base 4 "_law_chain" ["_law_source_here", "_law_last", "_law_most", "_law_far"] (spLChain K))
    (G4 : Fx P w K mg base 13 "_law_right" ["_law_chain_here"] (spRight K)) : ∀ f fd, Fun K "law" "law" sLaw f fd → FnOk P w K mg base CX0 14 f fd ["_law_script"] (spLaw K) := by
  intro f fd F
  refine F.ok scLaw (fun vs H Q E h => ?_) (fun cdv A outer s H vs Q E hr h => ?_)
  · obtain ⟨_, _, rfl, _⟩ := h
    rfl
  obtain ⟨l, ns, rfl, hs, q⟩ := h
  refine ⟨_, pss_cons (ps_for PassesOwn.never rfl (pi_range1 (by rfl) B.range (pa_cons (pe_op op_add pe_int (pe_callB (call_min2 rfl) (by rfl) B.min boot_min (pa_cons pe_int (pa_cons (pe_callB call_len_seq (by rfl) B.len PySem.boot_len (pa_cons (pv 0) pa_nil)) pa_nil)))) pa_nil)) (pg_name (i := 1) scLaw.nd rfl (.inl rfl))
      (pss_cons (ps_set (i := 2) scLaw.nd rfl (.inl rfl) (pe_fx G1 (hr.mono (by decide)) (pa_cons (pv 0) (pa_cons (pv 1) pa_nil))))
      (pss_one (ps_for PassesOwn.never rfl (pi_range1 (by rfl) B.range (pa_cons pe_int pa_nil)) (pg_name (i := 3) scLaw.nd rfl (.inl rfl))
        (pss_one (ps_if (pt_not (pt_val (pe_fx G4 hr (pa_cons (pe_fx G3 (hr.mono (by decide)) (pa_cons (pv 2) (pa_cons (pe_fx G2 (hr.mono (by decide)) (pa_cons (pv 2) (pa_cons (pe_lst (pa_cons pe_int (pa_cons pe_int (pa_cons pe_int pa_nil)))) pa_nil))) (pa_cons pe_int (pa_cons (pe_ifExp (pt_cmpR op_eq (pv 3) pe_int (nomark _)) pe_int pe_int) pa_nil))))) pa_nil)))) (pss_one (ps_ret pe_bl)) pss_nil))))))
    (pss_one (ps_ret pe_bl)), ?_⟩
  refine ⟨_, rfl, l, _, rfl, .inl hs, _, _, rfl, _, _, rfl, rfl, _, rfl, ?_⟩
  rw [List.length_map]
  have hm : ∀ m : Int, (if m < 1 then m else 1) ≤ 1 := fun m => by split <;> omega
  have hm1 := hm (ns.length : Int)
  have hm0 : (0 : Int) ≤ (if (ns.length : Int) < 1 then (ns.length : Int) else 1) := by split <;> omega
  generalize (if (ns.length : Int) < 1 then (ns.length : Int) else 1) = m at hm0 hm1
  refine ⟨by omega, by omega, ?_⟩
  refine for_range (lo := 0) (n := (1 + m).toNat) (fun k σ H1 => ∃ y1 y2 y3, σ = [some (.ref l), y1, y2, y3] ∧ Same H H1) ⟨_, _, _, rfl, Same.refl _⟩ (fun k σ H1 hk p1 => ?_) (fun σ H1 p1 => ?_)
  · obtain ⟨y1, y2, y3, rfl, s1⟩ := p1
    rw [show (0 : Int) + (k : Int) = ((k : Nat) : Int) by omega]
    refine ⟨_, rfl, _, rfl, l, ns, k, rfl, Same.lstL s1 hs, by omega, fun p H2 hp s2 src => ?_⟩
    have hp0 : H p = none := s1.free hp
    refine ⟨_, rfl, by decide, by decide, ?_⟩
    refine for_range (lo := 0) (n := 2) (fun t σ H3 => ∃ y3, σ = [some (.ref l), some (.int (k : Nat)), some (.ref p), y3] ∧ Same H H3 ∧ Src H3 p (0 + 30 * t)) ⟨_, rfl, s1.trans s2, src⟩ (fun t σ H3 ht p3 => ?_) (fun σ H3 p3 => ?_)
    · obtain ⟨y3, rfl, s3, src3⟩ := p3
      refine ⟨_, rfl, _, rfl, (by show 3 ≤ sizeLine; decide), fun L hL => ?_⟩
      have sL := same_new hL (.lst [.int 1, .int 2, .int 3])
      refine ⟨p, L, [.int 1, .int 2, .int 3], _, rfl, src3.same sL, by omega, upd_same, src3.ne hL, (by show 0 < 3; decide), (by show 3 ≤ 1000; decide), fun x H4 hx b4 src4 => ?_⟩
      obtain ⟨last, rfl, hl1, hl3⟩ : ∃ last : Nat, x = .int (last : Nat) ∧ 1 ≤ last ∧ last ≤ 3 := by
        rcases List.mem_cons.mp hx with rfl | hx
        · exact ⟨1, rfl, by decide, by decide⟩
        rcases List.mem_cons.mp hx with rfl | hx
        · exact ⟨2, rfl, by decide, by decide⟩
        rw [List.mem_singleton.mp hx]
        exact ⟨3, rfl, by decide, by decide⟩
      have s4 : Same H H4 := b4.same0 (s3.trans sL) hp0
      -- the chain, and that it's right
      have fin : ∀ (far : Nat) (y : V), y = .int (far : Nat) → 1 ≤ far → far ≤ 5 → spLChain K [.ref p, .int (last : Nat), .int 5, y] H4 (fun v H5 => spRight K [v] H5 (fun v2 H6 => ∃ c, v2 = .bl c ∧ (if (!c) = true then Q (.bl false) H6 else ∃ y3, ([some (.ref l), some (.int (k : Nat)), some (.ref p), some (.int (0 + (t : Int)))] : L2.St) = [some (.ref l), some (.int (k : Nat)), some (.ref p), y3] ∧ Same H H6 ∧ Src H6 p (0 + 30 * (t + 1)))) E0) E0 := fun far y hy hf1 hf2 => by
        subst hy
        refine ⟨p, last, far, _, rfl, src4, by omega, hf1, hf2, by omega, fun v H5 c hgen b5 src5 hv => ?_⟩
        obtain ⟨wd, r, gs, tr⟩ := trim_tr hgen.pos
        have hwe : last = wd := IsLeast.uniq ⟨hgen.one, fun s hs => (hgen.all s hs).1⟩ tr.least
        subst hwe
        have hlen := tr.len
        have hle := hgen.le
        obtain ⟨s0, hs0, he0⟩ := tr.tot
        have h0 := (hgen.all s0 hs0).2
        refine ⟨v, c, last, r, gs, rfl, hv, ⟨hgen.pos, by omega, fun s hs => by have := hgen.all s hs; omega⟩, tr, by omega, by omega, hl3, fun s hs => by have := hgen.all s hs; omega, fun H6 s6 => ⟨true, rfl, ?_⟩⟩
        exact iteF ⟨_, rfl, (b5.same0 s4 hp0).trans s6, (src5.same s6).mono (by omega)⟩
      refine ⟨_, rfl, rfl, _, rfl, ?_⟩
      generalize decide (V.int ((0 : Int) + (t : Int)) = V.int 0) = bb
      cases bb with
      | true => exact iteT (fin 5 (.int 5) rfl (by decide) (by decide))
      | false => exact iteF (fin 3 (.int 3) rfl (by decide) (by decide))
    · obtain ⟨y3, rfl, s3, src3⟩ := p3
      exact ⟨_, _, _, rfl, s3⟩
  · exact q _
end
end K69
set_option Elab.async false
set_option linter.all false
set_option maxRecDepth 100000
set_option maxHeartbeats 8000000
namespace K69
open PySem PySem.Spec PyProof.Rows L2 SR RZ
section
variable {P : Program} {w : World} {K : PySem.W.Frag} {mg : Str → Option Value} {base : Heap}
/-- the defs, each by those it calls -/
theorem join (B : Blt mg) (T : Tf K w mg)
    (D0 : Df K mg "common_divisor" sGcd ["one", "other"])
    (D1 : Df K mg "lowest" sLowest ["n", "d"])
    (D2 : Df K mg "is_int" sIsInt ["value", "least"])
    (D3 : Df K mg "is_width" sIsWidth ["value"])
    (D4 : Df K mg "is_rule" sIsRule ["value"])
    (D5 : Df K mg "is_step" sIsStep ["value"])
    (D6 : Df K mg "is_chain" sIsChain ["value"])
    (D7 : Df K mg "check_chain" sCheckChain ["value"])
    (D8 : Df K mg "last_width" sLastWidth ["chain"])
    (D9 : Df K mg "trimmed" sTrimmed ["chain"])
    (D10 : Df K mg "last_down" sLastDown ["rule", "far", "parity"])
    (D11 : Df K mg "combined" sCombined ["pair", "rule", "far"])
    (D12 : Df K mg "thresholds" sThresholds ["chain"])
    (D13 : Df K mg "before_step" sBeforeStep ["threshold", "rule", "far", "parity"])
    (D14 : Df K mg "all_before" sAllBefore ["wanted", "rule", "far"])
    (D15 : Df K mg "merged" sMerged ["some"])
    (D16 : Df K mg "matches" sMatches ["wanted", "rule"])
    (D17 : Df K mg "most_far" sMostFar ["wanted"])
    (D18 : Df K mg "widened" sWidened ["steps", "by"])
    (D19 : Df K mg "least_steps" sLeast ["wanted", "count", "known"])
    (D20 : Df K mg "shortest" sShortest ["chain"])
    (D21 : Df K mg "_law_divisor" sLDiv ["_law_one", "_law_other"])
    (D22 : Df K mg "_law_low" sLLow ["_law_n", "_law_d"])
    (D23 : Df K mg "_law_cell_of" sCell ["_law_number", "_law_width"])
    (D24 : Df K mg "_law_place" sPlace ["_law_number", "_law_width"])
    (D25 : Df K mg "_law_end" sEnd ["_law_k", "_law_e"])
    (D26 : Df K mg "_law_goes_up" sGoes ["_law_k", "_law_place_here", "_law_rule_here"])
    (D27 : Df K mg "_law_rounded" sRound ["_law_number", "_law_width", "_law_rule_here"])
    (D28 : Df K mg "_law_point" sPoint ["_law_k", "_law_index", "_law_parts"])
    (D29 : Df K mg "_law_applied" sApplied ["_law_number", "_law_chain_here"])
    (D30 : Df K mg "_law_least" sLLeast ["_law_chain_here"])
    (D31 : Df K mg "_law_cut" sCut ["_law_chain_here", "_law_k"])
    (D32 : Df K mg "_law_cuts" sCuts ["_law_chain_here"])
    (D33 : Df K mg "_law_is_count" sIsCount ["_law_value"])
    (D34 : Df K mg "_law_is_chain" sLIsChain ["_law_value"])
    (D35 : Df K mg "_law_split" sSplit ["_law_rule_here", "_law_far", "_law_parity"])
    (D36 : Df K mg "_law_followed" sFollowed ["_law_pair", "_law_rule_here", "_law_far"])
    (D37 : Df K mg "_law_single" sSingle ["_law_rule_here"])
    (D38 : Df K mg "_law_of_chain" sOf ["_law_chain_here"])
    (D39 : Df K mg "_law_all" sAll ["_law_last", "_law_count", "_law_widest"])
    (D40 : Df K mg "_law_right" sRight ["_law_chain_here"])
    (D41 : Df K mg "_law_source" sSource ["_law_script", "_law_k"])
    (D42 : Df K mg "_law_draw" sDraw ["_law_source_here", "_law_size"])
    (D43 : Df K mg "_law_pick" sPick ["_law_source_here", "_law_some"])
    (D44 : Df K mg "_law_rule" sRule ["_law_source_here"])
    (D45 : Df K mg "_law_chain" sLChain ["_law_source_here", "_law_last", "_law_most", "_law_far"])
    (DL : Df K mg "law" sLaw ["_law_script"]) : ∀ f fd, Fun K "law" "law" sLaw f fd → FnOk P w K mg base CX0 14 f fd ["_law_script"] (spLaw K) := by
  have g_gcd := ok_gcd (P := P) (w := w) (base := base) D0
  have g_lowest := ok_lowest (P := P) (w := w) (base := base) D1 g_gcd
  have g_is_int := ok_is_int (P := P) (w := w) (base := base) B D2
  have g_is_width := ok_is_width (P := P) (w := w) (base := base) T D3 g_is_int
  have g_is_rule := ok_is_rule (P := P) (w := w) (base := base) B T D4
  have g_is_step := ok_is_step (P := P) (w := w) (base := base) B T D5 g_is_width g_is_rule
  have g_is_chain := ok_is_chain (P := P) (w := w) (base := base) B T D6 g_is_step
  have g_check_chain := ok_check_chain (P := P) (w := w) (base := base) D7 g_is_chain
  have g_last_width := ok_last_width (P := P) (w := w) (base := base) B D8 g_check_chain
  have g_trimmed := ok_trimmed (P := P) (w := w) (base := base) B D9 g_check_chain
  have g_last_down := ok_last_down (P := P) (w := w) (base := base) T D10
  have g_combined := ok_combined (P := P) (w := w) (base := base) B D11 g_last_down g_lowest
  have g_thresholds := ok_thresholds (P := P) (w := w) (base := base) T D12 g_trimmed g_combined
  have g_before_step := ok_before_step (P := P) (w := w) (base := base) T D13 g_last_down g_lowest
  have g_all_before := ok_all_before (P := P) (w := w) (base := base) B D14 g_before_step
  have g_merged := ok_merged (P := P) (w := w) (base := base) B D15
  have g_matches := ok_matches (P := P) (w := w) (base := base) B T D16
  have g_most_far := ok_most_far (P := P) (w := w) (base := base) B D17
  have g_widened := ok_widened (P := P) (w := w) (base := base) B D18
  have g_least := ok_least (P := P) (w := w) (base := base) B T D19 g_matches g_most_far g_all_before g_merged g_widened 5
  have g_shortest := ok_shortest (P := P) (w := w) (base := base) B T D20 g_last_width g_trimmed g_thresholds g_least g_widened
  have g_ldiv := ok_ldiv (P := P) (w := w) (base := base) D21
  have g_llow := ok_llow (P := P) (w := w) (base := base) D22 g_ldiv
  have g_cell := ok_cell (P := P) (w := w) (base := base) B D23
  have g_place := ok_place (P := P) (w := w) (base := base) B D24 g_cell g_llow
  have g_end := ok_end (P := P) (w := w) (base := base) B D25 g_llow
  have g_goes := ok_goes (P := P) (w := w) (base := base) D26
  have g_round := ok_round (P := P) (w := w) (base := base) B D27 g_cell g_place g_end g_goes
  have g_point := ok_point (P := P) (w := w) (base := base) D28 g_llow
  have g_applied := ok_applied (P := P) (w := w) (base := base) D29 g_round
  have g_lleast := ok_lleast (P := P) (w := w) (base := base) B D30
  have g_cut := ok_cut (P := P) (w := w) (base := base) B D31 g_lleast g_applied g_point g_llow
  have g_cuts := ok_cuts (P := P) (w := w) (base := base) B D32 g_lleast g_cut
  have g_is_count := ok_is_count (P := P) (w := w) (base := base) B D33
  have g_lis_chain := ok_lis_chain (P := P) (w := w) (base := base) B D34 g_is_count
  have g_split := ok_split (P := P) (w := w) (base := base) B D35
  have g_followed := ok_followed (P := P) (w := w) (base := base) B D36 g_split
  have g_single := ok_single (P := P) (w := w) (base := base) D37
  have g_of := ok_of (P := P) (w := w) (base := base) B D38 g_single g_followed
  have g_all := ok_all (P := P) (w := w) (base := base) B D39
  have g_right := ok_right (P := P) (w := w) (base := base) B D40 g_lleast g_shortest g_cuts g_lis_chain g_of g_all
  have g_source := ok_source (P := P) (w := w) (base := base) B D41
  have g_draw := ok_draw (P := P) (w := w) (base := base) D42
  have g_pick := ok_pick (P := P) (w := w) (base := base) B D43 g_draw
  have g_rule := ok_rule (P := P) (w := w) (base := base) D44 g_pick
  have g_lchain := ok_lchain (P := P) (w := w) (base := base) B D45 g_draw g_rule
  exact ok_law B DL g_source g_pick g_lchain g_right
end
section
variable {w : World} {K : PySem.W.Frag} {mg : Str → Option Value} {h : Heap}
theorem df_mk {x : Str} {st : Stmt} {ps : List Str} {f : Addr} {od an : Option Addr} {sl : Array (Option Value)} {oc kV dc pm cd ct : Value} (X : K.In h) (G : h.Ns mainGlobals mg)
    (a : PySem.W.nsIn K mainGlobals x = some (some (.ref f))) (l : K.lookup f = some ⟨oc, od, .func (PySem.W.fnOf x x (defArgs st) (defBody st) (defScope st) .none kV dc pm an cd ct), sl⟩) (c : PySem.W.codeIn K cd x = true) (k : PySem.W.keepIn K (.ref f) = true)
    (hb : ∀ (kV doc pm : Value) (an : Option Addr) (cdv ct : Value) (us : List Value), us.length = ps.length → bindArgs (PySem.W.fnOf x x (defArgs st) (defBody st) (defScope st) .none kV doc pm an cdv ct) ⟨us, []⟩ = pure (ps.zip us)) : Df K mg x st ps :=
  ⟨f, _, fun_mk l c k, PySem.W.mg_of X G a, (fun_mk l c k).binds hb⟩
theorem sqt_K {a : Addr} {xs : List V} {its : Array Value} {n : Nat} {sl : Array (Option Value)} (l : K.lookup a = some ⟨.type "tuple", none, .seq its n, sl⟩) (hz : its.size ≤ sizeLine) (hv : Vals xs its.toList) : ∀ H, SqT K H a xs :=
  fun H => .inr ⟨_, its, n, l, rfl, rfl, hz, hv⟩
theorem th_mk {a b : Addr} {t : Th} {n1 n2 : Nat} {sl1 sl2 : Array (Option Value)} {k1 k2 k3 : Tok} (l : K.lookup a = some ⟨.type "tuple", none, .seq #[.ref b, .str (side t.up) k1] n1, sl1⟩) (l2 : K.lookup b = some ⟨.type "tuple", none, .seq #[.int (t.n : Nat) k2, .int (t.d : Nat) k3] n2, sl2⟩) : ∀ H, Dp K H (.ref a) (dTh t) := fun H =>
  .tup (sqt_K (xs := [.ref b, .str (side t.up)]) l (by show 2 ≤ sizeLine; decide) (.cons rfl (.cons ⟨_, rfl⟩ .nil)) H) (.cons (.tup (sqt_K (xs := [.int (t.n : Nat), .int (t.d : Nat)]) l2 (by show 2 ≤ sizeLine; decide) (.cons ⟨_, rfl⟩ (.cons ⟨_, rfl⟩ .nil)) H) (.cons (.int _) (.cons (.int _) .nil))) (.cons (.str _) .nil))
theorem by_mk {d u v aX : Addr} {es : Array DictEntry} {m n : Nat} {sl : Array (Option Value)} (r : Rule) (ld : K.lookup d = some ⟨.type "dict", none, .dict es m, #[]⟩) (kl : PySem.W.KeysLit w.params es.toList) (hn : PySem.W.nsIn K d r.str = some (some (.ref aX)))
    (l : K.lookup aX = some ⟨.type "tuple", none, .seq #[.ref u, .ref v] n, sl⟩) (h1 : ∀ H, Dp K H (.ref u) (dTh (byRule r).1)) (h2 : ∀ H, Dp K H (.ref v) (dTh (byRule r).2)) : ∃ a, KDct K w d r.str (.ref a) ∧ ∀ H, Dp K H (.ref a) (dP (byRule r)) :=
  ⟨aX, ⟨es, m, .ref aX, ld, kl, hn, rfl⟩, fun H => .tup (sqt_K (xs := [.ref u, .ref v]) l (by show 2 ≤ sizeLine; decide) (.cons rfl (.cons rfl .nil)) H) (.cons (h1 H) (.cons (h2 H) .nil))⟩
theorem top_mk {l : PySem.W.OpenLaw} {fa : Addr} {t_most : Tok}
    {t_pair : Tok}
    {t_steps : Tok}
    {t_down : Tok}
    {t_up : Tok}
    {aR : Addr} {nR : Nat} {slR : Array (Option Value)} {r1 r2 r3 r4 r5 r6 : Tok}
    {dB : Addr} {es : Array DictEntry} {mB : Nat}
    {a_never e_never : Addr} {n_never m_never : Nat} {s_never z_never : Array (Option Value)} {x_never y_never w_never : Tok}
    {a_always e_always : Addr} {n_always m_always : Nat} {s_always z_always : Array (Option Value)} {x_always y_always w_always : Tok}
    {a_tieDown e_tieDown : Addr} {n_tieDown m_tieDown : Nat} {s_tieDown z_tieDown : Array (Option Value)} {x_tieDown y_tieDown w_tieDown : Tok}
    {a_tieUp e_tieUp : Addr} {n_tieUp m_tieUp : Nat} {s_tieUp z_tieUp : Array (Option Value)} {x_tieUp y_tieUp w_tieUp : Tok}
    {f_down : Addr} {k_down : Nat} {j_down : Array (Option Value)}
    {f_hdown : Addr} {k_hdown : Nat} {j_hdown : Array (Option Value)}
    {f_heven : Addr} {k_heven : Nat} {j_heven : Array (Option Value)}
    {f_hup : Addr} {k_hup : Nat} {j_hup : Array (Option Value)}
    {f_odd : Addr} {k_odd : Nat} {j_odd : Array (Option Value)}
    {f_up : Addr} {k_up : Nat} {j_up : Array (Option Value)}
    {F0 : Addr} {od0 an0 : Option Addr} {sl0 : Array (Option Value)} {oc0 kV0 dc0 pm0 cd0 ct0 : Value}
    {F1 : Addr} {od1 an1 : Option Addr} {sl1 : Array (Option Value)} {oc1 kV1 dc1 pm1 cd1 ct1 : Value}
    {F2 : Addr} {od2 an2 : Option Addr} {sl2 : Array (Option Value)} {oc2 kV2 dc2 pm2 cd2 ct2 : Value}
    {F3 : Addr} {od3 an3 : Option Addr} {sl3 : Array (Option Value)} {oc3 kV3 dc3 pm3 cd3 ct3 : Value}
    {F4 : Addr} {od4 an4 : Option Addr} {sl4 : Array (Option Value)} {oc4 kV4 dc4 pm4 cd4 ct4 : Value}
    {F5 : Addr} {od5 an5 : Option Addr} {sl5 : Array (Option Value)} {oc5 kV5 dc5 pm5 cd5 ct5 : Value}
    {F6 : Addr} {od6 an6 : Option Addr} {sl6 : Array (Option Value)} {oc6 kV6 dc6 pm6 cd6 ct6 : Value}
    {F7 : Addr} {od7 an7 : Option Addr} {sl7 : Array (Option Value)} {oc7 kV7 dc7 pm7 cd7 ct7 : Value}
    {F8 : Addr} {od8 an8 : Option Addr} {sl8 : Array (Option Value)} {oc8 kV8 dc8 pm8 cd8 ct8 : Value}
    {F9 : Addr} {od9 an9 : Option Addr} {sl9 : Array (Option Value)} {oc9 kV9 dc9 pm9 cd9 ct9 : Value}
    {F10 : Addr} {od10 an10 : Option Addr} {sl10 : Array (Option Value)} {oc10 kV10 dc10 pm10 cd10 ct10 : Value}
    {F11 : Addr} {od11 an11 : Option Addr} {sl11 : Array (Option Value)} {oc11 kV11 dc11 pm11 cd11 ct11 : Value}
    {F12 : Addr} {od12 an12 : Option Addr} {sl12 : Array (Option Value)} {oc12 kV12 dc12 pm12 cd12 ct12 : Value}
    {F13 : Addr} {od13 an13 : Option Addr} {sl13 : Array (Option Value)} {oc13 kV13 dc13 pm13 cd13 ct13 : Value}
    {F14 : Addr} {od14 an14 : Option Addr} {sl14 : Array (Option Value)} {oc14 kV14 dc14 pm14 cd14 ct14 : Value}
    {F15 : Addr} {od15 an15 : Option Addr} {sl15 : Array (Option Value)} {oc15 kV15 dc15 pm15 cd15 ct15 : Value}
    {F16 : Addr} {od16 an16 : Option Addr} {sl16 : Array (Option Value)} {oc16 kV16 dc16 pm16 cd16 ct16 : Value}
    {F17 : Addr} {od17 an17 : Option Addr} {sl17 : Array (Option Value)} {oc17 kV17 dc17 pm17 cd17 ct17 : Value}
    {F18 : Addr} {od18 an18 : Option Addr} {sl18 : Array (Option Value)} {oc18 kV18 dc18 pm18 cd18 ct18 : Value}
    {F19 : Addr} {od19 an19 : Option Addr} {sl19 : Array (Option Value)} {oc19 kV19 dc19 pm19 cd19 ct19 : Value}
    {F20 : Addr} {od20 an20 : Option Addr} {sl20 : Array (Option Value)} {oc20 kV20 dc20 pm20 cd20 ct20 : Value}
    {F21 : Addr} {od21 an21 : Option Addr} {sl21 : Array (Option Value)} {oc21 kV21 dc21 pm21 cd21 ct21 : Value}
    {F22 : Addr} {od22 an22 : Option Addr} {sl22 : Array (Option Value)} {oc22 kV22 dc22 pm22 cd22 ct22 : Value}
    {F23 : Addr} {od23 an23 : Option Addr} {sl23 : Array (Option Value)} {oc23 kV23 dc23 pm23 cd23 ct23 : Value}
    {F24 : Addr} {od24 an24 : Option Addr} {sl24 : Array (Option Value)} {oc24 kV24 dc24 pm24 cd24 ct24 : Value}
    {F25 : Addr} {od25 an25 : Option Addr} {sl25 : Array (Option Value)} {oc25 kV25 dc25 pm25 cd25 ct25 : Value}
    {F26 : Addr} {od26 an26 : Option Addr} {sl26 : Array (Option Value)} {oc26 kV26 dc26 pm26 cd26 ct26 : Value}
    {F27 : Addr} {od27 an27 : Option Addr} {sl27 : Array (Option Value)} {oc27 kV27 dc27 pm27 cd27 ct27 : Value}
    {F28 : Addr} {od28 an28 : Option Addr} {sl28 : Array (Option Value)} {oc28 kV28 dc28 pm28 cd28 ct28 : Value}
    {F29 : Addr} {od29 an29 : Option Addr} {sl29 : Array (Option Value)} {oc29 kV29 dc29 pm29 cd29 ct29 : Value}
    {F30 : Addr} {od30 an30 : Option Addr} {sl30 : Array (Option Value)} {oc30 kV30 dc30 pm30 cd30 ct30 : Value}
    {F31 : Addr} {od31 an31 : Option Addr} {sl31 : Array (Option Value)} {oc31 kV31 dc31 pm31 cd31 ct31 : Value}
    {F32 : Addr} {od32 an32 : Option Addr} {sl32 : Array (Option Value)} {oc32 kV32 dc32 pm32 cd32 ct32 : Value}
    {F33 : Addr} {od33 an33 : Option Addr} {sl33 : Array (Option Value)} {oc33 kV33 dc33 pm33 cd33 ct33 : Value}
    {F34 : Addr} {od34 an34 : Option Addr} {sl34 : Array (Option Value)} {oc34 kV34 dc34 pm34 cd34 ct34 : Value}
    {F35 : Addr} {od35 an35 : Option Addr} {sl35 : Array (Option Value)} {oc35 kV35 dc35 pm35 cd35 ct35 : Value}
    {F36 : Addr} {od36 an36 : Option Addr} {sl36 : Array (Option Value)} {oc36 kV36 dc36 pm36 cd36 ct36 : Value}
    {F37 : Addr} {od37 an37 : Option Addr} {sl37 : Array (Option Value)} {oc37 kV37 dc37 pm37 cd37 ct37 : Value}
    {F38 : Addr} {od38 an38 : Option Addr} {sl38 : Array (Option Value)} {oc38 kV38 dc38 pm38 cd38 ct38 : Value}
    {F39 : Addr} {od39 an39 : Option Addr} {sl39 : Array (Option Value)} {oc39 kV39 dc39 pm39 cd39 ct39 : Value}
    {F40 : Addr} {od40 an40 : Option Addr} {sl40 : Array (Option Value)} {oc40 kV40 dc40 pm40 cd40 ct40 : Value}
    {F41 : Addr} {od41 an41 : Option Addr} {sl41 : Array (Option Value)} {oc41 kV41 dc41 pm41 cd41 ct41 : Value}
    {F42 : Addr} {od42 an42 : Option Addr} {sl42 : Array (Option Value)} {oc42 kV42 dc42 pm42 cd42 ct42 : Value}
    {F43 : Addr} {od43 an43 : Option Addr} {sl43 : Array (Option Value)} {oc43 kV43 dc43 pm43 cd43 ct43 : Value}
    {F44 : Addr} {od44 an44 : Option Addr} {sl44 : Array (Option Value)} {oc44 kV44 dc44 pm44 cd44 ct44 : Value}
    {F45 : Addr} {od45 an45 : Option Addr} {sl45 : Array (Option Value)} {oc45 kV45 dc45 pm45 cd45 ct45 : Value}
    {F46 : Addr} {od46 an46 : Option Addr} {sl46 : Array (Option Value)} {oc46 kV46 dc46 pm46 cd46 ct46 : Value}
    (X : K.In h) (G : h.Ns mainGlobals mg) (hfa : mg "law" = some (.ref fa))
    (c_most : PySem.W.nsIn K mainGlobals "MOST_WIDTH" = some (some (.int 100 t_most)))
    (c_pair : PySem.W.nsIn K mainGlobals "PAIR" = some (some (.int 2 t_pair)))
    (c_steps : PySem.W.nsIn K mainGlobals "MOST_STEPS" = some (some (.int 12 t_steps)))
    (c_down : PySem.W.nsIn K mainGlobals "DOWN" = some (some (.str "down" t_down)))
    (c_up : PySem.W.nsIn K mainGlobals "UP" = some (some (.str "up" t_up)))
    (r_a : PySem.W.nsIn K mainGlobals "RULES" = some (some (.ref aR)))
    (r_l : K.lookup aR = some ⟨.type "tuple", none, .seq #[.str "down" r1, .str "half_down" r2, .str "half_even" r3, .str "half_up" r4, .str "odd" r5, .str "up" r6] nR, slR⟩)
    (b_a : PySem.W.nsIn K mainGlobals "BY_RULE" = some (some (.ref dB)))
    (b_l : K.lookup dB = some ⟨.type "dict", none, .dict es mB, #[]⟩)
    (b_k : PySem.W.KeysLit w.params es.toList)
    (q_never : PySem.W.nsIn K mainGlobals "NEVER" = some (some (.ref a_never)))
    (l_never : K.lookup a_never = some ⟨.type "tuple", none, .seq #[.ref e_never, .str "up" x_never] n_never, s_never⟩)
    (m_never : K.lookup e_never = some ⟨.type "tuple", none, .seq #[.int 1 y_never, .int 1 w_never] m_never, z_never⟩)
    (q_always : PySem.W.nsIn K mainGlobals "ALWAYS" = some (some (.ref a_always)))
    (l_always : K.lookup a_always = some ⟨.type "tuple", none, .seq #[.ref e_always, .str "down" x_always] n_always, s_always⟩)
    (m_always : K.lookup e_always = some ⟨.type "tuple", none, .seq #[.int 0 y_always, .int 1 w_always] m_always, z_always⟩)
    (q_tieDown : PySem.W.nsIn K mainGlobals "TIE_DOWN" = some (some (.ref a_tieDown)))
    (l_tieDown : K.lookup a_tieDown = some ⟨.type "tuple", none, .seq #[.ref e_tieDown, .str "down" x_tieDown] n_tieDown, s_tieDown⟩)
    (m_tieDown : K.lookup e_tieDown = some ⟨.type "tuple", none, .seq #[.int 1 y_tieDown, .int 2 w_tieDown] m_tieDown, z_tieDown⟩)
    (q_tieUp : PySem.W.nsIn K mainGlobals "TIE_UP" = some (some (.ref a_tieUp)))
    (l_tieUp : K.lookup a_tieUp = some ⟨.type "tuple", none, .seq #[.ref e_tieUp, .str "up" x_tieUp] n_tieUp, s_tieUp⟩)
    (m_tieUp : K.lookup e_tieUp = some ⟨.type "tuple", none, .seq #[.int 1 y_tieUp, .int 2 w_tieUp] m_tieUp, z_tieUp⟩)
    (n_down_ : PySem.W.nsIn K dB "down" = some (some (.ref f_down)))
    (v_down : K.lookup f_down = some ⟨.type "tuple", none, .seq #[.ref a_never, .ref a_never] k_down, j_down⟩)
    (n_hdown_ : PySem.W.nsIn K dB "half_down" = some (some (.ref f_hdown)))
    (v_hdown : K.lookup f_hdown = some ⟨.type "tuple", none, .seq #[.ref a_tieDown, .ref a_tieDown] k_hdown, j_hdown⟩)
    (n_heven_ : PySem.W.nsIn K dB "half_even" = some (some (.ref f_heven)))
    (v_heven : K.lookup f_heven = some ⟨.type "tuple", none, .seq #[.ref a_tieDown, .ref a_tieUp] k_heven, j_heven⟩)
    (n_hup_ : PySem.W.nsIn K dB "half_up" = some (some (.ref f_hup)))
    (v_hup : K.lookup f_hup = some ⟨.type "tuple", none, .seq #[.ref a_tieUp, .ref a_tieUp] k_hup, j_hup⟩)
    (n_odd_ : PySem.W.nsIn K dB "odd" = some (some (.ref f_odd)))
    (v_odd : K.lookup f_odd = some ⟨.type "tuple", none, .seq #[.ref a_always, .ref a_never] k_odd, j_odd⟩)
    (n_up_ : PySem.W.nsIn K dB "up" = some (some (.ref f_up)))
    (v_up : K.lookup f_up = some ⟨.type "tuple", none, .seq #[.ref a_always, .ref a_always] k_up, j_up⟩)
    (z_len : PySem.W.nsIn K mainGlobals "len" = some none)
    (z_range : PySem.W.nsIn K mainGlobals "range" = some none)
    (z_min : PySem.W.nsIn K mainGlobals "min" = some none)
    (z_max : PySem.W.nsIn K mainGlobals "max" = some none)
    (z_abs : PySem.W.nsIn K mainGlobals "abs" = some none)
    (z_int : PySem.W.nsIn K mainGlobals "int" = some none)
    (z_bool : PySem.W.nsIn K mainGlobals "bool" = some none)
    (z_str : PySem.W.nsIn K mainGlobals "str" = some none)
    (z_tuple : PySem.W.nsIn K mainGlobals "tuple" = some none)
    (z_isinstance : PySem.W.nsIn K mainGlobals "isinstance" = some none)
    (z_all : PySem.W.nsIn K mainGlobals "all" = some none)
    (z_any : PySem.W.nsIn K mainGlobals "any" = some none)
    (z_zip : PySem.W.nsIn K mainGlobals "zip" = some none)
    (z_enumerate : PySem.W.nsIn K mainGlobals "enumerate" = some none)
    (z_sorted : PySem.W.nsIn K mainGlobals "sorted" = some none)
    (a0 : PySem.W.nsIn K mainGlobals "common_divisor" = some (some (.ref F0)))
    (l0 : K.lookup F0 = some ⟨oc0, od0, .func (PySem.W.fnOf "common_divisor" "common_divisor" (defArgs sGcd) (defBody sGcd) (defScope sGcd) .none kV0 dc0 pm0 an0 cd0 ct0), sl0⟩)
    (c0 : PySem.W.codeIn K cd0 "common_divisor" = true)
    (k0 : PySem.W.keepIn K (.ref F0) = true)
    (a1 : PySem.W.nsIn K mainGlobals "lowest" = some (some (.ref F1)))
    (l1 : K.lookup F1 = some ⟨oc1, od1, .func (PySem.W.fnOf "lowest" "lowest" (defArgs sLowest) (defBody sLowest) (defScope sLowest) .none kV1 dc1 pm1 an1 cd1 ct1), sl1⟩)
    (c1 : PySem.W.codeIn K cd1 "lowest" = true)
    (k1 : PySem.W.keepIn K (.ref F1) = true)
    (a2 : PySem.W.nsIn K mainGlobals "is_int" = some (some (.ref F2)))
    (l2 : K.lookup F2 = some ⟨oc2, od2, .func (PySem.W.fnOf "is_int" "is_int" (defArgs sIsInt) (defBody sIsInt) (defScope sIsInt) .none kV2 dc2 pm2 an2 cd2 ct2), sl2⟩)
    (c2 : PySem.W.codeIn K cd2 "is_int" = true)
    (k2 : PySem.W.keepIn K (.ref F2) = true)
    (a3 : PySem.W.nsIn K mainGlobals "is_width" = some (some (.ref F3)))
    (l3 : K.lookup F3 = some ⟨oc3, od3, .func (PySem.W.fnOf "is_width" "is_width" (defArgs sIsWidth) (defBody sIsWidth) (defScope sIsWidth) .none kV3 dc3 pm3 an3 cd3 ct3), sl3⟩)
    (c3 : PySem.W.codeIn K cd3 "is_width" = true)
    (k3 : PySem.W.keepIn K (.ref F3) = true)
    (a4 : PySem.W.nsIn K mainGlobals "is_rule" = some (some (.ref F4)))
    (l4 : K.lookup F4 = some ⟨oc4, od4, .func (PySem.W.fnOf "is_rule" "is_rule" (defArgs sIsRule) (defBody sIsRule) (defScope sIsRule) .none kV4 dc4 pm4 an4 cd4 ct4), sl4⟩)
    (c4 : PySem.W.codeIn K cd4 "is_rule" = true)
    (k4 : PySem.W.keepIn K (.ref F4) = true)
    (a5 : PySem.W.nsIn K mainGlobals "is_step" = some (some (.ref F5)))
    (l5 : K.lookup F5 = some ⟨oc5, od5, .func (PySem.W.fnOf "is_step" "is_step" (defArgs sIsStep) (defBody sIsStep) (defScope sIsStep) .none kV5 dc5 pm5 an5 cd5 ct5), sl5⟩)
    (c5 : PySem.W.codeIn K cd5 "is_step" = true)
    (k5 : PySem.W.keepIn K (.ref F5) = true)
    (a6 : PySem.W.nsIn K mainGlobals "is_chain" = some (some (.ref F6)))
    (l6 : K.lookup F6 = some ⟨oc6, od6, .func (PySem.W.fnOf "is_chain" "is_chain" (defArgs sIsChain) (defBody sIsChain) (defScope sIsChain) .none kV6 dc6 pm6 an6 cd6 ct6), sl6⟩)
    (c6 : PySem.W.codeIn K cd6 "is_chain" = true)
    (k6 : PySem.W.keepIn K (.ref F6) = true)
    (a7 : PySem.W.nsIn K mainGlobals "check_chain" = some (some (.ref F7)))
    (l7 : K.lookup F7 = some ⟨oc7, od7, .func (PySem.W.fnOf "check_chain" "check_chain" (defArgs sCheckChain) (defBody sCheckChain) (defScope sCheckChain) .none kV7 dc7 pm7 an7 cd7 ct7), sl7⟩)
    (c7 : PySem.W.codeIn K cd7 "check_chain" = true)
    (k7 : PySem.W.keepIn K (.ref F7) = true)
    (a8 : PySem.W.nsIn K mainGlobals "last_width" = some (some (.ref F8)))
    (l8 : K.lookup F8 = some ⟨oc8, od8, .func (PySem.W.fnOf "last_width" "last_width" (defArgs sLastWidth) (defBody sLastWidth) (defScope sLastWidth) .none kV8 dc8 pm8 an8 cd8 ct8), sl8⟩)
    (c8 : PySem.W.codeIn K cd8 "last_width" = true)
    (k8 : PySem.W.keepIn K (.ref F8) = true)
    (a9 : PySem.W.nsIn K mainGlobals "trimmed" = some (some (.ref F9)))
    (l9 : K.lookup F9 = some ⟨oc9, od9, .func (PySem.W.fnOf "trimmed" "trimmed" (defArgs sTrimmed) (defBody sTrimmed) (defScope sTrimmed) .none kV9 dc9 pm9 an9 cd9 ct9), sl9⟩)
    (c9 : PySem.W.codeIn K cd9 "trimmed" = true)
    (k9 : PySem.W.keepIn K (.ref F9) = true)
    (a10 : PySem.W.nsIn K mainGlobals "last_down" = some (some (.ref F10)))
    (l10 : K.lookup F10 = some ⟨oc10, od10, .func (PySem.W.fnOf "last_down" "last_down" (defArgs sLastDown) (defBody sLastDown) (defScope sLastDown) .none kV10 dc10 pm10 an10 cd10 ct10), sl10⟩)
    (c10 : PySem.W.codeIn K cd10 "last_down" = true)
    (k10 : PySem.W.keepIn K (.ref F10) = true)
    (a11 : PySem.W.nsIn K mainGlobals "combined" = some (some (.ref F11)))
    (l11 : K.lookup F11 = some ⟨oc11, od11, .func (PySem.W.fnOf "combined" "combined" (defArgs sCombined) (defBody sCombined) (defScope sCombined) .none kV11 dc11 pm11 an11 cd11 ct11), sl11⟩)
    (c11 : PySem.W.codeIn K cd11 "combined" = true)
    (k11 : PySem.W.keepIn K (.ref F11) = true)
    (a12 : PySem.W.nsIn K mainGlobals "thresholds" = some (some (.ref F12)))
    (l12 : K.lookup F12 = some ⟨oc12, od12, .func (PySem.W.fnOf "thresholds" "thresholds" (defArgs sThresholds) (defBody sThresholds) (defScope sThresholds) .none kV12 dc12 pm12 an12 cd12 ct12), sl12⟩)
    (c12 : PySem.W.codeIn K cd12 "thresholds" = true)
    (k12 : PySem.W.keepIn K (.ref F12) = true)
    (a13 : PySem.W.nsIn K mainGlobals "before_step" = some (some (.ref F13)))
    (l13 : K.lookup F13 = some ⟨oc13, od13, .func (PySem.W.fnOf "before_step" "before_step" (defArgs sBeforeStep) (defBody sBeforeStep) (defScope sBeforeStep) .none kV13 dc13 pm13 an13 cd13 ct13), sl13⟩)
    (c13 : PySem.W.codeIn K cd13 "before_step" = true)
    (k13 : PySem.W.keepIn K (.ref F13) = true)
    (a14 : PySem.W.nsIn K mainGlobals "all_before" = some (some (.ref F14)))
    (l14 : K.lookup F14 = some ⟨oc14, od14, .func (PySem.W.fnOf "all_before" "all_before" (defArgs sAllBefore) (defBody sAllBefore) (defScope sAllBefore) .none kV14 dc14 pm14 an14 cd14 ct14), sl14⟩)
    (c14 : PySem.W.codeIn K cd14 "all_before" = true)
    (k14 : PySem.W.keepIn K (.ref F14) = true)
    (a15 : PySem.W.nsIn K mainGlobals "merged" = some (some (.ref F15)))
    (l15 : K.lookup F15 = some ⟨oc15, od15, .func (PySem.W.fnOf "merged" "merged" (defArgs sMerged) (defBody sMerged) (defScope sMerged) .none kV15 dc15 pm15 an15 cd15 ct15), sl15⟩)
    (c15 : PySem.W.codeIn K cd15 "merged" = true)
    (k15 : PySem.W.keepIn K (.ref F15) = true)
    (a16 : PySem.W.nsIn K mainGlobals "matches" = some (some (.ref F16)))
    (l16 : K.lookup F16 = some ⟨oc16, od16, .func (PySem.W.fnOf "matches" "matches" (defArgs sMatches) (defBody sMatches) (defScope sMatches) .none kV16 dc16 pm16 an16 cd16 ct16), sl16⟩)
    (c16 : PySem.W.codeIn K cd16 "matches" = true)
    (k16 : PySem.W.keepIn K (.ref F16) = true)
    (a17 : PySem.W.nsIn K mainGlobals "most_far" = some (some (.ref F17)))
    (l17 : K.lookup F17 = some ⟨oc17, od17, .func (PySem.W.fnOf "most_far" "most_far" (defArgs sMostFar) (defBody sMostFar) (defScope sMostFar) .none kV17 dc17 pm17 an17 cd17 ct17), sl17⟩)
    (c17 : PySem.W.codeIn K cd17 "most_far" = true)
    (k17 : PySem.W.keepIn K (.ref F17) = true)
    (a18 : PySem.W.nsIn K mainGlobals "widened" = some (some (.ref F18)))
    (l18 : K.lookup F18 = some ⟨oc18, od18, .func (PySem.W.fnOf "widened" "widened" (defArgs sWidened) (defBody sWidened) (defScope sWidened) .none kV18 dc18 pm18 an18 cd18 ct18), sl18⟩)
    (c18 : PySem.W.codeIn K cd18 "widened" = true)
    (k18 : PySem.W.keepIn K (.ref F18) = true)
    (a19 : PySem.W.nsIn K mainGlobals "least_steps" = some (some (.ref F19)))
    (l19 : K.lookup F19 = some ⟨oc19, od19, .func (PySem.W.fnOf "least_steps" "least_steps" (defArgs sLeast) (defBody sLeast) (defScope sLeast) .none kV19 dc19 pm19 an19 cd19 ct19), sl19⟩)
    (c19 : PySem.W.codeIn K cd19 "least_steps" = true)
    (k19 : PySem.W.keepIn K (.ref F19) = true)
    (a20 : PySem.W.nsIn K mainGlobals "shortest" = some (some (.ref F20)))
    (l20 : K.lookup F20 = some ⟨oc20, od20, .func (PySem.W.fnOf "shortest" "shortest" (defArgs sShortest) (defBody sShortest) (defScope sShortest) .none kV20 dc20 pm20 an20 cd20 ct20), sl20⟩)
    (c20 : PySem.W.codeIn K cd20 "shortest" = true)
    (k20 : PySem.W.keepIn K (.ref F20) = true)
    (a21 : PySem.W.nsIn K mainGlobals "_law_divisor" = some (some (.ref F21)))
    (l21 : K.lookup F21 = some ⟨oc21, od21, .func (PySem.W.fnOf "_law_divisor" "_law_divisor" (defArgs sLDiv) (defBody sLDiv) (defScope sLDiv) .none kV21 dc21 pm21 an21 cd21 ct21), sl21⟩)
    (c21 : PySem.W.codeIn K cd21 "_law_divisor" = true)
    (k21 : PySem.W.keepIn K (.ref F21) = true)
    (a22 : PySem.W.nsIn K mainGlobals "_law_low" = some (some (.ref F22)))
    (l22 : K.lookup F22 = some ⟨oc22, od22, .func (PySem.W.fnOf "_law_low" "_law_low" (defArgs sLLow) (defBody sLLow) (defScope sLLow) .none kV22 dc22 pm22 an22 cd22 ct22), sl22⟩)
    (c22 : PySem.W.codeIn K cd22 "_law_low" = true)
    (k22 : PySem.W.keepIn K (.ref F22) = true)
    (a23 : PySem.W.nsIn K mainGlobals "_law_cell_of" = some (some (.ref F23)))
    (l23 : K.lookup F23 = some ⟨oc23, od23, .func (PySem.W.fnOf "_law_cell_of" "_law_cell_of" (defArgs sCell) (defBody sCell) (defScope sCell) .none kV23 dc23 pm23 an23 cd23 ct23), sl23⟩)
    (c23 : PySem.W.codeIn K cd23 "_law_cell_of" = true)
    (k23 : PySem.W.keepIn K (.ref F23) = true)
    (a24 : PySem.W.nsIn K mainGlobals "_law_place" = some (some (.ref F24)))
    (l24 : K.lookup F24 = some ⟨oc24, od24, .func (PySem.W.fnOf "_law_place" "_law_place" (defArgs sPlace) (defBody sPlace) (defScope sPlace) .none kV24 dc24 pm24 an24 cd24 ct24), sl24⟩)
    (c24 : PySem.W.codeIn K cd24 "_law_place" = true)
    (k24 : PySem.W.keepIn K (.ref F24) = true)
    (a25 : PySem.W.nsIn K mainGlobals "_law_end" = some (some (.ref F25)))
    (l25 : K.lookup F25 = some ⟨oc25, od25, .func (PySem.W.fnOf "_law_end" "_law_end" (defArgs sEnd) (defBody sEnd) (defScope sEnd) .none kV25 dc25 pm25 an25 cd25 ct25), sl25⟩)
    (c25 : PySem.W.codeIn K cd25 "_law_end" = true)
    (k25 : PySem.W.keepIn K (.ref F25) = true)
    (a26 : PySem.W.nsIn K mainGlobals "_law_goes_up" = some (some (.ref F26)))
    (l26 : K.lookup F26 = some ⟨oc26, od26, .func (PySem.W.fnOf "_law_goes_up" "_law_goes_up" (defArgs sGoes) (defBody sGoes) (defScope sGoes) .none kV26 dc26 pm26 an26 cd26 ct26), sl26⟩)
    (c26 : PySem.W.codeIn K cd26 "_law_goes_up" = true)
    (k26 : PySem.W.keepIn K (.ref F26) = true)
    (a27 : PySem.W.nsIn K mainGlobals "_law_rounded" = some (some (.ref F27)))
    (l27 : K.lookup F27 = some ⟨oc27, od27, .func (PySem.W.fnOf "_law_rounded" "_law_rounded" (defArgs sRound) (defBody sRound) (defScope sRound) .none kV27 dc27 pm27 an27 cd27 ct27), sl27⟩)
    (c27 : PySem.W.codeIn K cd27 "_law_rounded" = true)
    (k27 : PySem.W.keepIn K (.ref F27) = true)
    (a28 : PySem.W.nsIn K mainGlobals "_law_point" = some (some (.ref F28)))
    (l28 : K.lookup F28 = some ⟨oc28, od28, .func (PySem.W.fnOf "_law_point" "_law_point" (defArgs sPoint) (defBody sPoint) (defScope sPoint) .none kV28 dc28 pm28 an28 cd28 ct28), sl28⟩)
    (c28 : PySem.W.codeIn K cd28 "_law_point" = true)
    (k28 : PySem.W.keepIn K (.ref F28) = true)
    (a29 : PySem.W.nsIn K mainGlobals "_law_applied" = some (some (.ref F29)))
    (l29 : K.lookup F29 = some ⟨oc29, od29, .func (PySem.W.fnOf "_law_applied" "_law_applied" (defArgs sApplied) (defBody sApplied) (defScope sApplied) .none kV29 dc29 pm29 an29 cd29 ct29), sl29⟩)
    (c29 : PySem.W.codeIn K cd29 "_law_applied" = true)
    (k29 : PySem.W.keepIn K (.ref F29) = true)
    (a30 : PySem.W.nsIn K mainGlobals "_law_least" = some (some (.ref F30)))
    (l30 : K.lookup F30 = some ⟨oc30, od30, .func (PySem.W.fnOf "_law_least" "_law_least" (defArgs sLLeast) (defBody sLLeast) (defScope sLLeast) .none kV30 dc30 pm30 an30 cd30 ct30), sl30⟩)
    (c30 : PySem.W.codeIn K cd30 "_law_least" = true)
    (k30 : PySem.W.keepIn K (.ref F30) = true)
    (a31 : PySem.W.nsIn K mainGlobals "_law_cut" = some (some (.ref F31)))
    (l31 : K.lookup F31 = some ⟨oc31, od31, .func (PySem.W.fnOf "_law_cut" "_law_cut" (defArgs sCut) (defBody sCut) (defScope sCut) .none kV31 dc31 pm31 an31 cd31 ct31), sl31⟩)
    (c31 : PySem.W.codeIn K cd31 "_law_cut" = true)
    (k31 : PySem.W.keepIn K (.ref F31) = true)
    (a32 : PySem.W.nsIn K mainGlobals "_law_cuts" = some (some (.ref F32)))
    (l32 : K.lookup F32 = some ⟨oc32, od32, .func (PySem.W.fnOf "_law_cuts" "_law_cuts" (defArgs sCuts) (defBody sCuts) (defScope sCuts) .none kV32 dc32 pm32 an32 cd32 ct32), sl32⟩)
    (c32 : PySem.W.codeIn K cd32 "_law_cuts" = true)
    (k32 : PySem.W.keepIn K (.ref F32) = true)
    (a33 : PySem.W.nsIn K mainGlobals "_law_is_count" = some (some (.ref F33)))
    (l33 : K.lookup F33 = some ⟨oc33, od33, .func (PySem.W.fnOf "_law_is_count" "_law_is_count" (defArgs sIsCount) (defBody sIsCount) (defScope sIsCount) .none kV33 dc33 pm33 an33 cd33 ct33), sl33⟩)
    (c33 : PySem.W.codeIn K cd33 "_law_is_count" = true)
    (k33 : PySem.W.keepIn K (.ref F33) = true)
    (a34 : PySem.W.nsIn K mainGlobals "_law_is_chain" = some (some (.ref F34)))
    (l34 : K.lookup F34 = some ⟨oc34, od34, .func (PySem.W.fnOf "_law_is_chain" "_law_is_chain" (defArgs sLIsChain) (defBody sLIsChain) (defScope sLIsChain) .none kV34 dc34 pm34 an34 cd34 ct34), sl34⟩)
    (c34 : PySem.W.codeIn K cd34 "_law_is_chain" = true)
    (k34 : PySem.W.keepIn K (.ref F34) = true)
    (a35 : PySem.W.nsIn K mainGlobals "_law_split" = some (some (.ref F35)))
    (l35 : K.lookup F35 = some ⟨oc35, od35, .func (PySem.W.fnOf "_law_split" "_law_split" (defArgs sSplit) (defBody sSplit) (defScope sSplit) .none kV35 dc35 pm35 an35 cd35 ct35), sl35⟩)
    (c35 : PySem.W.codeIn K cd35 "_law_split" = true)
    (k35 : PySem.W.keepIn K (.ref F35) = true)
    (a36 : PySem.W.nsIn K mainGlobals "_law_followed" = some (some (.ref F36)))
    (l36 : K.lookup F36 = some ⟨oc36, od36, .func (PySem.W.fnOf "_law_followed" "_law_followed" (defArgs sFollowed) (defBody sFollowed) (defScope sFollowed) .none kV36 dc36 pm36 an36 cd36 ct36), sl36⟩)
    (c36 : PySem.W.codeIn K cd36 "_law_followed" = true)
    (k36 : PySem.W.keepIn K (.ref F36) = true)
    (a37 : PySem.W.nsIn K mainGlobals "_law_single" = some (some (.ref F37)))
    (l37 : K.lookup F37 = some ⟨oc37, od37, .func (PySem.W.fnOf "_law_single" "_law_single" (defArgs sSingle) (defBody sSingle) (defScope sSingle) .none kV37 dc37 pm37 an37 cd37 ct37), sl37⟩)
    (c37 : PySem.W.codeIn K cd37 "_law_single" = true)
    (k37 : PySem.W.keepIn K (.ref F37) = true)
    (a38 : PySem.W.nsIn K mainGlobals "_law_of_chain" = some (some (.ref F38)))
    (l38 : K.lookup F38 = some ⟨oc38, od38, .func (PySem.W.fnOf "_law_of_chain" "_law_of_chain" (defArgs sOf) (defBody sOf) (defScope sOf) .none kV38 dc38 pm38 an38 cd38 ct38), sl38⟩)
    (c38 : PySem.W.codeIn K cd38 "_law_of_chain" = true)
    (k38 : PySem.W.keepIn K (.ref F38) = true)
    (a39 : PySem.W.nsIn K mainGlobals "_law_all" = some (some (.ref F39)))
    (l39 : K.lookup F39 = some ⟨oc39, od39, .func (PySem.W.fnOf "_law_all" "_law_all" (defArgs sAll) (defBody sAll) (defScope sAll) .none kV39 dc39 pm39 an39 cd39 ct39), sl39⟩)
    (c39 : PySem.W.codeIn K cd39 "_law_all" = true)
    (k39 : PySem.W.keepIn K (.ref F39) = true)
    (a40 : PySem.W.nsIn K mainGlobals "_law_right" = some (some (.ref F40)))
    (l40 : K.lookup F40 = some ⟨oc40, od40, .func (PySem.W.fnOf "_law_right" "_law_right" (defArgs sRight) (defBody sRight) (defScope sRight) .none kV40 dc40 pm40 an40 cd40 ct40), sl40⟩)
    (c40 : PySem.W.codeIn K cd40 "_law_right" = true)
    (k40 : PySem.W.keepIn K (.ref F40) = true)
    (a41 : PySem.W.nsIn K mainGlobals "_law_source" = some (some (.ref F41)))
    (l41 : K.lookup F41 = some ⟨oc41, od41, .func (PySem.W.fnOf "_law_source" "_law_source" (defArgs sSource) (defBody sSource) (defScope sSource) .none kV41 dc41 pm41 an41 cd41 ct41), sl41⟩)
    (c41 : PySem.W.codeIn K cd41 "_law_source" = true)
    (k41 : PySem.W.keepIn K (.ref F41) = true)
    (a42 : PySem.W.nsIn K mainGlobals "_law_draw" = some (some (.ref F42)))
    (l42 : K.lookup F42 = some ⟨oc42, od42, .func (PySem.W.fnOf "_law_draw" "_law_draw" (defArgs sDraw) (defBody sDraw) (defScope sDraw) .none kV42 dc42 pm42 an42 cd42 ct42), sl42⟩)
    (c42 : PySem.W.codeIn K cd42 "_law_draw" = true)
    (k42 : PySem.W.keepIn K (.ref F42) = true)
    (a43 : PySem.W.nsIn K mainGlobals "_law_pick" = some (some (.ref F43)))
    (l43 : K.lookup F43 = some ⟨oc43, od43, .func (PySem.W.fnOf "_law_pick" "_law_pick" (defArgs sPick) (defBody sPick) (defScope sPick) .none kV43 dc43 pm43 an43 cd43 ct43), sl43⟩)
    (c43 : PySem.W.codeIn K cd43 "_law_pick" = true)
    (k43 : PySem.W.keepIn K (.ref F43) = true)
    (a44 : PySem.W.nsIn K mainGlobals "_law_rule" = some (some (.ref F44)))
    (l44 : K.lookup F44 = some ⟨oc44, od44, .func (PySem.W.fnOf "_law_rule" "_law_rule" (defArgs sRule) (defBody sRule) (defScope sRule) .none kV44 dc44 pm44 an44 cd44 ct44), sl44⟩)
    (c44 : PySem.W.codeIn K cd44 "_law_rule" = true)
    (k44 : PySem.W.keepIn K (.ref F44) = true)
    (a45 : PySem.W.nsIn K mainGlobals "_law_chain" = some (some (.ref F45)))
    (l45 : K.lookup F45 = some ⟨oc45, od45, .func (PySem.W.fnOf "_law_chain" "_law_chain" (defArgs sLChain) (defBody sLChain) (defScope sLChain) .none kV45 dc45 pm45 an45 cd45 ct45), sl45⟩)
    (c45 : PySem.W.codeIn K cd45 "_law_chain" = true)
    (k45 : PySem.W.keepIn K (.ref F45) = true)
    (a46 : PySem.W.nsIn K mainGlobals "law" = some (some (.ref F46)))
    (l46 : K.lookup F46 = some ⟨oc46, od46, .func (PySem.W.fnOf "law" "law" (defArgs sLaw) (defBody sLaw) (defScope sLaw) .none kV46 dc46 pm46 an46 cd46 ct46), sl46⟩)
    (c46 : PySem.W.codeIn K cd46 "law" = true)
    (k46 : PySem.W.keepIn K (.ref F46) = true)
    : ∃ fd : FuncData, (∀ (s : Shared) (v : Value), BindsTo s fd ⟨[v], []⟩ [("_law_script", v)]) ∧ ∀ base : Heap, K.In base → base.Ns mainGlobals mg → FnOk l.prog w K mg base CX0 14 fa fd ["_law_script"] (spLaw K) := by
  have e := hfa.symm.trans (PySem.W.mg_of X G a46)
  cases e
  have B : Blt mg := ⟨PySem.W.mg_none_of X G z_len, PySem.W.mg_none_of X G z_range, PySem.W.mg_none_of X G z_min, PySem.W.mg_none_of X G z_max, PySem.W.mg_none_of X G z_abs, PySem.W.mg_none_of X G z_int, PySem.W.mg_none_of X G z_bool, PySem.W.mg_none_of X G z_str, PySem.W.mg_none_of X G z_tuple, PySem.W.mg_none_of X G z_isinstance, PySem.W.mg_none_of X G z_all, PySem.W.mg_none_of X G z_any, PySem.W.mg_none_of X G z_zip, PySem.W.mg_none_of X G z_enumerate, PySem.W.mg_none_of X G z_sorted⟩
  have h_never := th_mk (t := never) l_never m_never
  have h_always := th_mk (t := always) l_always m_always
  have h_tieDown := th_mk (t := tieDown) l_tieDown m_tieDown
  have h_tieUp := th_mk (t := tieUp) l_tieUp m_tieUp
  have T : Tf K w mg := ⟨⟨_, PySem.W.mg_of X G c_most⟩, ⟨_, PySem.W.mg_of X G c_pair⟩, ⟨_, PySem.W.mg_of X G c_steps⟩, ⟨_, PySem.W.mg_of X G c_down⟩, ⟨_, PySem.W.mg_of X G c_up⟩,
    ⟨aR, PySem.W.mg_of X G r_a, sqt_K r_l (by show 6 ≤ sizeLine; decide) (.cons ⟨_, rfl⟩ (.cons ⟨_, rfl⟩ (.cons ⟨_, rfl⟩ (.cons ⟨_, rfl⟩ (.cons ⟨_, rfl⟩ (.cons ⟨_, rfl⟩ .nil))))))⟩,
    ⟨dB, PySem.W.mg_of X G b_a, fun r => match r with
      | .down => by_mk .down b_l b_k n_down_ v_down h_never h_never
      | .hdown => by_mk .hdown b_l b_k n_hdown_ v_hdown h_tieDown h_tieDown
      | .heven => by_mk .heven b_l b_k n_heven_ v_heven h_tieDown h_tieUp
      | .hup => by_mk .hup b_l b_k n_hup_ v_hup h_tieUp h_tieUp
      | .odd => by_mk .odd b_l b_k n_odd_ v_odd h_always h_never
      | .up => by_mk .up b_l b_k n_up_ v_up h_always h_always
    ⟩⟩
  have D0 : Df K mg "common_divisor" sGcd ["one", "other"] := df_mk X G a0 l0 c0 k0 fun _ _ _ _ _ _ us hl => match us, hl with | [_, _], _ => rfl
  have D1 : Df K mg "lowest" sLowest ["n", "d"] := df_mk X G a1 l1 c1 k1 fun _ _ _ _ _ _ us hl => match us, hl with | [_, _], _ => rfl
  have D2 : Df K mg "is_int" sIsInt ["value", "least"] := df_mk X G a2 l2 c2 k2 fun _ _ _ _ _ _ us hl => match us, hl with | [_, _], _ => rfl
  have D3 : Df K mg "is_width" sIsWidth ["value"] := df_mk X G a3 l3 c3 k3 fun _ _ _ _ _ _ us hl => match us, hl with | [_], _ => rfl
  have D4 : Df K mg "is_rule" sIsRule ["value"] := df_mk X G a4 l4 c4 k4 fun _ _ _ _ _ _ us hl => match us, hl with | [_], _ => rfl
  have D5 : Df K mg "is_step" sIsStep ["value"] := df_mk X G a5 l5 c5 k5 fun _ _ _ _ _ _ us hl => match us, hl with | [_], _ => rfl
  have D6 : Df K mg "is_chain" sIsChain ["value"] := df_mk X G a6 l6 c6 k6 fun _ _ _ _ _ _ us hl => match us, hl with | [_], _ => rfl
  have D7 : Df K mg "check_chain" sCheckChain ["value"] := df_mk X G a7 l7 c7 k7 fun _ _ _ _ _ _ us hl => match us, hl with | [_], _ => rfl
  have D8 : Df K mg "last_width" sLastWidth ["chain"] := df_mk X G a8 l8 c8 k8 fun _ _ _ _ _ _ us hl => match us, hl with | [_], _ => rfl
  have D9 : Df K mg "trimmed" sTrimmed ["chain"] := df_mk X G a9 l9 c9 k9 fun _ _ _ _ _ _ us hl => match us, hl with | [_], _ => rfl
  have D10 : Df K mg "last_down" sLastDown ["rule", "far", "parity"] := df_mk X G a10 l10 c10 k10 fun _ _ _ _ _ _ us hl => match us, hl with | [_, _, _], _ => rfl
  have D11 : Df K mg "combined" sCombined ["pair", "rule", "far"] := df_mk X G a11 l11 c11 k11 fun _ _ _ _ _ _ us hl => match us, hl with | [_, _, _], _ => rfl
  have D12 : Df K mg "thresholds" sThresholds ["chain"] := df_mk X G a12 l12 c12 k12 fun _ _ _ _ _ _ us hl => match us, hl with | [_], _ => rfl
  have D13 : Df K mg "before_step" sBeforeStep ["threshold", "rule", "far", "parity"] := df_mk X G a13 l13 c13 k13 fun _ _ _ _ _ _ us hl => match us, hl with | [_, _, _, _], _ => rfl
  have D14 : Df K mg "all_before" sAllBefore ["wanted", "rule", "far"] := df_mk X G a14 l14 c14 k14 fun _ _ _ _ _ _ us hl => match us, hl with | [_, _, _], _ => rfl
  have D15 : Df K mg "merged" sMerged ["some"] := df_mk X G a15 l15 c15 k15 fun _ _ _ _ _ _ us hl => match us, hl with | [_], _ => rfl
  have D16 : Df K mg "matches" sMatches ["wanted", "rule"] := df_mk X G a16 l16 c16 k16 fun _ _ _ _ _ _ us hl => match us, hl with | [_, _], _ => rfl
  have D17 : Df K mg "most_far" sMostFar ["wanted"] := df_mk X G a17 l17 c17 k17 fun _ _ _ _ _ _ us hl => match us, hl with | [_], _ => rfl
  have D18 : Df K mg "widened" sWidened ["steps", "by"] := df_mk X G a18 l18 c18 k18 fun _ _ _ _ _ _ us hl => match us, hl with | [_, _], _ => rfl
  have D19 : Df K mg "least_steps" sLeast ["wanted", "count", "known"] := df_mk X G a19 l19 c19 k19 fun _ _ _ _ _ _ us hl => match us, hl with | [_, _, _], _ => rfl
  have D20 : Df K mg "shortest" sShortest ["chain"] := df_mk X G a20 l20 c20 k20 fun _ _ _ _ _ _ us hl => match us, hl with | [_], _ => rfl
  have D21 : Df K mg "_law_divisor" sLDiv ["_law_one", "_law_other"] := df_mk X G a21 l21 c21 k21 fun _ _ _ _ _ _ us hl => match us, hl with | [_, _], _ => rfl
  have D22 : Df K mg "_law_low" sLLow ["_law_n", "_law_d"] := df_mk X G a22 l22 c22 k22 fun _ _ _ _ _ _ us hl => match us, hl with | [_, _], _ => rfl
  have D23 : Df K mg "_law_cell_of" sCell ["_law_number", "_law_width"] := df_mk X G a23 l23 c23 k23 fun _ _ _ _ _ _ us hl => match us, hl with | [_, _], _ => rfl
  have D24 : Df K mg "_law_place" sPlace ["_law_number", "_law_width"] := df_mk X G a24 l24 c24 k24 fun _ _ _ _ _ _ us hl => match us, hl with | [_, _], _ => rfl
  have D25 : Df K mg "_law_end" sEnd ["_law_k", "_law_e"] := df_mk X G a25 l25 c25 k25 fun _ _ _ _ _ _ us hl => match us, hl with | [_, _], _ => rfl
  have D26 : Df K mg "_law_goes_up" sGoes ["_law_k", "_law_place_here", "_law_rule_here"] := df_mk X G a26 l26 c26 k26 fun _ _ _ _ _ _ us hl => match us, hl with | [_, _, _], _ => rfl
  have D27 : Df K mg "_law_rounded" sRound ["_law_number", "_law_width", "_law_rule_here"] := df_mk X G a27 l27 c27 k27 fun _ _ _ _ _ _ us hl => match us, hl with | [_, _, _], _ => rfl
  have D28 : Df K mg "_law_point" sPoint ["_law_k", "_law_index", "_law_parts"] := df_mk X G a28 l28 c28 k28 fun _ _ _ _ _ _ us hl => match us, hl with | [_, _, _], _ => rfl
  have D29 : Df K mg "_law_applied" sApplied ["_law_number", "_law_chain_here"] := df_mk X G a29 l29 c29 k29 fun _ _ _ _ _ _ us hl => match us, hl with | [_, _], _ => rfl
  have D30 : Df K mg "_law_least" sLLeast ["_law_chain_here"] := df_mk X G a30 l30 c30 k30 fun _ _ _ _ _ _ us hl => match us, hl with | [_], _ => rfl
  have D31 : Df K mg "_law_cut" sCut ["_law_chain_here", "_law_k"] := df_mk X G a31 l31 c31 k31 fun _ _ _ _ _ _ us hl => match us, hl with | [_, _], _ => rfl
  have D32 : Df K mg "_law_cuts" sCuts ["_law_chain_here"] := df_mk X G a32 l32 c32 k32 fun _ _ _ _ _ _ us hl => match us, hl with | [_], _ => rfl
  have D33 : Df K mg "_law_is_count" sIsCount ["_law_value"] := df_mk X G a33 l33 c33 k33 fun _ _ _ _ _ _ us hl => match us, hl with | [_], _ => rfl
  have D34 : Df K mg "_law_is_chain" sLIsChain ["_law_value"] := df_mk X G a34 l34 c34 k34 fun _ _ _ _ _ _ us hl => match us, hl with | [_], _ => rfl
  have D35 : Df K mg "_law_split" sSplit ["_law_rule_here", "_law_far", "_law_parity"] := df_mk X G a35 l35 c35 k35 fun _ _ _ _ _ _ us hl => match us, hl with | [_, _, _], _ => rfl
  have D36 : Df K mg "_law_followed" sFollowed ["_law_pair", "_law_rule_here", "_law_far"] := df_mk X G a36 l36 c36 k36 fun _ _ _ _ _ _ us hl => match us, hl with | [_, _, _], _ => rfl
  have D37 : Df K mg "_law_single" sSingle ["_law_rule_here"] := df_mk X G a37 l37 c37 k37 fun _ _ _ _ _ _ us hl => match us, hl with | [_], _ => rfl
  have D38 : Df K mg "_law_of_chain" sOf ["_law_chain_here"] := df_mk X G a38 l38 c38 k38 fun _ _ _ _ _ _ us hl => match us, hl with | [_], _ => rfl
  have D39 : Df K mg "_law_all" sAll ["_law_last", "_law_count", "_law_widest"] := df_mk X G a39 l39 c39 k39 fun _ _ _ _ _ _ us hl => match us, hl with | [_, _, _], _ => rfl
  have D40 : Df K mg "_law_right" sRight ["_law_chain_here"] := df_mk X G a40 l40 c40 k40 fun _ _ _ _ _ _ us hl => match us, hl with | [_], _ => rfl
  have D41 : Df K mg "_law_source" sSource ["_law_script", "_law_k"] := df_mk X G a41 l41 c41 k41 fun _ _ _ _ _ _ us hl => match us, hl with | [_, _], _ => rfl
  have D42 : Df K mg "_law_draw" sDraw ["_law_source_here", "_law_size"] := df_mk X G a42 l42 c42 k42 fun _ _ _ _ _ _ us hl => match us, hl with | [_, _], _ => rfl
  have D43 : Df K mg "_law_pick" sPick ["_law_source_here", "_law_some"] := df_mk X G a43 l43 c43 k43 fun _ _ _ _ _ _ us hl => match us, hl with | [_, _], _ => rfl
  have D44 : Df K mg "_law_rule" sRule ["_law_source_here"] := df_mk X G a44 l44 c44 k44 fun _ _ _ _ _ _ us hl => match us, hl with | [_], _ => rfl
  have D45 : Df K mg "_law_chain" sLChain ["_law_source_here", "_law_last", "_law_most", "_law_far"] := df_mk X G a45 l45 c45 k45 fun _ _ _ _ _ _ us hl => match us, hl with | [_, _, _, _], _ => rfl
  have D46 : Df K mg "law" sLaw ["_law_script"] := df_mk X G a46 l46 c46 k46 fun _ _ _ _ _ _ us hl => match us, hl with | [_], _ => rfl
  refine ⟨PySem.W.fnOf "law" "law" (defArgs sLaw) (defBody sLaw) (defScope sLaw) .none kV46 dc46 pm46 an46 cd46 ct46, fun s v => .of_eq rfl, fun base _ _ => ?_⟩
  exact join (P := l.prog) (w := w) (base := base) B T D0 D1 D2 D3 D4 D5 D6 D7 D8 D9 D10 D11 D12 D13 D14 D15 D16 D17 D18 D19 D20 D21 D22 D23 D24 D25 D26 D27 D28 D29 D30 D31 D32 D33 D34 D35 D36 D37 D38 D39 D40 D41 D42 D43 D44 D45 D46 _ _ (fun_mk l46 c46 k46)
end
theorem walk {l : PySem.W.OpenLaw} {q : Program} {loose : List Str} {XP : (Str → Option Value) → Heap → Prop} {YP : World → Heap → Prop} {d : DefRec} {K : Params → PySem.W.Frag} (hn : l.most = some 63) (hdf : d.params.defaults = [])
    (hY : ∀ (w : World) (h : Heap), YP w h → (K w.params).In h)
    (F : ∀ (w : World) (mg : Str → Option Value) (fa : Addr) (h : Heap), (K w.params).In h → h.Ns mainGlobals mg → mg d.name = some (.ref fa) →
      ∃ fd : FuncData, (∀ (s : Shared) (u : Value), BindsTo s fd ⟨[u], []⟩ [("_law_script", u)]) ∧ ∀ base : Heap, (K w.params).In base → base.Ns mainGlobals mg → FnOk l.prog w (K w.params) mg base CX0 14 fa fd ["_law_script"] (spLaw (K w.params))) :
    PySem.W.WalkO q loose XP YP l.row.toRowW d [] (fun f vs => PySem.call f vs) :=
  L2.walk_of (n := 63) (k := 14) (x := "_law_script") (CX := fun _ => CX0) (sp := fun w => spLaw (K w.params)) hn (by decide) hdf ⟨rfl, by decide, by decide⟩ hY F (fun _ _ a ns hl _ hS => ⟨a, ns, rfl, hS, fun _ => rfl⟩) fun _ _ _ _ _ z => z
end K69
set_option maxHeartbeats 0
open PySem PySem.W PyProof.Rows
open_top head for PySem.Challenge.rw_stagedrounding_k69_whole_no_shorter_chai
theorem PySem.Challenge.cw_stagedrounding_k69_whole_no_shorter_chai_holds : PySem.Challenge.rw_stagedrounding_k69_whole_no_shorter_chai.Holds := by
  exact head (by
    k_fill
    refine K69.walk (l := PySem.Challenge.rw_stagedrounding_k69_whole_no_shorter_chai) rfl rfl (fun w h Y => PySem.W.kIn_of Y) ?F
    case F =>
      intro w mg fa h KX G hmg
      refine' K69.top_mk (w := w) KX G hmg ?c_most ?c_pair ?c_steps ?c_down ?c_up ?r_a ?r_l ?b_a ?b_l ?b_k ?q_never ?l_never ?m_never ?q_always ?l_always ?m_always ?q_tieDown ?l_tieDown ?m_tieDown ?q_tieUp ?l_tieUp ?m_tieUp ?n_down_ ?v_down ?n_hdown_ ?v_hdown ?n_heven_ ?v_heven ?n_hup_ ?v_hup ?n_odd_ ?v_odd ?n_up_ ?v_up ?z_len ?z_range ?z_min ?z_max ?z_abs ?z_int ?z_bool ?z_str ?z_tuple ?z_isinstance ?z_all ?z_any ?z_zip ?z_enumerate ?z_sorted ?a0 ?l0 ?c0 ?k0 ?a1 ?l1 ?c1 ?k1 ?a2 ?l2 ?c2 ?k2 ?a3 ?l3 ?c3 ?k3 ?a4 ?l4 ?c4 ?k4 ?a5 ?l5 ?c5 ?k5 ?a6 ?l6 ?c6 ?k6 ?a7 ?l7 ?c7 ?k7 ?a8 ?l8 ?c8 ?k8 ?a9 ?l9 ?c9 ?k9 ?a10 ?l10 ?c10 ?k10 ?a11 ?l11 ?c11 ?k11 ?a12 ?l12 ?c12 ?k12 ?a13 ?l13 ?c13 ?k13 ?a14 ?l14 ?c14 ?k14 ?a15 ?l15 ?c15 ?k15 ?a16 ?l16 ?c16 ?k16 ?a17 ?l17 ?c17 ?k17 ?a18 ?l18 ?c18 ?k18 ?a19 ?l19 ?c19 ?k19 ?a20 ?l20 ?c20 ?k20 ?a21 ?l21 ?c21 ?k21 ?a22 ?l22 ?c22 ?k22 ?a23 ?l23 ?c23 ?k23 ?a24 ?l24 ?c24 ?k24 ?a25 ?l25 ?c25 ?k25 ?a26 ?l26 ?c26 ?k26 ?a27 ?l27 ?c27 ?k27 ?a28 ?l28 ?c28 ?k28 ?a29 ?l29 ?c29 ?k29 ?a30 ?l30 ?c30 ?k30 ?a31 ?l31 ?c31 ?k31 ?a32 ?l32 ?c32 ?k32 ?a33 ?l33 ?c33 ?k33 ?a34 ?l34 ?c34 ?k34 ?a35 ?l35 ?c35 ?k35 ?a36 ?l36 ?c36 ?k36 ?a37 ?l37 ?c37 ?k37 ?a38 ?l38 ?c38 ?k38 ?a39 ?l39 ?c39 ?k39 ?a40 ?l40 ?c40 ?k40 ?a41 ?l41 ?c41 ?k41 ?a42 ?l42 ?c42 ?k42 ?a43 ?l43 ?c43 ?k43 ?a44 ?l44 ?c44 ?k44 ?a45 ?l45 ?c45 ?k45 ?a46 ?l46 ?c46 ?k46
      (case c_most => k_is)
      (case c_pair => k_is)
      (case c_steps => k_is)
      (case c_down => k_is)
      (case c_up => k_is)
      (case r_a => k_is)
      (case r_l => k_is)
      (case b_a => k_is)
      (case b_l => k_is)
      (case b_k => exact ⟨⟨_, _, rfl, rfl⟩, ⟨_, _, rfl, rfl⟩, ⟨_, _, rfl, rfl⟩, ⟨_, _, rfl, rfl⟩, ⟨_, _, rfl, rfl⟩, ⟨_, _, rfl, rfl⟩, True.intro⟩)
      (case q_never => k_is)
      (case l_never => k_is)
      (case m_never => k_is)
      (case q_always => k_is)
      (case l_always => k_is)
      (case m_always => k_is)
      (case q_tieDown => k_is)
      (case l_tieDown => k_is)
      (case m_tieDown => k_is)
      (case q_tieUp => k_is)
      (case l_tieUp => k_is)
      (case m_tieUp => k_is)
      (case n_down_ => k_is)
      (case v_down => k_is)
      (case n_hdown_ => k_is)
      (case v_hdown => k_is)
      (case n_heven_ => k_is)
      (case v_heven => k_is)
      (case n_hup_ => k_is)
      (case v_hup => k_is)
      (case n_odd_ => k_is)
      (case v_odd => k_is)
      (case n_up_ => k_is)
      (case v_up => k_is)
      (case z_len => k_is)
      (case z_range => k_is)
      (case z_min => k_is)
      (case z_max => k_is)
      (case z_abs => k_is)
      (case z_int => k_is)
      (case z_bool => k_is)
      (case z_str => k_is)
      (case z_tuple => k_is)
      (case z_isinstance => k_is)
      (case z_all => k_is)
      (case z_any => k_is)
      (case z_zip => k_is)
      (case z_enumerate => k_is)
      (case z_sorted => k_is)
      (case a0 => k_is)
      (case l0 => k_is)
      (case c0 => k_is)
      (case k0 => k_is)
      (case a1 => k_is)
      (case l1 => k_is)
      (case c1 => k_is)
      (case k1 => k_is)
      (case a2 => k_is)
      (case l2 => k_is)
      (case c2 => k_is)
      (case k2 => k_is)
      (case a3 => k_is)
      (case l3 => k_is)
      (case c3 => k_is)
      (case k3 => k_is)
      (case a4 => k_is)
      (case l4 => k_is)
      (case c4 => k_is)
      (case k4 => k_is)
      (case a5 => k_is)
      (case l5 => k_is)
      (case c5 => k_is)
      (case k5 => k_is)
      (case a6 => k_is)
      (case l6 => k_is)
      (case c6 => k_is)
      (case k6 => k_is)
      (case a7 => k_is)
      (case l7 => k_is)
      (case c7 => k_is)
      (case k7 => k_is)
      (case a8 => k_is)
      (case l8 => k_is)
      (case c8 => k_is)
      (case k8 => k_is)
      (case a9 => k_is)
      (case l9 => k_is)
      (case c9 => k_is)
      (case k9 => k_is)
      (case a10 => k_is)
      (case l10 => k_is)
      (case c10 => k_is)
      (case k10 => k_is)
      (case a11 => k_is)
      (case l11 => k_is)
      (case c11 => k_is)
      (case k11 => k_is)
      (case a12 => k_is)
      (case l12 => k_is)
      (case c12 => k_is)
      (case k12 => k_is)
      (case a13 => k_is)
      (case l13 => k_is)
      (case c13 => k_is)
      (case k13 => k_is)
      (case a14 => k_is)
      (case l14 => k_is)
      (case c14 => k_is)
      (case k14 => k_is)
      (case a15 => k_is)
      (case l15 => k_is)
      (case c15 => k_is)
      (case k15 => k_is)
      (case a16 => k_is)
      (case l16 => k_is)
      (case c16 => k_is)
      (case k16 => k_is)
      (case a17 => k_is)
      (case l17 => k_is)
      (case c17 => k_is)
      (case k17 => k_is)
      (case a18 => k_is)
      (case l18 => k_is)
      (case c18 => k_is)
      (case k18 => k_is)
      (case a19 => k_is)
      (case l19 => k_is)
      (case c19 => k_is)
      (case k19 => k_is)
      (case a20 => k_is)
      (case l20 => k_is)
      (case c20 => k_is)
      (case k20 => k_is)
      (case a21 => k_is)
      (case l21 => k_is)
      (case c21 => k_is)
      (case k21 => k_is)
      (case a22 => k_is)
      (case l22 => k_is)
      (case c22 => k_is)
      (case k22 => k_is)
      (case a23 => k_is)
      (case l23 => k_is)
      (case c23 => k_is)
      (case k23 => k_is)
      (case a24 => k_is)
      (case l24 => k_is)
      (case c24 => k_is)
      (case k24 => k_is)
      (case a25 => k_is)
      (case l25 => k_is)
      (case c25 => k_is)
      (case k25 => k_is)
      (case a26 => k_is)
      (case l26 => k_is)
      (case c26 => k_is)
      (case k26 => k_is)
      (case a27 => k_is)
      (case l27 => k_is)
      (case c27 => k_is)
      (case k27 => k_is)
      (case a28 => k_is)
      (case l28 => k_is)
      (case c28 => k_is)
      (case k28 => k_is)
      (case a29 => k_is)
      (case l29 => k_is)
      (case c29 => k_is)
      (case k29 => k_is)
      (case a30 => k_is)
      (case l30 => k_is)
      (case c30 => k_is)
      (case k30 => k_is)
      (case a31 => k_is)
      (case l31 => k_is)
      (case c31 => k_is)
      (case k31 => k_is)
      (case a32 => k_is)
      (case l32 => k_is)
      (case c32 => k_is)
      (case k32 => k_is)
      (case a33 => k_is)
      (case l33 => k_is)
      (case c33 => k_is)
      (case k33 => k_is)
      (case a34 => k_is)
      (case l34 => k_is)
      (case c34 => k_is)
      (case k34 => k_is)
      (case a35 => k_is)
      (case l35 => k_is)
      (case c35 => k_is)
      (case k35 => k_is)
      (case a36 => k_is)
      (case l36 => k_is)
      (case c36 => k_is)
      (case k36 => k_is)
      (case a37 => k_is)
      (case l37 => k_is)
      (case c37 => k_is)
      (case k37 => k_is)
      (case a38 => k_is)
      (case l38 => k_is)
      (case c38 => k_is)
      (case k38 => k_is)
      (case a39 => k_is)
      (case l39 => k_is)
      (case c39 => k_is)
      (case k39 => k_is)
      (case a40 => k_is)
      (case l40 => k_is)
      (case c40 => k_is)
      (case k40 => k_is)
      (case a41 => k_is)
      (case l41 => k_is)
      (case c41 => k_is)
      (case k41 => k_is)
      (case a42 => k_is)
      (case l42 => k_is)
      (case c42 => k_is)
      (case k42 => k_is)
      (case a43 => k_is)
      (case l43 => k_is)
      (case c43 => k_is)
      (case k43 => k_is)
      (case a44 => k_is)
      (case l44 => k_is)
      (case c44 => k_is)
      (case k44 => k_is)
      (case a45 => k_is)
      (case l45 => k_is)
      (case c45 => k_is)
      (case k45 => k_is)
      (case a46 => k_is)
      (case l46 => k_is)
      (case c46 => k_is)
      (case k46 => k_is))
