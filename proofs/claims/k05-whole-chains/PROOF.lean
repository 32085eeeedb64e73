import PyProof.Rows.All
import Wide.All
import OpenK.AllK
import Wide.FinOn
import HandS.ForMost
import HandS.TupAny
import HandS.Zip
import KE.GoesEnum
import HandS.Conv
import KE.KDictWalk
import KE.GoesDict
import HandS.Sort
import HandS.DictComp
import KE.KDictDisplayH
import HandS.More
import HandS.SortRule
import KE.KDictCopyH
import KE.KDictSum
import HandS.ListItems
import KE.KDictZip
import KE.KDictItemsList
import HandS.IsInst
import HandS.Style
import HandS.Flow
import PySem.Challenge.RW_anyspan_k05_whole_chains_there_and_back
import HandS.Walk
section
set_option linter.all false
namespace K5
/-! ### small things -/
def fupd {A : Type} (f : Nat → A) (b : Nat) (x : A) : Nat → A := fun v => if v = b then x else f v
theorem fupd_same {A : Type} (f : Nat → A) (b : Nat) (x : A) : fupd f b x b = x := by simp [fupd]
theorem fupd_ne {A : Type} (f : Nat → A) {b v : Nat} (x : A) (h : v ≠ b) : fupd f b x v = f v := by simp [fupd, h]

/-- the sum of f over 0, .., m - 1 -/
def sumR : Nat → (Nat → Int) → Int
  | 0, _ => 0
  | m + 1, f => sumR m f + f m
theorem sumR_congr : ∀ (m : Nat) (f g : Nat → Int), (∀ v, v < m → f v = g v) → sumR m f = sumR m g
  | 0, _, _, _ => rfl
  | m + 1, f, g, h => by
    have h1 := sumR_congr m f g fun v hv => h v (by omega)
    have h2 := h m (by omega)
    simp only [sumR, h1, h2]
theorem sumR_upd : ∀ (m : Nat) (f : Nat → Int) (b : Nat) (x : Int), b < m → sumR m (fupd f b x) = sumR m f - f b + x
  | 0, _, b, _, h => absurd h (Nat.not_lt_zero b)
  | m + 1, f, b, x, h => by
    by_cases e : b = m
    · subst e
      have h1 := sumR_congr b (fupd f b x) f fun v hv => fupd_ne f x (by omega)
      simp only [sumR, h1, fupd_same]
      omega
    · have ih := sumR_upd m f b x (by omega)
      have h2 : fupd f b x m = f m := fupd_ne f x (fun z => e z.symm)
      simp only [sumR, ih, h2]
      omega
theorem sumR_le : ∀ (m : Nat) (f g : Nat → Int), (∀ v, v < m → f v ≤ g v) → sumR m f ≤ sumR m g
  | 0, _, _, _ => Int.le_refl 0
  | m + 1, f, g, h => by
    have h1 := sumR_le m f g fun v hv => h v (by omega)
    have h2 := h m (by omega)
    simp only [sumR]
    omega
theorem sumR_const : ∀ (m : Nat) (c : Int), sumR m (fun _ => c) = m * c
  | 0, c => by simp [sumR]
  | m + 1, c => by
    simp only [sumR, sumR_const m c]
    have : ((m + 1 : Nat) : Int) * c = m * c + c := by rw [Int.natCast_add, Int.add_mul]; simp
    omega

/-- more places than numbers: two places have the same number -/
theorem pigeon : ∀ (m : Nat) (f : Nat → Nat), (∀ j, j ≤ m → f j < m) → ∃ i j, i < j ∧ j ≤ m ∧ f i = f j
  | 0, f, h => absurd (h 0 (Nat.le_refl 0)) (Nat.not_lt_zero _)
  | m + 1, f, h => by
    by_cases q : ∃ i, i < m + 1 ∧ f i = f (m + 1)
    · obtain ⟨i, hi, e⟩ := q
      exact ⟨i, m + 1, hi, Nat.le_refl _, e⟩
    · -- no other place has the number of the last one: take that number out
      let g : Nat → Nat := fun j => if f j < f (m + 1) then f j else f j - 1
      have hg : ∀ j, j ≤ m → g j < m := fun j hj => by
        have h1 := h j (by omega)
        have h2 := h (m + 1) (Nat.le_refl _)
        have h3 : f j ≠ f (m + 1) := fun e => q ⟨j, by omega, e⟩
        show (if f j < f (m + 1) then f j else f j - 1) < m
        split <;> omega
      obtain ⟨i, j, hij, hj, e⟩ := pigeon m g hg
      refine ⟨i, j, hij, by omega, ?_⟩
      have h3 : f j ≠ f (m + 1) := fun e => q ⟨j, by omega, e⟩
      have h4 : f i ≠ f (m + 1) := fun e => q ⟨i, by omega, e⟩
      have e' : (if f i < f (m + 1) then f i else f i - 1) = (if f j < f (m + 1) then f j else f j - 1) := e
      split at e' <;> split at e' <;> omega
/-- distinct things out of a list are no more than it holds -/
theorem nodup_le {A : Type} [DecidableEq A] : ∀ (l L : List A), l.Nodup → (∀ x, x ∈ l → x ∈ L) → l.length ≤ L.length
  | [], _, _, _ => Nat.zero_le _
  | x :: l, L, hn, hs => by
    have hx : x ∈ L := hs x List.mem_cons_self
    rw [List.nodup_cons] at hn
    have ih := nodup_le l (L.erase x) hn.2 fun y hy => by
      have hne : y ≠ x := fun e => hn.1 (e ▸ hy)
      exact (List.mem_erase_of_ne hne).mpr (hs y (List.mem_cons_of_mem _ hy))
    have hl := List.length_erase_of_mem hx
    have hp : 0 < L.length := List.length_pos_of_mem hx
    simp only [List.length_cons]
    omega

/-! ### rules, told rows, gains of steps -/
/-- (span, least, most) -/
abbrev Rule := Nat × Nat × Nat
def RuleOk (r : Rule) : Prop := 1 ≤ r.1 ∧ r.1 ≤ 8 ∧ r.2.1 ≤ r.2.2 ∧ r.2.2 ≤ r.1
structure RulesOk (rs : List Rule) : Prop where
  ne : rs ≠ []
  few : rs.length ≤ 5
  each : ∀ r ∈ rs, RuleOk r
  up : rs.Pairwise fun a b => a.1 < b.1
structure ToldOk (ts : List (Option Int)) : Prop where
  few : ts.length ≤ 120
  each : ∀ p ∈ ts, p = none ∨ p = some 0 ∨ p = some 1
/-- the greatest span -/
def wide (rs : List Rule) : Nat := (rs.getLast?.map (·.1)).getD 1

def maxO : Option Int → Option Int → Option Int
  | none, y => y
  | some x, none => some x
  | some x, some y => some (if y > x then y else x)
/-- a step of one place, by what is told -/
def base (ts : List (Option Int)) (a b : Nat) : Option Int :=
  if b = a + 1 ∧ a < ts.length then some (if ts[a]? = some (some 1) then 1 else 0)
  else if a = b + 1 ∧ b < ts.length then some (if ts[b]? = some (some 0) then 0 else -1) else none
/-- a step of a rule's span -/
def rstep (n : Nat) (r : Rule) (a b : Nat) : Option Int :=
  if b = a + r.1 ∧ b ≤ n then some (r.2.1 : Int) else if a = b + r.1 ∧ a ≤ n then some (-(r.2.2 : Int)) else none
def gainFrom (n : Nat) (z : Option Int) (rs : List Rule) (a b : Nat) : Option Int := rs.foldl (fun acc r => maxO acc (rstep n r a b)) z
def gainOf (rs : List Rule) (ts : List (Option Int)) (a b : Nat) : Option Int := gainFrom ts.length (base ts a b) rs a b
/-- one of those that the greatest is taken of -/
def Cand (rs : List Rule) (ts : List (Option Int)) (a b : Nat) (c : Int) : Prop := base ts a b = some c ∨ ∃ r ∈ rs, rstep ts.length r a b = some c

theorem gainFrom_in (n a b : Nat) : ∀ (rs : List Rule) (z : Option Int) (g : Int), gainFrom n z rs a b = some g → z = some g ∨ ∃ r ∈ rs, rstep n r a b = some g
  | [], z, g, h => .inl h
  | r :: rs, z, g, h => by
    have h' : gainFrom n (maxO z (rstep n r a b)) rs a b = some g := h
    rcases gainFrom_in n a b rs _ g h' with e | ⟨q, hq, e⟩
    · cases z with
      | none =>
        exact .inr ⟨r, List.mem_cons_self, e⟩
      | some x =>
        cases hr : rstep n r a b with
        | none =>
          rw [hr] at e
          exact .inl e
        | some y =>
          rw [hr] at e
          simp only [maxO] at e
          split at e
          · exact .inr ⟨r, List.mem_cons_self, by rw [hr]; exact e⟩
          · exact .inl e
    · exact .inr ⟨q, List.mem_cons_of_mem _ hq, e⟩
theorem maxO_ge {z y : Option Int} {c : Int} (h : z = some c ∨ y = some c) : ∃ g, maxO z y = some g ∧ c ≤ g := by
  cases z with
  | none =>
    cases y with
    | none => rcases h with h | h <;> cases h
    | some y =>
      rcases h with h | h
      · cases h
      · cases h
        exact ⟨c, rfl, Int.le_refl c⟩
  | some x =>
    cases y with
    | none =>
      rcases h with h | h
      · cases h
        exact ⟨c, rfl, Int.le_refl c⟩
      · cases h
    | some y =>
      refine ⟨if y > x then y else x, rfl, ?_⟩
      rcases h with h | h <;> cases h <;> split <;> omega
theorem gainFrom_ge (n a b : Nat) : ∀ (rs : List Rule) (z : Option Int) (c : Int), (z = some c ∨ ∃ r ∈ rs, rstep n r a b = some c) → ∃ g, gainFrom n z rs a b = some g ∧ c ≤ g
  | [], z, c, h => by
    rcases h with h | ⟨r, hr, _⟩
    · exact ⟨c, h, Int.le_refl c⟩
    · cases hr
  | r :: rs, z, c, h => by
    have step : ∀ c', (z = some c' ∨ rstep n r a b = some c') → ∃ g, gainFrom n z (r :: rs) a b = some g ∧ c' ≤ g := fun c' hc => by
      obtain ⟨m, hm, hle⟩ := maxO_ge hc
      obtain ⟨g, hg, hle2⟩ := gainFrom_ge n a b rs (maxO z (rstep n r a b)) m (.inl hm)
      exact ⟨g, hg, Int.le_trans hle hle2⟩
    rcases h with h | ⟨q, hq, e⟩
    · exact step c (.inl h)
    · rcases List.mem_cons.mp hq with rfl | hq
      · exact step c (.inr e)
      · exact gainFrom_ge n a b rs (maxO z (rstep n r a b)) c (.inr ⟨q, hq, e⟩)
theorem gain_cand {rs : List Rule} {ts : List (Option Int)} {a b : Nat} {g : Int} (h : gainOf rs ts a b = some g) : Cand rs ts a b g := gainFrom_in _ _ _ _ _ _ h
theorem cand_gain {rs : List Rule} {ts : List (Option Int)} {a b : Nat} {c : Int} (h : Cand rs ts a b c) : ∃ g, gainOf rs ts a b = some g ∧ c ≤ g := gainFrom_ge _ _ _ _ _ _ h
theorem base_lt {ts : List (Option Int)} {a b : Nat} {g : Int} (h : base ts a b = some g) : a ≤ ts.length ∧ b ≤ ts.length ∧ a ≠ b ∧ -1 ≤ g := by
  unfold base at h
  split at h
  · cases h
    split <;> omega
  · split at h
    · cases h
      split <;> omega
    · cases h
theorem rstep_lt {n : Nat} {r : Rule} {a b : Nat} {g : Int} (hr : RuleOk r) (h : rstep n r a b = some g) : a ≤ n ∧ b ≤ n ∧ a ≠ b ∧ -8 ≤ g := by
  obtain ⟨h1, h2, h3, h4⟩ := hr
  unfold rstep at h
  split at h
  · cases h
    omega
  · split at h
    · cases h
      omega
    · cases h
theorem gain_lt {rs : List Rule} {ts : List (Option Int)} {a b : Nat} {g : Int} (hr : ∀ r ∈ rs, RuleOk r) (h : gainOf rs ts a b = some g) : a ≤ ts.length ∧ b ≤ ts.length ∧ a ≠ b ∧ -8 ≤ g := by
  rcases gain_cand h with e | ⟨r, hm, e⟩
  · have := base_lt e
    omega
  · exact rstep_lt (hr r hm) e

/-! ### chains and what they gain -/
def gains (rs : List Rule) (ts : List (Option Int)) : List Nat → Option Int
  | [] => none
  | [_] => some 0
  | x :: y :: r => match gainOf rs ts x y, gains rs ts (y :: r) with
    | some g, some s => some (g + s)
    | _, _ => none
/-- a number for each seam that no step breaks -/
def Pot (rs : List Rule) (ts : List (Option Int)) (F : Nat → Int) : Prop := ∀ a b g, gainOf rs ts a b = some g → F a + g ≤ F b
def Fillable (rs : List Rule) (ts : List (Option Int)) : Prop := ∃ F, Pot rs ts F
theorem gains_pot {rs : List Rule} {ts : List (Option Int)} {F : Nat → Int} (hF : Pot rs ts F) : ∀ (l : List Nat) (x z : Nat) (s : Int), gains rs ts l = some s → l.head? = some x → l.getLast? = some z → F x + s ≤ F z
  | [], _, _, _, h, _, _ => by cases h
  | [y], x, z, s, h, hx, hz => by
    cases h
    cases hx
    have e : y = z := Option.some.inj hz
    subst e
    omega
  | u :: v :: r, x, z, s, h, hx, hz => by
    cases hx
    rw [gains] at h
    split at h
    · rename_i g t hg ht
      cases h
      have ih := gains_pot hF (v :: r) v z t ht rfl (by rw [List.getLast?_cons_cons] at hz; exact hz)
      have h1 := hF u v g hg
      omega
    · cases h
theorem gains_snoc {rs : List Rule} {ts : List (Option Int)} (y : Nat) : ∀ (l : List Nat) (x : Nat) (s g : Int), gains rs ts l = some s → l.getLast? = some x → gainOf rs ts x y = some g → gains rs ts (l ++ [y]) = some (s + g)
  | [], _, _, _, h, _, _ => by cases h
  | [u], x, s, g, h, hx, hg => by
    cases h
    have e : u = x := Option.some.inj hx
    subst e
    show (match gainOf rs ts u y, gains rs ts [y] with
      | some g, some s => some (g + s)
      | _, _ => none) = _
    rw [hg]
    show some (g + 0) = some (0 + g)
    congr 1
    omega
  | u :: v :: r, x, s, g, h, hx, hg => by
    rw [gains] at h
    split at h
    · rename_i g' t hg' ht
      cases h
      have ih := gains_snoc y (v :: r) x t g ht (by rw [List.getLast?_cons_cons] at hx; exact hx) hg
      show gains rs ts (u :: v :: (r ++ [y])) = _
      rw [gains, hg']
      have ih' : gains rs ts (v :: (r ++ [y])) = some (t + g) := ih
      rw [ih']
      show some (g' + (t + g)) = some (g' + t + g)
      congr 1
      omega
    · cases h
end K5
end
section
set_option linter.all false
namespace K5
/-! ### the rounds that look for a ring (led_round) -/
abbrev Edge := Nat × Nat × Int
structure LS where
  far : Nat → Int
  came : Nat → Option Nat
  ch : Option Nat
def relax (st : LS) (e : Edge) : LS := if st.far e.1 + e.2.2 > st.far e.2.1 then ⟨fupd st.far e.2.1 (st.far e.1 + e.2.2), fupd st.came e.2.1 (some e.1), some e.2.1⟩ else st
/-- what holds within round k, the edges dn looked at, rm not yet; T: when a seam was last changed, r: in which round -/
structure LInv (ss : List Edge) (k : Nat) (dn rm : List Edge) (st : LS) (T r : Nat → Nat) (now : Nat) : Prop where
  tree : ∀ v u, st.came v = some u → ∃ g, (u, v, g) ∈ ss ∧ st.far v ≤ st.far u + g ∧ (T v < T u → st.far v < st.far u + g)
  tle : ∀ v, T v ≤ now
  tinj : ∀ u v, T u = T v → T u ≠ 0 → u = v
  tset : ∀ v, st.came v ≠ none → T v ≠ 0
  rle : ∀ v, r v ≤ k
  rset : ∀ v, st.came v = none → r v = 0
  rup : ∀ v u, st.came v = some u → r v ≤ r u + 1
  hdn : ∀ e ∈ dn, st.far e.1 + e.2.2 > st.far e.2.1 → k ≤ r e.1
  hrm : ∀ e ∈ rm, st.far e.1 + e.2.2 > st.far e.2.1 → k ≤ r e.1 + 1
  chs : ∀ v, st.ch = some v → r v = k ∧ st.came v ≠ none
  chn : st.ch = none → ∀ e ∈ dn, st.far e.1 + e.2.2 ≤ st.far e.2.1
theorem LInv.relax {ss : List Edge} (hss : ∀ e ∈ ss, e.1 ≠ e.2.1) {k : Nat} {dn rm : List Edge} {st : LS} {T r : Nat → Nat} {now : Nat} {e : Edge} (he : e ∈ ss) (I : LInv ss k dn (e :: rm) st T r now) :
    ∃ T' r' now', LInv ss k (dn ++ [e]) rm (K5.relax st e) T' r' now' := by
  obtain ⟨a, b, g⟩ := e
  have hab : a ≠ b := hss _ he
  unfold K5.relax
  by_cases h : st.far a + g > st.far b
  · rw [if_pos h]
    refine ⟨fupd T b (now + 1), fupd r b k, now + 1, ?_⟩
    have hra : k ≤ r a + 1 := I.hrm (a, b, g) List.mem_cons_self h
    have ta := I.tle a
    have fa : fupd st.far b (st.far a + g) a = st.far a := fupd_ne _ _ hab
    have fb : fupd st.far b (st.far a + g) b = st.far a + g := fupd_same _ _ _
    have low : ∀ v, st.far v ≤ fupd st.far b (st.far a + g) v := fun v => by
      by_cases e : v = b
      · subst e
        rw [fb]
        omega
      · rw [fupd_ne _ _ e]
        exact Int.le_refl _
    constructor
    · intro v u hc
      by_cases e : v = b
      · subst e
        have hu : a = u := by
          have hc' : fupd st.came v (some a) v = some u := hc
          rw [fupd_same] at hc'
          exact Option.some.inj hc'
        subst hu
        refine ⟨g, he, ?_, fun ht => ?_⟩
        · show fupd st.far v (st.far a + g) v ≤ fupd st.far v (st.far a + g) a + g
          rw [fa, fb]
          exact Int.le_refl _
        · rw [fupd_same, fupd_ne _ _ hab] at ht
          omega
      · have hc' : st.came v = some u := by
          have z : fupd st.came b (some a) v = some u := hc
          rwa [fupd_ne _ _ e] at z
        obtain ⟨g', hm, hle, hst⟩ := I.tree v u hc'
        refine ⟨g', hm, ?_, fun ht => ?_⟩
        · show fupd st.far b (st.far a + g) v ≤ fupd st.far b (st.far a + g) u + g'
          rw [fupd_ne _ _ e]
          have := low u
          omega
        · show fupd st.far b (st.far a + g) v < fupd st.far b (st.far a + g) u + g'
          rw [fupd_ne _ _ e] at ht ⊢
          by_cases eu : u = b
          · subst eu
            rw [fb]
            omega
          · rw [fupd_ne _ _ eu] at ht ⊢
            exact hst ht
    · intro v
      by_cases e : v = b
      · subst e
        rw [fupd_same]
        exact Nat.le_refl _
      · rw [fupd_ne _ _ e]
        have := I.tle v
        omega
    · intro u v ht h0
      by_cases eu : u = b
      · by_cases ev : v = b
        · rw [eu, ev]
        · rw [eu, fupd_same, fupd_ne _ _ ev] at ht
          have := I.tle v
          omega
      · by_cases ev : v = b
        · rw [ev, fupd_same, fupd_ne _ _ eu] at ht
          have := I.tle u
          omega
        · rw [fupd_ne _ _ eu, fupd_ne _ _ ev] at ht
          rw [fupd_ne _ _ eu] at h0
          exact I.tinj u v ht h0
    · intro v hv
      by_cases e : v = b
      · subst e
        rw [fupd_same]
        omega
      · rw [fupd_ne _ _ e]
        refine I.tset v fun z => hv ?_
        show fupd st.came b (some a) v = none
        rw [fupd_ne _ _ e]
        exact z
    · intro v
      by_cases e : v = b
      · subst e
        rw [fupd_same]
        exact Nat.le_refl _
      · rw [fupd_ne _ _ e]
        exact I.rle v
    · intro v hv
      have hv' : fupd st.came b (some a) v = none := hv
      by_cases e : v = b
      · subst e
        rw [fupd_same] at hv'
        cases hv'
      · rw [fupd_ne _ _ e] at hv' ⊢
        exact I.rset v hv'
    · intro v u hc
      have hc' : fupd st.came b (some a) v = some u := hc
      have up : ∀ u, r u ≤ fupd r b k u := fun u => by
        by_cases e : u = b
        · subst e
          rw [fupd_same]
          exact I.rle u
        · rw [fupd_ne _ _ e]
          exact Nat.le_refl _
      by_cases e : v = b
      · subst e
        rw [fupd_same] at hc'
        cases hc'
        rw [fupd_same, fupd_ne _ _ hab]
        exact hra
      · rw [fupd_ne _ _ e] at hc' ⊢
        have h1 := I.rup v u hc'
        have h2 := up u
        omega
    · intro e' he' hv
      obtain ⟨a', b', g'⟩ := e'
      have hv' : fupd st.far b (st.far a + g) a' + g' > fupd st.far b (st.far a + g) b' := hv
      show k ≤ fupd r b k a'
      by_cases ea : a' = b
      · subst ea
        rw [fupd_same]
        exact Nat.le_refl _
      · rw [fupd_ne _ _ ea]
        rw [fupd_ne _ _ ea] at hv'
        rcases List.mem_append.mp he' with h1 | h1
        · refine I.hdn _ h1 ?_
          have := low b'
          show st.far a' + g' > st.far b'
          omega
        · have e1 := List.mem_singleton.mp h1
          cases e1
          rw [fb] at hv'
          omega
    · intro e' he' hv
      obtain ⟨a', b', g'⟩ := e'
      have hv' : fupd st.far b (st.far a + g) a' + g' > fupd st.far b (st.far a + g) b' := hv
      show k ≤ fupd r b k a' + 1
      by_cases ea : a' = b
      · subst ea
        rw [fupd_same]
        omega
      · rw [fupd_ne _ _ ea]
        rw [fupd_ne _ _ ea] at hv'
        refine I.hrm _ (List.mem_cons_of_mem _ he') ?_
        have := low b'
        show st.far a' + g' > st.far b'
        omega
    · intro v hv
      have e : b = v := Option.some.inj hv
      subst e
      refine ⟨fupd_same _ _ _, fun z => ?_⟩
      have z' : fupd st.came b (some a) b = none := z
      rw [fupd_same] at z'
      cases z'
    · intro z
      cases z
  · rw [if_neg h]
    refine ⟨T, r, now, I.tree, I.tle, I.tinj, I.tset, I.rle, I.rset, I.rup, ?_, fun e' he' => I.hrm e' (List.mem_cons_of_mem _ he'), I.chs, ?_⟩
    · intro e' he' hv
      rcases List.mem_append.mp he' with h1 | h1
      · exact I.hdn _ h1 hv
      · have e1 := List.mem_singleton.mp h1
        subst e1
        exact absurd hv h
    · intro hc e' he'
      rcases List.mem_append.mp he' with h1 | h1
      · exact I.chn hc _ h1
      · have e1 := List.mem_singleton.mp h1
        subst e1
        exact Int.not_lt.mp h
theorem LInv.first (ss : List Edge) : LInv ss 1 [] ss ⟨fun _ => 0, fun _ => none, none⟩ (fun _ => 0) (fun _ => 0) 0 where
  tree := fun v u h => nomatch h
  tle := fun v => Nat.le_refl 0
  tinj := fun u v _ h => absurd rfl h
  tset := fun v h => absurd rfl h
  rle := fun v => Nat.zero_le 1
  rset := fun v _ => rfl
  rup := fun v u h => nomatch h
  hdn := fun e h => nomatch h
  hrm := fun e _ _ => Nat.le_refl 1
  chs := fun v h => nomatch h
  chn := fun _ e h => nomatch h
theorem LInv.next {ss : List Edge} {k : Nat} {st : LS} {T r : Nat → Nat} {now : Nat} (I : LInv ss k ss [] st T r now) : LInv ss (k + 1) [] ss { st with ch := none } T r now where
  tree := I.tree
  tle := I.tle
  tinj := I.tinj
  tset := I.tset
  rle := fun v => Nat.le_succ_of_le (I.rle v)
  rset := I.rset
  rup := I.rup
  hdn := fun e h => nomatch h
  hrm := fun e he hv => by
    have := I.hdn e he hv
    omega
  chs := fun v h => nomatch h
  chn := fun _ e h => nomatch h

/-! ### back along came -/
def upN (came : Nat → Option Nat) : Nat → Nat → Option Nat
  | 0, v => some v
  | j + 1, v => (upN came j v).bind came
theorem upN_add (came : Nat → Option Nat) (i : Nat) : ∀ (j v u : Nat), upN came i v = some u → upN came (i + j) v = upN came j u
  | 0, v, u, h => h
  | j + 1, v, u, h => by
    have ih := upN_add came i j v u h
    show (upN came (i + j) v).bind came = (upN came j u).bind came
    rw [ih]
theorem LInv.far_up {ss : List Edge} {k : Nat} {st : LS} {T r : Nat → Nat} {now : Nat} {dn rm : List Edge} (I : LInv ss k dn rm st T r now) {v : Nat} (hv : r v = k) : ∀ j, j ≤ k → ∃ u, upN st.came j v = some u ∧ k ≤ r u + j
  | 0, _ => ⟨v, rfl, by omega⟩
  | j + 1, hj => by
    obtain ⟨u, hu, hr⟩ := I.far_up hv j (by omega)
    cases hc : st.came u with
    | none =>
      have := I.rset u hc
      omega
    | some w =>
      refine ⟨w, ?_, ?_⟩
      · show (upN st.came j v).bind st.came = some w
        rw [hu]
        exact hc
      · have := I.rup u w hc
        omega
/-- behind so many rounds the way back from the seam changed last ends on a ring -/
theorem LInv.ring {ss : List Edge} {n k : Nat} (hss : ∀ e ∈ ss, e.1 ≤ n ∧ e.2.1 ≤ n) {st : LS} {T r : Nat → Nat} {now : Nat} {dn rm : List Edge} (I : LInv ss k dn rm st T r now) (hk : k = n + 2) {v : Nat} (hv : st.ch = some v) :
    ∃ h p, upN st.came (n + 2) v = some h ∧ 1 ≤ p ∧ upN st.came p h = some h := by
  obtain ⟨hr, hcv⟩ := I.chs v hv
  have up := I.far_up hr
  have lim : ∀ v u, st.came v = some u → u ≤ n ∧ v ≤ n := fun v u h => by
    obtain ⟨g, hm, _⟩ := I.tree v u h
    exact hss _ hm
  have hvn : v ≤ n := by
    cases hc : st.came v with
    | none => exact absurd hc hcv
    | some u => exact (lim v u hc).2
  have all : ∀ j u, upN st.came j v = some u → u ≤ n := fun j u h => by
    cases j with
    | zero =>
      cases h
      exact hvn
    | succ j =>
      have h' : (upN st.came j v).bind st.came = some u := h
      cases q : upN st.came j v with
      | none =>
        rw [q] at h'
        cases h'
      | some w =>
        rw [q] at h'
        exact (lim w u h').1
  obtain ⟨i, j, hij, hj, e⟩ := pigeon (n + 1) (fun j => (upN st.came j v).getD 0) fun j hj => by
    obtain ⟨u, hu, _⟩ := up j (by omega)
    have := all j u hu
    show (upN st.came j v).getD 0 < n + 1
    rw [hu]
    show u < n + 1
    omega
  obtain ⟨ui, hui, _⟩ := up i (by omega)
  obtain ⟨uj, huj, _⟩ := up j (by omega)
  have e' : ui = uj := by
    have e2 : (upN st.came i v).getD 0 = (upN st.came j v).getD 0 := e
    rw [hui, huj] at e2
    exact e2
  subst e'
  have back : upN st.came (j - i) ui = some ui := by
    rw [← upN_add st.came i (j - i) v ui hui, show i + (j - i) = j by omega]
    exact huj
  obtain ⟨h, hh, _⟩ := up (n + 2) (by omega)
  have hq : upN st.came (n + 2 - i) ui = some h := by
    rw [← upN_add st.came i (n + 2 - i) v ui hui, show i + (n + 2 - i) = n + 2 by omega]
    exact hh
  refine ⟨h, j - i, hh, by omega, ?_⟩
  have h1 := upN_add st.came (j - i) (n + 2 - i) ui ui back
  have h2 := upN_add st.came (n + 2 - i) (j - i) ui h hq
  rw [← h2, Nat.add_comm, h1]
  exact hq
/-- the least way round -/
theorem ring_least {came : Nat → Option Nat} {h p : Nat} (hp : 1 ≤ p) (e : upN came p h = some h) : ∃ q, 1 ≤ q ∧ upN came q h = some h ∧ ∀ j, 1 ≤ j → j < q → upN came j h ≠ some h := by
  induction p using Nat.strongRecOn with
  | ind p ih =>
    by_cases z : ∃ j, 1 ≤ j ∧ j < p ∧ upN came j h = some h
    · obtain ⟨j, h1, h2, h3⟩ := z
      exact ih j h2 h1 h3
    · exact ⟨p, hp, e, fun j h1 h2 h3 => z ⟨j, h1, h2, h3⟩⟩
/-- the seams met on the way back: v, came v, .., m steps -/
def backs (came : Nat → Option Nat) : Nat → Nat → List Nat
  | 0, v => [v]
  | m + 1, v => v :: (match came v with
    | some u => backs came m u
    | none => [])
end K5
end
section
set_option linter.all false
namespace K5
/-! ### the way back as a list -/
def way (came : Nat → Option Nat) (v m : Nat) : List Nat := (List.range (m + 1)).map fun j => (upN came j v).getD 0
theorem way_zero (came : Nat → Option Nat) (v : Nat) : way came v 0 = [v] := rfl
theorem way_succ (came : Nat → Option Nat) (v m : Nat) : way came v (m + 1) = way came v m ++ [(upN came (m + 1) v).getD 0] := by
  unfold way
  rw [List.range_succ, List.map_append]
  rfl
theorem way_length (came : Nat → Option Nat) (v m : Nat) : (way came v m).length = m + 1 := by
  unfold way
  rw [List.length_map, List.length_range]
theorem way_get (came : Nat → Option Nat) {v m j : Nat} (h : j ≤ m) : (way came v m)[j]? = some ((upN came j v).getD 0) := by
  unfold way
  rw [List.getElem?_map, List.getElem?_range (by omega)]
  rfl
theorem way_head (came : Nat → Option Nat) (v m : Nat) : (way came v m).head? = some v := by
  rw [List.head?_eq_getElem?, way_get came (Nat.zero_le m)]
  rfl
theorem way_last (came : Nat → Option Nat) {v m u : Nat} (h : upN came m v = some u) : (way came v m).getLast? = some u := by
  rw [List.getLast?_eq_getElem?, way_length, Nat.add_sub_cancel, way_get came (Nat.le_refl m), h]
  rfl
theorem upN_before {came : Nat → Option Nat} {v : Nat} : ∀ {m u : Nat}, upN came (m + 1) v = some u → ∃ w, upN came m v = some w ∧ came w = some u := fun {m u} h => by
  have h' : (upN came m v).bind came = some u := h
  cases q : upN came m v with
  | none =>
    rw [q] at h'
    cases h'
  | some w =>
    rw [q] at h'
    exact ⟨w, rfl, h'⟩
/-- came v is the seam from which v was reached: no step of it is slack, and some step of a ring is more -/
def Tree (rs : List Rule) (ts : List (Option Int)) (far : Nat → Int) (came : Nat → Option Nat) (T : Nat → Nat) : Prop :=
  ∀ v u, came v = some u → ∃ g, gainOf rs ts u v = some g ∧ far v ≤ far u + g ∧ (T v < T u → far v < far u + g) ∧ T u ≠ T v
theorem Tree.way {rs : List Rule} {ts : List (Option Int)} {far : Nat → Int} {came : Nat → Option Nat} {T : Nat → Nat} (t : Tree rs ts far came T) (v : Nat) :
    ∀ (m u : Nat), upN came m v = some u → ∃ s, gains rs ts (K5.way came v m).reverse = some s ∧ far v ≤ far u + s ∧ (m = 0 ∨ far v < far u + s ∨ T u < T v)
  | 0, u, h => by
    cases h
    exact ⟨0, rfl, by omega, .inl rfl⟩
  | m + 1, u, h => by
    obtain ⟨w, hw, hc⟩ := upN_before h
    obtain ⟨s, hs, hle, hst⟩ := t.way v m w hw
    obtain ⟨g, hg, h1, h2, h3⟩ := t w u hc
    have hl := way_last came hw
    rw [way_succ, h]
    have e : (K5.way came v m ++ [(some u).getD 0]).reverse = u :: (K5.way came v m).reverse := by
      rw [List.reverse_append]
      rfl
    rw [e]
    cases q : (K5.way came v m).reverse with
    | nil =>
      have z := congrArg List.length q
      rw [List.length_reverse, way_length] at z
      cases z
    | cons x r =>
      have ex : x = w := by
        have z : (K5.way came v m).reverse.head? = some w := by rw [List.head?_reverse, hl]
        rw [q] at z
        exact Option.some.inj z
      subst ex
      rw [q] at hs
      refine ⟨g + s, ?_, by omega, ?_⟩
      · rw [gains, hg, hs]
      · by_cases ht : T x < T u
        · have := h2 ht
          exact .inr (.inl (by omega))
        · rcases hst with z | z | z
          · subst z
            cases hw
            exact .inr (.inr (by omega))
          · exact .inr (.inl (by omega))
          · exact .inr (.inr (by omega))
/-- a ring on the way back gains more than nought -/
theorem Tree.ring {rs : List Rule} {ts : List (Option Int)} {far : Nat → Int} {came : Nat → Option Nat} {T : Nat → Nat} (t : Tree rs ts far came T) {h p : Nat} (hp : 1 ≤ p) (e : upN came p h = some h) :
    ∃ s, gains rs ts (K5.way came h p).reverse = some s ∧ 0 < s := by
  obtain ⟨s, hs, hle, hst⟩ := t.way h p h e
  refine ⟨s, hs, ?_⟩
  rcases hst with z | z | z
  · omega
  · omega
  · exact absurd z (Nat.lt_irrefl _)
/-- the steps as a list: all of them, and each with its gain -/
def StepsOf (rs : List Rule) (ts : List (Option Int)) (ss : List Edge) : Prop := ∀ a b g, (a, b, g) ∈ ss ↔ gainOf rs ts a b = some g
theorem LInv.toTree {rs : List Rule} {ts : List (Option Int)} {ss : List Edge} (hr : ∀ r ∈ rs, RuleOk r) (hs : StepsOf rs ts ss) {k : Nat} {dn rm : List Edge} {st : LS} {T r : Nat → Nat} {now : Nat} (I : LInv ss k dn rm st T r now) :
    Tree rs ts st.far st.came T := fun v u hc => by
  obtain ⟨g, hm, h1, h2⟩ := I.tree v u hc
  have hg := (hs u v g).mp hm
  refine ⟨g, hg, h1, h2, fun e => ?_⟩
  have hv : T v ≠ 0 := I.tset v (by rw [hc]; exact fun z => nomatch z)
  have := I.tinj u v e (by omega)
  exact (gain_lt hr hg).2.2.1 this
/-- a round in which nothing changed: the told row can be filled -/
theorem LInv.calm {rs : List Rule} {ts : List (Option Int)} {ss : List Edge} (hs : StepsOf rs ts ss) {k : Nat} {rm : List Edge} {st : LS} {T r : Nat → Nat} {now : Nat} (I : LInv ss k ss rm st T r now) (hc : st.ch = none) : Pot rs ts st.far :=
  fun a b g hg => I.chn hc (a, b, g) ((hs a b g).mpr hg)

/-! ### the rounds of farthest -/
structure FS where
  far : Nat → Option Int
  came : Nat → Option Nat
  go : Bool
def upF (st : FS) (e : Edge) (x : Int) : FS := ⟨fupd st.far e.2.1 (some (x + e.2.2)), fupd st.came e.2.1 (some e.1), true⟩
/-- how many seams have a number -/
def cnt (n : Nat) (far : Nat → Option Int) : Int := sumR (n + 1) fun v => if (far v).isSome then 1 else 0
/-- what is left to gain -/
def slack (n bg : Nat) (P : Nat → Int) (far : Nat → Option Int) (v : Nat) : Int := match far v with
  | none => 10 * (n + 1)
  | some x => P v - P bg - x
def mu (n bg : Nat) (P : Nat → Int) (far : Nat → Option Int) : Int := sumR (n + 1) (slack n bg P far)
structure FInv (ss : List Edge) (n bg : Nat) (P : Nat → Int) (dn : List Edge) (m0 : Int) (st : FS) (T : Nat → Nat) (now : Nat) : Prop where
  beg : st.far bg = some 0 ∧ st.came bg = none ∧ T bg = 0
  le : ∀ v x, st.far v = some x → x ≤ P v - P bg
  tree : ∀ v x, st.far v = some x → v ≠ bg → ∃ u y g, st.came v = some u ∧ st.far u = some y ∧ (u, v, g) ∈ ss ∧ x ≤ y + g ∧ (T v < T u → x < y + g)
  no : ∀ v, st.far v = none → st.came v = none
  tle : ∀ v, T v ≤ now
  tinj : ∀ u v, T u = T v → T u ≠ 0 → u = v
  tset : ∀ v, st.far v ≠ none → v ≠ bg → T v ≠ 0
  low : ∀ v x, st.far v = some x → -(8 * (cnt n st.far - 1)) ≤ x
  rng : ∀ v, st.far v ≠ none → v ≤ n
  clo : st.go = false → ∀ e ∈ dn, ∀ x, st.far e.1 = some x → ∃ y, st.far e.2.1 = some y ∧ x + e.2.2 ≤ y
  mle : mu n bg P st.far ≤ m0
  mlt : st.go = true → mu n bg P st.far < m0
theorem cnt_le (n : Nat) (far : Nat → Option Int) : cnt n far ≤ n + 1 := by
  have h := sumR_le (n + 1) (fun v => if (far v).isSome then 1 else 0) (fun _ => 1) fun v _ => by
    show (if (far v).isSome then (1 : Int) else 0) ≤ 1
    split <;> omega
  rw [sumR_const] at h
  unfold cnt
  omega
theorem cnt_upd {n : Nat} {far : Nat → Option Int} {b : Nat} (x : Int) (hb : b ≤ n) : cnt n (fupd far b (some x)) = cnt n far + (if (far b).isSome then 0 else 1) := by
  have e : (fun v => if (fupd far b (some x) v).isSome then (1 : Int) else 0) = fupd (fun v => if (far v).isSome then (1 : Int) else 0) b 1 := by
    funext v
    by_cases h : v = b
    · subst h
      rw [fupd_same, fupd_same]
      rfl
    · rw [fupd_ne _ _ h, fupd_ne _ _ h]
  unfold cnt
  rw [e, sumR_upd _ _ _ _ (by omega)]
  show sumR (n + 1) (fun v => if (far v).isSome then 1 else 0) - (if (far b).isSome then 1 else 0) + 1 = _
  split <;> omega
theorem mu_upd {n bg : Nat} {P : Nat → Int} {far : Nat → Option Int} {b : Nat} (x : Int) (hb : b ≤ n) : mu n bg P (fupd far b (some x)) = mu n bg P far - slack n bg P far b + (P b - P bg - x) := by
  have e : slack n bg P (fupd far b (some x)) = fupd (slack n bg P far) b (P b - P bg - x) := by
    funext v
    by_cases h : v = b
    · subst h
      rw [fupd_same]
      unfold slack
      rw [fupd_same]
    · rw [fupd_ne _ _ h]
      unfold slack
      rw [fupd_ne _ _ h]
  unfold mu
  rw [e, sumR_upd _ _ _ _ (by omega)]
theorem FInv.up {ss : List Edge} {n bg : Nat} {P : Nat → Int} (hP : ∀ e ∈ ss, P e.1 + e.2.2 ≤ P e.2.1) (hss : ∀ e ∈ ss, e.1 ≤ n ∧ e.2.1 ≤ n ∧ e.1 ≠ e.2.1 ∧ -8 ≤ e.2.2) (hd : ∀ v, v ≤ n → P v - P bg ≤ n)
    {dn : List Edge} {m0 : Int} {st : FS} {T : Nat → Nat} {now : Nat} (I : FInv ss n bg P dn m0 st T now) {e : Edge} (he : e ∈ ss) {x : Int} (hx : st.far e.1 = some x) (hy : st.far e.2.1 = none ∨ ∃ y, st.far e.2.1 = some y ∧ y < x + e.2.2) (dn' : List Edge) :
    ∃ T' now', FInv ss n bg P dn' m0 (upF st e x) T' now' := by
  obtain ⟨a, b, g⟩ := e
  obtain ⟨ha, hb, hab, hg⟩ := hss _ he
  have hPe : P a + g ≤ P b := hP _ he
  have ha : a ≤ n := ha
  have hb : b ≤ n := hb
  have hab : a ≠ b := hab
  have hg : -8 ≤ g := hg
  have hx : st.far a = some x := hx
  have hxl := I.le a x hx
  have hxlow := I.low a x hx
  have hbb : b ≠ bg := fun z => by
    subst z
    rcases hy with q | ⟨y, q, hlt⟩
    · have q' : st.far b = none := q
      rw [I.beg.1] at q'
      cases q'
    · have q' : st.far b = some y := q
      rw [I.beg.1] at q'
      cases q'
      have : (0 : Int) < x + g := hlt
      omega
  have hc := cnt_upd (far := st.far) (x + g) hb
  have hcl := cnt_le n (fupd st.far b (some (x + g)))
  have fo : ∀ v, v ≠ b → fupd st.far b (some (x + g)) v = st.far v := fun v h => fupd_ne _ _ h
  have fb : fupd st.far b (some (x + g)) b = some (x + g) := fupd_same _ _ _
  have hcge : cnt n st.far ≤ cnt n (fupd st.far b (some (x + g))) := by
    rw [hc]
    split <;> omega
  have hmu : mu n bg P (fupd st.far b (some (x + g))) < mu n bg P st.far := by
    rw [mu_upd _ hb]
    have hdb := hd b hb
    rcases hy with q | ⟨y, q, hlt⟩
    · have q' : st.far b = none := q
      have hs : slack n bg P st.far b = 10 * (n + 1) := by
        unfold slack
        rw [q']
      rw [q'] at hc
      simp only [Option.isSome_none, Bool.false_eq_true, if_false] at hc
      rw [hs]
      omega
    · have q' : st.far b = some y := q
      have hs : slack n bg P st.far b = P b - P bg - y := by
        unfold slack
        rw [q']
      have hlt' : y < x + g := hlt
      rw [hs]
      omega
  refine ⟨fupd T b (now + 1), now + 1, ?_⟩
  show FInv ss n bg P dn' m0 ⟨fupd st.far b (some (x + g)), fupd st.came b (some a), true⟩ (fupd T b (now + 1)) (now + 1)
  constructor
  · exact ⟨by show fupd st.far b (some (x + g)) bg = some 0; rw [fo _ (Ne.symm hbb)]; exact I.beg.1, by show fupd st.came b (some a) bg = none; rw [fupd_ne _ _ (Ne.symm hbb)]; exact I.beg.2.1, by rw [fupd_ne _ _ (Ne.symm hbb)]; exact I.beg.2.2⟩
  · intro v z hz
    have hz' : fupd st.far b (some (x + g)) v = some z := hz
    by_cases e : v = b
    · subst e
      rw [fb] at hz'
      cases hz'
      omega
    · rw [fo _ e] at hz'
      exact I.le v z hz'
  · intro v z hz hv
    have hz' : fupd st.far b (some (x + g)) v = some z := hz
    show ∃ u y g', fupd st.came b (some a) v = some u ∧ fupd st.far b (some (x + g)) u = some y ∧ (u, v, g') ∈ ss ∧ z ≤ y + g' ∧ (fupd T b (now + 1) v < fupd T b (now + 1) u → z < y + g')
    by_cases e : v = b
    · subst e
      rw [fb] at hz'
      cases hz'
      refine ⟨a, x, g, fupd_same _ _ _, by rw [fo _ hab]; exact hx, he, Int.le_refl _, fun ht => ?_⟩
      rw [fupd_same, fupd_ne _ _ hab] at ht
      have := I.tle a
      omega
    · rw [fo _ e] at hz'
      obtain ⟨u, y, g', h1, h2, h3, h4, h5⟩ := I.tree v z hz' hv
      by_cases eu : u = b
      · subst eu
        refine ⟨u, x + g, g', by rw [fupd_ne _ _ e]; exact h1, fb, h3, ?_, fun _ => ?_⟩
        · rcases hy with q | ⟨y', q, hlt⟩
          · have q' : st.far u = none := q
            rw [h2] at q'
            cases q'
          · have q' : st.far u = some y' := q
            rw [h2] at q'
            cases q'
            have hlt' : y < x + g := hlt
            omega
        · rcases hy with q | ⟨y', q, hlt⟩
          · have q' : st.far u = none := q
            rw [h2] at q'
            cases q'
          · have q' : st.far u = some y' := q
            rw [h2] at q'
            cases q'
            have hlt' : y < x + g := hlt
            omega
      · refine ⟨u, y, g', by rw [fupd_ne _ _ e]; exact h1, by rw [fo _ eu]; exact h2, h3, h4, fun ht => ?_⟩
        rw [fupd_ne _ _ e, fupd_ne _ _ eu] at ht
        exact h5 ht
  · intro v hv
    have hv' : fupd st.far b (some (x + g)) v = none := hv
    show fupd st.came b (some a) v = none
    by_cases e : v = b
    · subst e
      rw [fb] at hv'
      cases hv'
    · rw [fo _ e] at hv'
      rw [fupd_ne _ _ e]
      exact I.no v hv'
  · intro v
    by_cases e : v = b
    · subst e
      rw [fupd_same]
      exact Nat.le_refl _
    · rw [fupd_ne _ _ e]
      have := I.tle v
      omega
  · intro u v ht h0
    by_cases eu : u = b
    · by_cases ev : v = b
      · rw [eu, ev]
      · rw [eu, fupd_same, fupd_ne _ _ ev] at ht
        have := I.tle v
        omega
    · by_cases ev : v = b
      · rw [ev, fupd_same, fupd_ne _ _ eu] at ht
        have := I.tle u
        omega
      · rw [fupd_ne _ _ eu, fupd_ne _ _ ev] at ht
        rw [fupd_ne _ _ eu] at h0
        exact I.tinj u v ht h0
  · intro v hv hvb
    by_cases e : v = b
    · subst e
      rw [fupd_same]
      omega
    · rw [fupd_ne _ _ e]
      refine I.tset v (fun z => hv ?_) hvb
      show fupd st.far b (some (x + g)) v = none
      rw [fo _ e]
      exact z
  · intro v z hz
    have hz' : fupd st.far b (some (x + g)) v = some z := hz
    show -(8 * (cnt n (fupd st.far b (some (x + g))) - 1)) ≤ z
    by_cases e : v = b
    · subst e
      rw [fb] at hz'
      cases hz'
      rcases hy with q | ⟨y, q, hlt⟩
      · have q' : st.far v = none := q
        rw [q'] at hc
        simp only [Option.isSome_none, Bool.false_eq_true, if_false] at hc
        omega
      · have q' : st.far v = some y := q
        have := I.low v y q'
        have hlt' : y < x + g := hlt
        omega
    · rw [fo _ e] at hz'
      have := I.low v z hz'
      omega
  · intro v hv
    by_cases e : v = b
    · rw [e]
      exact hb
    · refine I.rng v fun z => hv ?_
      show fupd st.far b (some (x + g)) v = none
      rw [fo _ e]
      exact z
  · intro z
    cases z
  · have := I.mle
    show mu n bg P (fupd st.far b (some (x + g))) ≤ m0
    omega
  · intro _
    have := I.mle
    show mu n bg P (fupd st.far b (some (x + g))) < m0
    omega
theorem FInv.keep {ss : List Edge} {n bg : Nat} {P : Nat → Int} {dn : List Edge} {m0 : Int} {st : FS} {T : Nat → Nat} {now : Nat} (I : FInv ss n bg P dn m0 st T now) {e : Edge} (h : ∀ x, st.far e.1 = some x → ∃ y, st.far e.2.1 = some y ∧ x + e.2.2 ≤ y) :
    FInv ss n bg P (dn ++ [e]) m0 st T now := by
  have q : st.go = false → ∀ e' ∈ dn ++ [e], ∀ x, st.far e'.1 = some x → ∃ y, st.far e'.2.1 = some y ∧ x + e'.2.2 ≤ y := fun hg e' he' x hx => by
    rcases List.mem_append.mp he' with h1 | h1
    · exact I.clo hg e' h1 x hx
    · have z := List.mem_singleton.mp h1
      subst z
      exact h x hx
  exact { I with clo := q }
theorem FInv.next {ss : List Edge} {n bg : Nat} {P : Nat → Int} {dn : List Edge} {m0 : Int} {st : FS} {T : Nat → Nat} {now : Nat} (I : FInv ss n bg P dn m0 st T now) : FInv ss n bg P [] (mu n bg P st.far) { st with go := false } T now :=
  { I with clo := fun _ e he => (nomatch he), mle := Int.le_refl _, mlt := fun z => nomatch z }
theorem slack_nn {ss : List Edge} {n bg : Nat} {P : Nat → Int} {dn : List Edge} {m0 : Int} {st : FS} {T : Nat → Nat} {now : Nat} (I : FInv ss n bg P dn m0 st T now) : 0 ≤ mu n bg P st.far := by
  have h := sumR_le (n + 1) (fun _ => 0) (slack n bg P st.far) fun v _ => by
    show 0 ≤ slack n bg P st.far v
    unfold slack
    split
    · omega
    · rename_i x hx
      have := I.le v x hx
      omega
  rw [sumR_const] at h
  unfold mu
  omega
theorem FInv.first {ss : List Edge} {n bg : Nat} (hb : bg ≤ n) (P : Nat → Int) : FInv ss n bg P [] (mu n bg P (fupd (fun _ => none) bg (some 0)) + 1) ⟨fupd (fun _ => none) bg (some 0), fun _ => none, true⟩ (fun _ => 0) 0 where
  beg := ⟨fupd_same (fun _ => none) bg (some (0 : Int)), rfl, rfl⟩
  le := fun v x h => by
    have h' : fupd (fun _ => none) bg (some (0 : Int)) v = some x := h
    by_cases e : v = bg
    · subst e
      rw [fupd_same] at h'
      cases h'
      omega
    · rw [fupd_ne _ _ e] at h'
      cases h'
  tree := fun v x h hv => by
    have h' : fupd (fun _ => none) bg (some (0 : Int)) v = some x := h
    rw [fupd_ne _ _ hv] at h'
    cases h'
  no := fun v h => rfl
  tle := fun v => Nat.le_refl 0
  tinj := fun u v _ h => absurd rfl h
  tset := fun v h hv => by
    refine absurd ?_ h
    show fupd (fun _ => none) bg (some (0 : Int)) v = none
    rw [fupd_ne _ _ hv]
  low := fun v x h => by
    have h' : fupd (fun _ => none) bg (some (0 : Int)) v = some x := h
    have hc := cnt_upd (n := n) (far := fun _ => none) (0 : Int) hb
    have h0 : cnt n (fun _ => none) = 0 := by
      unfold cnt
      have := sumR_const (n + 1) 0
      simp only [Option.isSome_none, Bool.false_eq_true, if_false]
      omega
    rw [h0] at hc
    simp only [Option.isSome_none, Bool.false_eq_true, if_false] at hc
    by_cases e : v = bg
    · subst e
      rw [fupd_same] at h'
      cases h'
      show -(8 * (cnt n (fupd (fun _ => none) v (some 0)) - 1)) ≤ (0 : Int)
      rw [hc]
      decide
    · rw [fupd_ne _ _ e] at h'
      cases h'
  rng := fun v h => by
    by_cases e : v = bg
    · rw [e]
      exact hb
    · refine absurd ?_ h
      show fupd (fun _ => none) bg (some (0 : Int)) v = none
      rw [fupd_ne _ _ e]
  clo := fun z => nomatch z
  mle := by
    show mu n bg P (fupd (fun _ => none) bg (some 0)) ≤ _
    omega
  mlt := fun _ => by
    show mu n bg P (fupd (fun _ => none) bg (some 0)) < _
    omega
end K5
end
section
set_option linter.all false
namespace K5
/-! ### neighbours -/
theorem pot_near {rs : List Rule} {ts : List (Option Int)} {F : Nat → Int} (hF : Pot rs ts F) {k : Nat} (hk : k < ts.length) : F k ≤ F (k + 1) ∧ F (k + 1) ≤ F k + 1 := by
  constructor
  · have c : Cand rs ts k (k + 1) (if ts[k]? = some (some 1) then 1 else 0) := .inl (by unfold base; rw [if_pos ⟨rfl, hk⟩])
    obtain ⟨g, hg, hle⟩ := cand_gain c
    have := hF _ _ _ hg
    split at hle <;> omega
  · have c : Cand rs ts (k + 1) k (if ts[k]? = some (some 0) then 0 else -1) := .inl (by unfold base; rw [if_neg (by omega), if_pos ⟨rfl, hk⟩])
    obtain ⟨g, hg, hle⟩ := cand_gain c
    have := hF _ _ _ hg
    split at hle <;> omega
theorem pot_up {rs : List Rule} {ts : List (Option Int)} {F : Nat → Int} (hF : Pot rs ts F) : ∀ (d a : Nat), a + d ≤ ts.length → F a ≤ F (a + d) ∧ F (a + d) ≤ F a + d
  | 0, a, _ => ⟨Int.le_refl _, by show F a ≤ F a + ((0 : Nat) : Int); omega⟩
  | d + 1, a, h => by
    obtain ⟨h1, h2⟩ := pot_up hF d a (by omega)
    obtain ⟨h3, h4⟩ := pot_near hF (k := a + d) (by omega)
    constructor
    · exact Int.le_trans h1 h3
    · show F (a + d + 1) ≤ F a + ((d + 1 : Nat) : Int)
      omega
theorem pot_span {rs : List Rule} {ts : List (Option Int)} {F : Nat → Int} (hF : Pot rs ts F) {a b : Nat} (ha : a ≤ ts.length) (hb : b ≤ ts.length) : F b - F a ≤ ts.length := by
  by_cases h : a ≤ b
  · have := (pot_up hF (b - a) a (by omega)).2
    rw [show a + (b - a) = b by omega] at this
    omega
  · have := (pot_up hF (a - b) b (by omega)).1
    rw [show b + (a - b) = a by omega] at this
    omega
theorem next_on (rs : List Rule) (ts : List (Option Int)) {k : Nat} (hk : k < ts.length) : (∃ g, gainOf rs ts k (k + 1) = some g) ∧ ∃ g, gainOf rs ts (k + 1) k = some g := by
  constructor
  · have c : Cand rs ts k (k + 1) (if ts[k]? = some (some 1) then 1 else 0) := .inl (by unfold base; rw [if_pos ⟨rfl, hk⟩])
    obtain ⟨g, hg, _⟩ := cand_gain c
    exact ⟨g, hg⟩
  · have c : Cand rs ts (k + 1) k (if ts[k]? = some (some 0) then 0 else -1) := .inl (by unfold base; rw [if_neg (by omega), if_pos ⟨rfl, hk⟩])
    obtain ⟨g, hg, _⟩ := cand_gain c
    exact ⟨g, hg⟩

/-! ### what farthest tells -/
/-- the greatest gain d from bg to en, a chain ns that has it -/
structure Far (rs : List Rule) (ts : List (Option Int)) (bg en : Nat) (d : Int) (ns : List Nat) : Prop where
  pot : ∃ F, Pot rs ts F ∧ F bg = 0 ∧ F en = d
  has : gains rs ts ns = some d
  head : ns.head? = some bg
  last : ns.getLast? = some en
  one : bg = en → ns = [bg] ∧ d = 0
theorem Far.same {rs : List Rule} {ts : List (Option Int)} {bg en : Nat} {d d' : Int} {ns ns' : List Nat} (f : Far rs ts bg en d ns) (f' : Far rs ts bg en d' ns') : d = d' := by
  obtain ⟨F, hF, h0, h1⟩ := f.pot
  obtain ⟨F', hF', h0', h1'⟩ := f'.pot
  have a := gains_pot hF ns' bg en d' f'.has f'.head f'.last
  have b := gains_pot hF' ns bg en d f.has f.head f.last
  omega
/-- a chain that ends where it began and gains shows that there is no filling -/
theorem no_fill {rs : List Rule} {ts : List (Option Int)} {ns : List Nat} {s : Int} (h : gains rs ts ns = some s) (hs : 0 < s) (hh : ns.head? = ns.getLast?) : ¬ Fillable rs ts := fun ⟨F, hF⟩ => by
  cases e : ns.head? with
  | none =>
    cases ns with
    | nil => cases h
    | cons x r => cases e
  | some x =>
    have := gains_pot hF ns x x s h e (by rw [← hh]; exact e)
    omega
section
variable {rs : List Rule} {ts : List (Option Int)} {ss : List Edge} {bg : Nat} {P : Nat → Int} {m0 : Int} {st : FS} {T : Nat → Nat} {now : Nat}
/-- the end of the rounds: every seam has its number -/
theorem FInv.full (hs : StepsOf rs ts ss) (hb : bg ≤ ts.length) (I : FInv ss ts.length bg P ss m0 st T now) (hg : st.go = false) : ∀ v, v ≤ ts.length → st.far v ≠ none := by
  have clo := I.clo hg
  have step : ∀ a b g, gainOf rs ts a b = some g → st.far a ≠ none → st.far b ≠ none := fun a b g hg ha => by
    cases e : st.far a with
    | none => exact absurd e ha
    | some x =>
      obtain ⟨y, hy, _⟩ := clo (a, b, g) ((hs a b g).mpr hg) x e
      have hy' : st.far b = some y := hy
      rw [hy']
      exact fun z => nomatch z
  have up : ∀ d, bg + d ≤ ts.length → st.far (bg + d) ≠ none := fun d => by
    induction d with
    | zero =>
      intro _
      rw [Nat.add_zero, I.beg.1]
      exact fun z => nomatch z
    | succ d ih =>
      intro h
      obtain ⟨⟨g, hg⟩, _⟩ := next_on rs ts (k := bg + d) (by omega)
      exact step _ _ g hg (ih (by omega))
  have down : ∀ d, d ≤ bg → st.far (bg - d) ≠ none := fun d => by
    induction d with
    | zero =>
      intro _
      rw [Nat.sub_zero, I.beg.1]
      exact fun z => nomatch z
    | succ d ih =>
      intro h
      obtain ⟨_, ⟨g, hg⟩⟩ := next_on rs ts (k := bg - (d + 1)) (by omega)
      rw [show bg - (d + 1) + 1 = bg - d by omega] at hg
      exact step _ _ g hg (ih (by omega))
  intro v hv
  by_cases h : bg ≤ v
  · have := up (v - bg) (by omega)
    rwa [show bg + (v - bg) = v by omega] at this
  · have := down (bg - v) (by omega)
    rwa [show bg - (bg - v) = v by omega] at this
theorem FInv.pot (hr : ∀ r ∈ rs, RuleOk r) (hs : StepsOf rs ts ss) (hb : bg ≤ ts.length) (I : FInv ss ts.length bg P ss m0 st T now) (hg : st.go = false) : Pot rs ts fun v => (st.far v).getD 0 := fun a b g hab => by
  have ha := (gain_lt hr hab).1
  cases e : st.far a with
  | none => exact absurd e (I.full hs hb hg a ha)
  | some x =>
    obtain ⟨y, hy, hle⟩ := I.clo hg (a, b, g) ((hs a b g).mpr hab) x e
    have hy' : st.far b = some y := hy
    show (st.far a).getD 0 + g ≤ (st.far b).getD 0
    rw [e, hy']
    exact hle
/-- each seam but the first has been reached from one that was settled earlier -/
theorem FInv.back (hr : ∀ r ∈ rs, RuleOk r) (hs : StepsOf rs ts ss) (hb : bg ≤ ts.length) (I : FInv ss ts.length bg P ss m0 st T now) (hg : st.go = false) {v : Nat} (hv : v ≤ ts.length) (hvb : v ≠ bg) :
    ∃ u g, st.came v = some u ∧ u ≤ ts.length ∧ gainOf rs ts u v = some g ∧ (st.far v).getD 0 ≤ (st.far u).getD 0 + g ∧ T u < T v := by
  cases e : st.far v with
  | none => exact absurd e (I.full hs hb hg v hv)
  | some x =>
    obtain ⟨u, y, g, h1, h2, h3, h4, h5⟩ := I.tree v x e hvb
    have hg3 := (hs u v g).mp h3
    obtain ⟨y', hy', hle⟩ := I.clo hg (u, v, g) h3 y h2
    have e' : st.far v = some y' := hy'
    rw [e] at e'
    cases e'
    have hle' : y + g ≤ x := hle
    obtain ⟨l1, l2, l3, _⟩ := gain_lt hr hg3
    refine ⟨u, g, h1, l1, hg3, ?_, ?_⟩
    · rw [h2]
      exact h4
    · have hv0 : T v ≠ 0 := I.tset v (by rw [e]; exact fun z => nomatch z) hvb
      have hne : T u ≠ T v := fun z => l3 (I.tinj u v z (by omega))
      have hnlt : ¬ T v < T u := fun z => by
        have := h5 z
        omega
      omega
theorem FInv.tree' (hr : ∀ r ∈ rs, RuleOk r) (hs : StepsOf rs ts ss) (hb : bg ≤ ts.length) (I : FInv ss ts.length bg P ss m0 st T now) (hg : st.go = false) : Tree rs ts (fun v => (st.far v).getD 0) st.came T := fun v u hc => by
  by_cases hvb : v = bg
  · subst hvb
    rw [I.beg.2.1] at hc
    cases hc
  · cases e : st.far v with
    | none =>
      rw [I.no v e] at hc
      cases hc
    | some x =>
      have hv := I.rng v (by rw [e]; exact fun z => nomatch z)
      obtain ⟨u', g, h1, h2, h3, h4, h5⟩ := I.back hr hs hb hg hv hvb
      rw [hc] at h1
      cases h1
      exact ⟨g, h3, h4, fun z => absurd z (by omega), by omega⟩
theorem FInv.far (hr : ∀ r ∈ rs, RuleOk r) (hs : StepsOf rs ts ss) (hb : bg ≤ ts.length) (I : FInv ss ts.length bg P ss m0 st T now) (hg : st.go = false) {en : Nat} (he : en ≤ ts.length) {m : Nat} (hm : upN st.came m en = some bg) :
    Far rs ts bg en ((st.far en).getD 0) (way st.came en m).reverse := by
  have hp := I.pot hr hs hb hg
  have t := I.tree' hr hs hb hg
  obtain ⟨s, hs1, hle, _⟩ := t.way en m bg hm
  have h0 : (st.far bg).getD 0 = 0 := by rw [I.beg.1]; rfl
  have hhead : (way st.came en m).reverse.head? = some bg := by rw [List.head?_reverse, way_last _ hm]
  have hlast : (way st.came en m).reverse.getLast? = some en := by rw [List.getLast?_reverse, way_head]
  have h2 := gains_pot hp _ bg en s hs1 hhead hlast
  have h2' : (st.far bg).getD 0 + s ≤ (st.far en).getD 0 := h2
  have hle' : (st.far en).getD 0 ≤ (st.far bg).getD 0 + s := hle
  have es : s = (st.far en).getD 0 := by omega
  refine ⟨⟨_, hp, h0, rfl⟩, by rw [hs1, es], hhead, hlast, fun e => ?_⟩
  subst e
  cases m with
  | zero => exact ⟨rfl, h0⟩
  | succ m =>
    have h1 := upN_add st.came 1 m bg
    have z : upN st.came 1 bg = none := by
      show (upN st.came 0 bg).bind st.came = none
      exact I.beg.2.1
    have nn : ∀ j, upN st.came (j + 1) bg = none := fun j => by
      induction j with
      | zero => exact z
      | succ j ih =>
        show (upN st.came (j + 1) bg).bind st.came = none
        rw [ih]
        rfl
    rw [nn m] at hm
    cases hm
end
/-- what the steps must be for the rounds of farthest -/
theorem steps_lim {rs : List Rule} {ts : List (Option Int)} {ss : List Edge} (hr : ∀ r ∈ rs, RuleOk r) (hs : StepsOf rs ts ss) : ∀ e ∈ ss, e.1 ≤ ts.length ∧ e.2.1 ≤ ts.length ∧ e.1 ≠ e.2.1 ∧ -8 ≤ e.2.2 := fun e he => by
  obtain ⟨a, b, g⟩ := e
  exact gain_lt hr ((hs a b g).mp he)
end K5
end
section
set_option linter.all false
namespace K5
/-! ### rows, last places, layers -/
def Bit (x : Int) : Prop := x = 0 ∨ x = 1
/-- the last places that count -/
def tl (w : Nat) (row : List Int) : List Int := row.drop (row.length + 1 - w)
def nextTail (w : Nat) (tail : List Int) (p : Int) : List Int := (tail ++ [p]).drop ((tail ++ [p]).length + 1 - w)
/-- does the rule r break behind these last places, with p -/
def brk1 (r : Rule) (tail : List Int) (p : Int) : Bool :=
  decide (r.1 ≤ tail.length + 1) && !(decide ((r.2.1 : Int) ≤ (tail.drop (tail.length + 1 - r.1)).sum + p) && decide ((tail.drop (tail.length + 1 - r.1)).sum + p ≤ (r.2.2 : Int)))
def brk (rs : List Rule) (tail : List Int) (p : Int) : Bool := rs.any fun r => brk1 r tail p
def Tells (o : Option Int) (p : Int) : Prop := o = none ∨ o = some p
def OkAt (rs : List Rule) (ts : List (Option Int)) (row : List Int) (k : Nat) (p : Int) : Prop :=
  Bit p ∧ (∃ o, ts[k]? = some o ∧ Tells o p) ∧ brk rs (tl (wide rs) (row.take k)) p = false
def ReachAt (rs : List Rule) (ts : List (Option Int)) (i : Nat) (row : List Int) : Prop := row.length = i ∧ ∀ k p, row[k]? = some p → OkAt rs ts row k p
/-- the last places that come behind i places -/
def Tails (rs : List Rule) (ts : List (Option Int)) (i : Nat) (t : List Int) : Prop := ∃ row, ReachAt rs ts i row ∧ tl (wide rs) row = t

theorem wide_ge {rs : List Rule} (hr : RulesOk rs) : ∀ r ∈ rs, r.1 ≤ wide rs := fun r hm => by
  obtain ⟨init, z, e⟩ : ∃ init z, rs = init ++ [z] := by
    refine ⟨rs.dropLast, rs.getLast hr.ne, (List.dropLast_concat_getLast hr.ne).symm⟩
  have hw : wide rs = z.1 := by
    unfold wide
    rw [e, List.getLast?_concat]
    rfl
  rw [hw]
  have up := hr.up
  rw [e, List.pairwise_append] at up
  rw [e] at hm
  rcases List.mem_append.mp hm with h | h
  · exact Nat.le_of_lt (up.2.2 r h z (List.mem_singleton.mpr rfl))
  · rw [List.mem_singleton.mp h]
    exact Nat.le_refl _
theorem wide_in {rs : List Rule} (hr : RulesOk rs) : ∃ r ∈ rs, r.1 = wide rs := by
  refine ⟨rs.getLast hr.ne, List.getLast_mem hr.ne, ?_⟩
  unfold wide
  rw [List.getLast?_eq_getLast hr.ne]
  rfl
theorem wide_lim {rs : List Rule} (hr : RulesOk rs) : 1 ≤ wide rs ∧ wide rs ≤ 8 := by
  obtain ⟨r, hm, e⟩ := wide_in hr
  have := hr.each r hm
  unfold RuleOk at this
  omega
theorem tl_next {w : Nat} (hw : 1 ≤ w) (row : List Int) (p : Int) : nextTail w (tl w row) p = tl w (row ++ [p]) := by
  have e1 : tl w row ++ [p] = (row ++ [p]).drop (row.length + 1 - w) := by
    unfold tl
    rw [List.drop_append_of_le_length (by omega)]
  unfold nextTail
  rw [e1, List.drop_drop]
  unfold tl
  congr 1
  rw [List.length_drop, List.length_append, List.length_singleton]
  omega
theorem tl_length (w : Nat) (hw : 1 ≤ w) (row : List Int) : (tl w row).length = min row.length (w - 1) := by
  unfold tl
  rw [List.length_drop]
  omega
/-- the sum of the first k places -/
def pre (row : List Int) (k : Nat) : Int := (row.take k).sum
theorem sum_drop (l : List Int) (j : Nat) : (l.drop j).sum = l.sum - (l.take j).sum := by
  have h := congrArg List.sum (List.take_append_drop j l)
  rw [List.sum_append] at h
  omega
theorem pre_succ {row : List Int} {k : Nat} {p : Int} (h : row[k]? = some p) : pre row (k + 1) = pre row k + p := by
  unfold pre
  rw [List.take_add_one, h, List.sum_append]
  simp
/-- a rule at place k, by the sums -/
theorem brk1_pre {r : Rule} {w : Nat} (hr : 1 ≤ r.1) (hw : r.1 ≤ w) {row : List Int} {k : Nat} {p : Int} (h : row[k]? = some p) :
    brk1 r (tl w (row.take k)) p = (decide (r.1 ≤ k + 1) && !(decide ((r.2.1 : Int) ≤ pre row (k + 1) - pre row (k + 1 - r.1)) && decide (pre row (k + 1) - pre row (k + 1 - r.1) ≤ (r.2.2 : Int)))) := by
  have hk : k < row.length := (List.getElem?_eq_some_iff.mp h).1
  have hlk : (row.take k).length = k := by
    rw [List.length_take]
    omega
  have hl := tl_length w (by omega) (row.take k)
  rw [hlk] at hl
  by_cases hs : r.1 ≤ k + 1
  · have h1 : decide (r.1 ≤ (tl w (row.take k)).length + 1) = true := decide_eq_true (by omega)
    have h2 : decide (r.1 ≤ k + 1) = true := decide_eq_true hs
    have hsum : ((tl w (row.take k)).drop ((tl w (row.take k)).length + 1 - r.1)).sum + p = pre row (k + 1) - pre row (k + 1 - r.1) := by
      rw [hl]
      unfold tl
      rw [hlk, List.drop_drop, sum_drop, List.take_take, pre_succ h]
      have e : min (k + 1 - w + (min k (w - 1) + 1 - r.1)) k = k + 1 - r.1 := by omega
      rw [e]
      show pre row k - pre row (k + 1 - r.1) + p = pre row k + p - pre row (k + 1 - r.1)
      omega
    unfold brk1
    rw [h1, h2, hsum]
  · have h1 : decide (r.1 ≤ (tl w (row.take k)).length + 1) = false := decide_eq_false (by omega)
    have h2 : decide (r.1 ≤ k + 1) = false := decide_eq_false hs
    unfold brk1
    rw [h1, h2]
    rfl
/-- a row that does is a filling's sums -/
theorem reach_pot {rs : List Rule} {ts : List (Option Int)} (hr : RulesOk rs) {row : List Int} (R : ReachAt rs ts ts.length row) : Pot rs ts (pre row) := by
  obtain ⟨hl, hk⟩ := R
  have at_ : ∀ k, k < ts.length → ∃ p, row[k]? = some p ∧ OkAt rs ts row k p := fun k h => by
    have hlt : k < row.length := by omega
    exact ⟨row[k], List.getElem?_eq_getElem hlt, hk k _ (List.getElem?_eq_getElem hlt)⟩
  intro a b g hg
  rcases gain_cand hg with e | ⟨r, hm, e⟩
  · unfold base at e
    split at e
    · rename_i h
      obtain ⟨p, hp, hb, ⟨o, ho, ht⟩, _⟩ := at_ a h.2
      have := pre_succ hp
      cases e
      rw [h.1, this]
      split
      · rename_i q
        rw [ho] at q
        cases q
        rcases ht with z | z
        · cases z
        · cases z
          omega
      · rcases hb with z | z <;> omega
    · split at e
      · rename_i h
        obtain ⟨p, hp, hb, ⟨o, ho, ht⟩, _⟩ := at_ b h.2
        have := pre_succ hp
        cases e
        rw [h.1, this]
        split
        · rename_i q
          rw [ho] at q
          cases q
          rcases ht with z | z
          · cases z
          · cases z
            omega
        · rcases hb with z | z <;> omega
      · cases e
  · have ro := hr.each r hm
    have rw' := wide_ge hr r hm
    -- the window that ends behind place k
    have win : ∀ k, k < ts.length → r.1 ≤ k + 1 → (r.2.1 : Int) ≤ pre row (k + 1) - pre row (k + 1 - r.1) ∧ pre row (k + 1) - pre row (k + 1 - r.1) ≤ (r.2.2 : Int) := fun k hkl hs => by
      obtain ⟨p, hp, _, _, hb⟩ := at_ k hkl
      have h1 : brk1 r (tl (wide rs) (row.take k)) p = false := by
        cases q : brk1 r (tl (wide rs) (row.take k)) p with
        | false => rfl
        | true =>
          have : brk rs (tl (wide rs) (row.take k)) p = true := List.any_eq_true.mpr ⟨r, hm, q⟩
          rw [hb] at this
          cases this
      rw [brk1_pre ro.1 rw' hp, decide_eq_true hs, Bool.true_and, Bool.not_eq_false', Bool.and_eq_true] at h1
      exact ⟨of_decide_eq_true h1.1, of_decide_eq_true h1.2⟩
    unfold RuleOk at ro
    unfold rstep at e
    split at e
    · rename_i h
      cases e
      have := win (b - 1) (by omega) (by omega)
      rw [show b - 1 + 1 = b by omega, show b - r.1 = a by omega] at this
      omega
    · split at e
      · rename_i h
        cases e
        have := win (a - 1) (by omega) (by omega)
        rw [show a - 1 + 1 = a by omega, show a - r.1 = b by omega] at this
        omega
      · cases e
/-- the row of a potential -/
def rowOf (F : Nat → Int) (n : Nat) : List Int := (List.range n).map fun k => F (k + 1) - F k
theorem pre_rowOf (F : Nat → Int) (n : Nat) : ∀ k, k ≤ n → pre (rowOf F n) k = F k - F 0
  | 0, _ => by
    show (0 : Int) = F 0 - F 0
    omega
  | k + 1, h => by
    have e : (rowOf F n)[k]? = some (F (k + 1) - F k) := by
      unfold rowOf
      rw [List.getElem?_map, List.getElem?_range (by omega)]
      rfl
    rw [pre_succ e, pre_rowOf F n k (by omega)]
    omega
theorem pot_reach {rs : List Rule} {ts : List (Option Int)} (hr : RulesOk rs) (ht : ToldOk ts) {F : Nat → Int} (hF : Pot rs ts F) : ReachAt rs ts ts.length (rowOf F ts.length) := by
  have hl : (rowOf F ts.length).length = ts.length := by
    unfold rowOf
    rw [List.length_map, List.length_range]
  refine ⟨hl, fun k p hp => ?_⟩
  have hk : k < ts.length := by
    have := (List.getElem?_eq_some_iff.mp hp).1
    omega
  have ep : p = F (k + 1) - F k := by
    unfold rowOf at hp
    rw [List.getElem?_map, List.getElem?_range hk] at hp
    exact (Option.some.inj hp).symm
  obtain ⟨h1, h2⟩ := pot_near hF hk
  refine ⟨?_, ⟨ts[k], List.getElem?_eq_getElem hk, ?_⟩, ?_⟩
  · unfold Bit
    omega
  · rcases ht.each ts[k] (List.getElem_mem hk) with z | z | z
    · exact .inl z
    · refine .inr ?_
      rw [z]
      congr 1
      have c : Cand rs ts (k + 1) k 0 := .inl (by unfold base; rw [if_neg (by omega), if_pos ⟨rfl, hk⟩, List.getElem?_eq_getElem hk, z, if_pos rfl])
      obtain ⟨g, hg, hle⟩ := cand_gain c
      have := hF _ _ _ hg
      omega
    · refine .inr ?_
      rw [z]
      congr 1
      have c : Cand rs ts k (k + 1) 1 := .inl (by unfold base; rw [if_pos ⟨rfl, hk⟩, List.getElem?_eq_getElem hk, z, if_pos rfl])
      obtain ⟨g, hg, hle⟩ := cand_gain c
      have := hF _ _ _ hg
      omega
  · cases q : brk rs (tl (wide rs) ((rowOf F ts.length).take k)) p with
    | false => rfl
    | true =>
      obtain ⟨r, hm, hb⟩ := List.any_eq_true.mp q
      have ro := hr.each r hm
      rw [brk1_pre ro.1 (wide_ge hr r hm) hp, Bool.and_eq_true, decide_eq_true_eq, Bool.not_eq_true', Bool.and_eq_false_iff, decide_eq_false_iff_not, decide_eq_false_iff_not] at hb
      unfold RuleOk at ro
      rw [pre_rowOf F _ _ (by omega), pre_rowOf F _ _ (by omega)] at hb
      have c1 : Cand rs ts (k + 1 - r.1) (k + 1) r.2.1 := .inr ⟨r, hm, by unfold rstep; rw [if_pos (by omega)]⟩
      have c2 : Cand rs ts (k + 1) (k + 1 - r.1) (-(r.2.2 : Int)) := .inr ⟨r, hm, by unfold rstep; rw [if_neg (by omega), if_pos (by omega)]⟩
      obtain ⟨g1, hg1, hle1⟩ := cand_gain c1
      obtain ⟨g2, hg2, hle2⟩ := cand_gain c2
      have a1 := hF _ _ _ hg1
      have a2 := hF _ _ _ hg2
      omega
theorem fill_iff {rs : List Rule} {ts : List (Option Int)} (hr : RulesOk rs) (ht : ToldOk ts) : Fillable rs ts ↔ ∃ t, Tails rs ts ts.length t :=
  ⟨fun ⟨F, hF⟩ => ⟨_, _, pot_reach hr ht hF, rfl⟩, fun ⟨_, row, R, _⟩ => ⟨_, reach_pot hr R⟩⟩

/-! ### one layer behind another -/
theorem reach_snoc {rs : List Rule} {ts : List (Option Int)} {i : Nat} {row : List Int} {p : Int} : ReachAt rs ts (i + 1) (row ++ [p]) ↔ ReachAt rs ts i row ∧ OkAt rs ts row i p := by
  constructor
  · rintro ⟨hl, hk⟩
    rw [List.length_append, List.length_singleton] at hl
    have hl' : row.length = i := by omega
    refine ⟨⟨hl', fun k q hq => ?_⟩, ?_⟩
    · have hlt := (List.getElem?_eq_some_iff.mp hq).1
      have := hk k q (by rw [List.getElem?_append_left hlt]; exact hq)
      unfold OkAt at this ⊢
      rwa [List.take_append_of_le_length (by omega)] at this
    · have := hk i p (by rw [List.getElem?_append_right (by omega), hl', Nat.sub_self]; rfl)
      unfold OkAt at this ⊢
      rwa [List.take_append_of_le_length (by omega)] at this
  · rintro ⟨⟨hl, hk⟩, ho⟩
    refine ⟨by rw [List.length_append, List.length_singleton, hl], fun k q hq => ?_⟩
    by_cases h : k < row.length
    · rw [List.getElem?_append_left h] at hq
      have := hk k q hq
      unfold OkAt at this ⊢
      rwa [List.take_append_of_le_length (by omega)]
    · rw [List.getElem?_append_right (by omega)] at hq
      have hk0 : k - row.length = 0 := by
        have := (List.getElem?_eq_some_iff.mp hq).1
        rw [List.length_singleton] at this
        omega
      rw [hk0] at hq
      cases hq
      have ek : k = i := by omega
      subst ek
      unfold OkAt at ho ⊢
      rwa [List.take_append_of_le_length (by omega)]
theorem tails_zero {rs : List Rule} {ts : List (Option Int)} {t : List Int} : Tails rs ts 0 t ↔ t = [] := by
  constructor
  · rintro ⟨row, ⟨hl, _⟩, e⟩
    rw [List.length_eq_zero_iff] at hl
    subst hl
    rw [← e]
    unfold tl
    exact List.drop_nil
  · intro e
    subst e
    refine ⟨[], ⟨rfl, fun k p h => by simp at h⟩, ?_⟩
    unfold tl
    exact List.drop_nil
theorem tails_next {rs : List Rule} {ts : List (Option Int)} (hr : RulesOk rs) {i : Nat} {o : Option Int} (ho : ts[i]? = some o) {t' : List Int} :
    Tails rs ts (i + 1) t' ↔ ∃ t x, Tails rs ts i t ∧ Bit x ∧ Tells o x ∧ brk rs t x = false ∧ t' = nextTail (wide rs) t x := by
  have hw := (wide_lim hr).1
  constructor
  · rintro ⟨row', R, e⟩
    have hl := R.1
    have hne : row' ≠ [] := fun z => by
      rw [z] at hl
      cases hl
    obtain ⟨row, x, rfl⟩ : ∃ row x, row' = row ++ [x] := ⟨row'.dropLast, row'.getLast hne, (List.dropLast_concat_getLast hne).symm⟩
    obtain ⟨R0, hb, ⟨o', ho', hto⟩, hbr⟩ := reach_snoc.mp R
    rw [ho] at ho'
    cases ho'
    have etk : row.take i = row := List.take_of_length_le (by rw [R0.1]; exact Nat.le_refl _)
    rw [etk] at hbr
    exact ⟨tl (wide rs) row, x, ⟨row, R0, rfl⟩, hb, hto, hbr, by rw [tl_next hw]; exact e.symm⟩
  · rintro ⟨t, x, ⟨row, R, e⟩, hb, hto, hbr, rfl⟩
    have etk : row.take i = row := List.take_of_length_le (by rw [R.1]; exact Nat.le_refl _)
    refine ⟨row ++ [x], reach_snoc.mpr ⟨R, hb, ⟨o, ho, hto⟩, by rw [etk, e]; exact hbr⟩, ?_⟩
    rw [← tl_next hw, e]
/-- all lists of so many bits, and of no more -/
def bitsOf : Nat → List (List Int)
  | 0 => [[]]
  | m + 1 => (bitsOf m).flatMap fun t => [0 :: t, 1 :: t]
theorem bits_in : ∀ (t : List Int), (∀ x ∈ t, Bit x) → t ∈ bitsOf t.length
  | [], _ => List.mem_singleton.mpr rfl
  | x :: t, h => by
    have ih := bits_in t fun y hy => h y (List.mem_cons_of_mem _ hy)
    refine List.mem_flatMap.mpr ⟨t, ih, ?_⟩
    rcases h x List.mem_cons_self with e | e
    · rw [e]
      exact List.mem_cons_self
    · rw [e]
      exact List.mem_cons_of_mem _ (List.mem_singleton.mpr rfl)
def fewBits : List (List Int) := bitsOf 0 ++ bitsOf 1 ++ bitsOf 2 ++ bitsOf 3 ++ bitsOf 4 ++ bitsOf 5 ++ bitsOf 6 ++ bitsOf 7
theorem fewBits_length : fewBits.length = 255 := by decide +kernel
theorem few_in {t : List Int} (hl : t.length ≤ 7) (h : ∀ x ∈ t, Bit x) : t ∈ fewBits := by
  have z := bits_in t h
  unfold fewBits
  simp only [List.mem_append]
  rcases (by omega : t.length = 0 ∨ t.length = 1 ∨ t.length = 2 ∨ t.length = 3 ∨ t.length = 4 ∨ t.length = 5 ∨ t.length = 6 ∨ t.length = 7) with e | e | e | e | e | e | e | e <;> rw [e] at z <;> simp [z]
theorem tails_few {rs : List Rule} {ts : List (Option Int)} (hr : RulesOk rs) {i : Nat} {t : List Int} (h : Tails rs ts i t) : t ∈ fewBits ∧ (∀ x ∈ t, Bit x) ∧ t.length ≤ 7 := by
  obtain ⟨row, R, rfl⟩ := h
  obtain ⟨h1, h2⟩ := wide_lim hr
  have hl : (tl (wide rs) row).length ≤ 7 := by
    rw [tl_length _ h1]
    omega
  have hb : ∀ x ∈ tl (wide rs) row, Bit x := fun x hx => by
    obtain ⟨k, hk⟩ := List.mem_iff_getElem?.mp (List.mem_of_mem_drop hx)
    exact (R.2 k x hk).1
  exact ⟨few_in hl hb, hb, hl⟩
theorem few_le {l : List (List Int)} (hn : l.Nodup) (h : ∀ t ∈ l, t ∈ fewBits) : l.length ≤ 255 := by
  have := nodup_le l fewBits hn h
  rwa [fewBits_length] at this
end K5
end
section
set_option Elab.async false
set_option linter.all false
set_option maxRecDepth 100000
set_option maxHeartbeats 4000000
/-! Rules of our own, 1: a new list of a tracked one and the script (whatever holds it); enumerate over a tuple. -/
namespace K5
open PySem PySem.Spec PyProof.Rows L2
open PySem.AutoSeq1 (wpAny_loadPart')

theorem meets_add_any (l b : Addr) (xs ys : Array Value) (m k : Nat) (d1 d2 : Option Addr) (z1 z2 : Array (Option Value)) (hc : xs.size + ys.size ≤ sizeLine) :
    Meets (Builtin.«list.__add__» ⟨[.ref l, .ref b], []⟩) (fun _ R s => s.heap.get? l = some { cls := .type "list", dict := d1, data := .seq xs m, slots := z1 } ∧
      s.heap.get? b = some { cls := .type "list", dict := d2, data := .seq ys k, slots := z2 } ∧ R (.ok (.ret (Value.ref s.heap.objs.size))) { s with heap := s.heap.push { cls := Value.type "list", data := Data.seq (xs ++ ys) }, toks := s.toks }) :=
  .of_wp fun prog w A R s h => by
    obtain ⟨hp, g, d, tk, os⟩ := s
    obtain ⟨ha, hb, h⟩ := h
    have f1 := PySem.AutoSeq1.idx_int
    have f2 := PySem.AutoSeq1.sub_tuple_tuple
    have f3 := PySem.AutoSeq1.sub_list_list
    have f4 := PySem.AutoSeq1.sub_tuple_list
    have f5 := PySem.AutoSeq1.sub_list_tuple
    wp_walk using wpAny_loadPart' ha, wpAny_loadPart' hb
    exact ⟨_, rfl, h⟩
/-- l + b, two lists that may be read -/
def rCatS (K : PySem.W.Frag) : R2 := fun x y H Q => ∃ l b xs zs, x = .ref l ∧ y = .ref b ∧ SqL K H l xs ∧ SqL K H b zs ∧ xs.length + zs.length ≤ sizeLine ∧ ∀ p, H p = none → Q (.ref p) (upd H p (.lst (xs ++ zs)))
theorem op_catS {X : Cx} : OpR X (binaryOp .Add) (rCatS X.K) := by
  intro pins s σ H x y v u Q I rx ry h
  obtain ⟨l, b, xs, zs, rfl, rfl, hl, hb, hz, q⟩ := h
  cases rx
  cases ry
  obtain ⟨i1, r1, ⟨⟨c1, d1, t1, z1⟩, n1, e1, k1, _, s1⟩, _⟩ := I.list hl
  obtain ⟨i2, r2, ⟨⟨c2, d2, t2, z2⟩, n2, e2, k2, _, s2⟩, _⟩ := I.list hb
  simp only at k1 s1 k2 s2
  subst k1 s1 k2 s2
  have l1 := r1.length
  have l2 := r2.length
  have ea : i1.toArray ++ i2.toArray = (i1 ++ i2).toArray := by simp
  refine PySem.concat_meets ⟨_, e1, rfl⟩ ⟨_, e2, rfl⟩ PySem.noFill_list_add PySem.seq_list_add PySem.F.slot_list_add PySem.F.entry_list_add (PySem.F.args_list_add_2 _ _)
    (meets_add_any l b i1.toArray i2.toArray n1 n2 d1 d2 z1 z2 (by rw [List.size_toArray, List.size_toArray]; omega)) ⟨e1, e2, ?_⟩
  rw [ea]
  have new : ObjOk X.prog X.w (upd H s.heap.objs.size (.lst (xs ++ zs))) (s.heap.push { cls := .type "list", data := .seq (i1 ++ i2).toArray }) s.heap.objs.size (.lst (xs ++ zs)) :=
    ⟨by rw [List.length_append]; exact hz, i1 ++ i2, 0, r1.append r2, Heap.get?_push_size _ rfl⟩
  refine ⟨.ref s.heap.objs.size, upd H s.heap.objs.size (.lst (xs ++ zs)), ?_, rfl, q _ (I.hok.fresh (Nat.le_refl _))⟩
  exact I.laid (t' := s.toks) (fun b o e => Heap.get?_push_of_some _ e) (Nat.le_refl _) new

/-! ### enumerate over a tuple -/
set_option maxHeartbeats 8000000 in
theorem meets_enum_new1 {v : Value} {o : Obj} {F : Heap → Prop} (B : Begins v o F) :
    Meets (Builtin.«enumerate.__new__» ⟨[.type "enumerate", v], []⟩) (fun _ R s => F s.heap ∧
      R (.ok (.ret (.ref (s.heap.push o).objs.size))) { s with heap := (s.heap.push o).push { cls := .type "enumerate", data := .fields #[.none, .bool false, .ref s.heap.objs.size, rawInt 0, .none, .none] } }) :=
  .of_wp fun prog w A R s h => by
    obtain ⟨hp, g, d, tk, os⟩ := s
    obtain ⟨hF, h⟩ := h
    have hsub := PySem.sub_enumerate
    have it : ∀ {A' : Around} {E : Value → Shared → Prop} {Q : Value → Shared → Prop}, Q (.ref hp.objs.size) ⟨hp.push o, g, d, tk, os⟩ → wpAny (model prog w) A' (pyIter v) Q E ⟨hp, g, d, tk, os⟩ :=
      fun q => B.iter prog w _ _ ⟨hp, g, d, tk, os⟩ _ hF q
    wp_walk using it
    refine wpAny_stack_any fun st => wpAny_pure ?_
    split
    · rename_i c _ _ _ _ _
      cases (c == Value.type "enumerate")
      · wp_walk using it
        exact ⟨_, rfl, h⟩
      · wp_walk using it
        exact ⟨_, rfl, h⟩
    · wp_walk using it
      exact ⟨_, rfl, h⟩
theorem call_enum1 {prog : Program} {w : World} {A : Around} {E : Value → Shared → Prop} {s : Shared} {v : Value} {o : Obj} {F : Heap → Prop} {Q : Value → Shared → Prop} (B : Begins v o F) (hF : F s.heap)
    (h : ∀ h', IsEnum h' (s.heap.objs.size + 1) s.heap.objs.size 0 .none → h'.get? s.heap.objs.size = some o → (∀ b u, s.heap.get? b = some u → h'.get? b = some u) → Q (.ref (s.heap.objs.size + 1)) { s with heap := h' }) :
    wpAny (model prog w) A (call (.type "enumerate") [v]) Q E s := by
  have hz : (s.heap.push o).objs.size = s.heap.objs.size + 1 := Heap.size_push ..
  refine callType_new PySem.F.called_enumerate (by decide) (PySem.F.typeCall_enumerate_1 _) (PySem.F.newCall_enumerate_1 _) (fun obj => PySem.F.args_object_init_2 obj _) PySem.F.entry_enumerate_new (meets_enum_new1 B) ⟨hF, ?_⟩
  show _ ∧ _
  rw [hz]
  have he := Heap.get?_push_size (s.heap.push o) (o := { cls := .type "enumerate", data := .fields #[.none, .bool false, .ref s.heap.objs.size, rawInt 0, .none, .none] }) rfl
  rw [hz] at he
  exact ⟨⟨_, he, rfl⟩, h _ he (Heap.get?_push_of_some _ (Heap.get?_push_size _ B.free)) fun b u x => Heap.get?_push_of_some _ (Heap.get?_push_of_some _ x)⟩
/-- the tuple at a, each item in a new pair -/
def IteT (K : PySem.W.Frag) (a : Addr) : It :=
  ⟨fun i H => ∃ (xs : List V) (x : V), SqT K H a xs ∧ xs[i]? = some x, fun i H v H' => ∃ T x, v = .ref T ∧ H T = none ∧ H' = upd H T (.tup [.int (i : Nat), x]) ∧ ∀ xs, SqT K H a xs → xs[i]? = some x, fun i H => ∃ xs : List V, SqT K H a xs ∧ xs.length = i⟩
theorem turn_enumT {P : Program} {w : World} {K : PySem.W.Frag} {elts : List Expr} {kk : Nat} {tpos : Pos} (a e it : Addr) :
    Turn P w K (.Tuple elts kk tpos) (IteT K a) [e, it] e (fun i h => (∃ old, IsEnum h e it ((i : Nat) : Int) old) ∧ h.IsTupleIter it a i ∧ e ≠ it ∧ e ≠ a ∧ a ≠ it) where
  mem := List.mem_cons_self
  obj := fun i h st b hb => by
    obtain ⟨⟨old, he⟩, ⟨o, ho, _, hd⟩, _⟩ := st
    rcases List.mem_cons.mp hb with z | hb
    · exact ⟨_, by rw [z]; exact he, fun v q => Data.noConfusion q⟩
    · exact ⟨o, by rw [List.mem_singleton.mp hb]; exact ho, fun v q => by rw [hd] at q; cases q⟩
  keep := fun i h h' st k => by
    obtain ⟨⟨old, he⟩, hi, n1, n2⟩ := st
    exact ⟨⟨old, k e (by simp) _ he⟩, hi.at fun o q => k it (by simp) o q, n1, n2⟩
  item := by
    intro X hP hw hK hc i pins s σ H E I hf st hg
    subst hP hw hK
    obtain ⟨⟨old, he⟩, hit, n1, n2, n3⟩ := st
    obtain ⟨xs, x, hq, hx⟩ := hg
    obtain ⟨its, rv, p, _⟩ := I.tuple hq
    obtain ⟨u, hu, ru⟩ := rv.get hx
    have eu : its.toArray[i]? = some u := by simpa using hu
    have hi : i < its.toArray.size := (Array.getElem?_eq_some_iff.mp eu).1
    have hel : e < s.heap.objs.size := Heap.lt_size he
    have hil : it < s.heap.objs.size := by
      obtain ⟨_, q, _⟩ := hit
      exact Heap.lt_size q
    refine wpAny_pyNext_enum_itemC (Draws.tuple (A := X.A.in1) (I.ok.hd hc) it a n3 its.toArray) he ⟨hit, p⟩ hi n1 (by simp [n1, n2]) fun x1 h' tk hp ho st' hT _ hk => ?_
    have ex : x1 = u := Option.some.inj (hp.symm.trans eu)
    subst ex
    refine ⟨_, rfl, wpAny_letOwnedTupleGo_enum (s := { s with heap := h', toks := tk + 1 }) ho fun h2 he2 sb => ?_⟩
    have hT2 := (sb.2 _ (Nat.ne_of_gt hel)).trans hT
    have kept : ∀ b o, b ∉ [e, it] → s.heap.get? b = some o → h2.get? b = some o := fun b o hb q => by
      have nb : b ≠ e ∧ b ≠ it := by simpa using hb
      exact (sb.2 b nb.1).trans (hk b o nb.1 nb.2 q)
    have new : ObjOk X.prog X.w (upd H s.heap.objs.size (.tup [.int (i : Nat), x])) h2 s.heap.objs.size (.tup [.int (i : Nat), x]) :=
      ⟨by show 2 ≤ sizeLine; decide, [.int i tk, x1], .cons ⟨_, rfl⟩ (.cons ru .nil), ⟨_, hT2, rfl, _, rfl⟩⟩
    have I2 := I.turnedNew (t' := tk + 1) kept hf (Nat.le_refl _) new
    refine ⟨.ref s.heap.objs.size, _, I2, rfl, ⟨_, x, rfl, I.hok.fresh (Nat.le_refl _), rfl, fun ys hy => by rw [I.tuple_inj hy hq]; exact hx⟩, ⟨⟨x1, ?_⟩, ?_, n1, n2, n3⟩, fun b hb => ?_⟩
    · have e1 : ((i + 1 : Nat) : Int) = (i : Int) + 1 := by omega
      rw [e1]
      exact he2
    · exact st'.1.at fun o q => (sb.2 it (Ne.symm n1)).trans q
    · have hb' : b < s.heap.objs.size := by
        rcases List.mem_cons.mp hb with z | z
        · rw [z]; exact hel
        · rw [List.mem_singleton.mp z]; exact hil
      rw [upd_ne (Nat.ne_of_lt hb')]
      exact (hf b hb).1
  done := by
    intro X hP hw hK hc i pins s σ H E I hf st hg
    subst hP hw hK
    obtain ⟨⟨old, he⟩, hit, n1, n2, n3⟩ := st
    obtain ⟨xs, hq, hx⟩ := hg
    obtain ⟨its, rv, p, _⟩ := I.tuple hq
    obtain ⟨f0, f1, f2, f3, f4, f5⟩ := hf it (List.mem_cons_of_mem _ List.mem_cons_self)
    have hl := rv.length
    have hst : (fun i h => Heap.IsTupleIter h it a i ∧ Heap.IsTuple h a its.toArray) its.toArray.size s.heap := ⟨by rw [List.size_toArray, ← hl, hx]; exact hit, p⟩
    exact wpAny_pyNext_enum_endD (Draws.tuple (A := X.A.in1) (I.ok.hd hc) it a n3 its.toArray) he hst fun h' eb => ⟨rfl, I.turned (t' := s.toks) (fun b o hb q => eb b o hb q) f0 f1 f3 f4 f5⟩
  self := fun A i s Q E st h => by
    obtain ⟨⟨_, he⟩, _⟩ := st
    exact wpAny_pyIter_enum he h
def iEnumT (K : PySem.W.Frag) (ta : TA) : TI := fun σ H R => ta σ H fun vs H1 => ∃ a xs, vs = [.ref a] ∧ SqT K H1 a xs ∧ R (IteT K a) H1
theorem pi_enumT {X : Cx} {e : Expr} {ta : TA} {p pos tpos : Pos} {elts : List Expr} {kk : Nat} (hg : Gl X "enumerate") (hm : X.mg "enumerate" = none) (ha : PA X [e] ta) (hs : starEach [e] X.env = [(false, eval e X.env)] := by rfl) :
    PI X (.Tuple elts kk tpos) (.Call (.Name "enumerate" p) [e] [] pos) (iEnumT X.K ta) := by
  refine ⟨fun pins s σ H R I h => Call_ (ld_blt I hg hm boot_enumerate (PyProof.Rows.callWith_type1 (thn (ha.run pos pins s σ H _ I h) fun us s1 h1 => ?_) hs rfl))⟩
  obtain ⟨vs, H1, I1, r1, a, xs, ex, hq, q⟩ := h1
  subst ex
  cases r1 with
  | cons r rr =>
    cases rr
    cases r
    obtain ⟨its, rv, p', hz⟩ := I1.tuple hq
    refine call_enum1 (begins_tuple a its.toArray) p' fun h' he hit hk => wpAny_pyIter_enum he ?_
    have ha' : a < s1.heap.objs.size := p'.lt
    refine ⟨s1.heap.objs.size + 1, [s1.heap.objs.size + 1, s1.heap.objs.size], _, _, H1, rfl, I1.kept (t' := s1.toks) hk, turn_enumT a (s1.heap.objs.size + 1) s1.heap.objs.size,
      ⟨⟨.none, he⟩, ⟨_, hit, rfl, rfl⟩, Nat.succ_ne_self _, Nat.ne_of_gt (Nat.lt_succ_of_lt ha'), Nat.ne_of_lt ha'⟩, fun b hb => ?_, q⟩
    have hle : s1.heap.objs.size ≤ b := by
      rcases List.mem_cons.mp hb with z | z
      · rw [z]; exact Nat.le_succ _
      · rw [List.mem_singleton.mp z]; exact Nat.le_refl _
    exact I1.fpOk hle (I1.hok.fresh hle)
/-- the turns of enumerate over a tuple that stays -/
theorem for_enumT {K : PySem.W.Frag} {a : Addr} {xs : List V} {g : TG} {tb : TS} {D : Ends} {σ : L2.St} {H : Hp} (Pv : Nat → L2.St → Hp → Prop) (h0 : Pv 0 σ H) (hq : ∀ i σ H, i ≤ xs.length → Pv i σ H → SqT K H a xs)
    (hs : ∀ i x σ H, xs[i]? = some x → Pv i σ H → ∀ T, H T = none → g (.ref T) σ (upd H T (.tup [.int (i : Nat), x])) fun σ2 H2 => tb { D with nx := Pv (i + 1), ct := Pv (i + 1), bk := D.nx } σ2 H2) (hd : ∀ σ H, Pv xs.length σ H → D.nx σ H) :
    ∃ W : Nat → Nat → L2.St → Hp → Prop, (∃ m, W 0 m σ H) ∧ ∀ i m σ H, W i m σ H →
      ((IteT K a).stop i H ∧ D.nx σ H) ∨ ((IteT K a).go i H ∧ ∃ N : L2.St → Hp → Prop, (∀ σ' H', N σ' H' → ∃ m', m' < m ∧ W (i + 1) m' σ' H') ∧ ∀ x H', (IteT K a).yld i H x H' → g x σ H' fun σ2 H2 => tb { D with nx := N, ct := N, bk := D.nx } σ2 H2) := by
  refine ⟨fun i m σ H => m = xs.length - i ∧ i ≤ xs.length ∧ Pv i σ H, ⟨xs.length, rfl, Nat.zero_le _, h0⟩, fun i m σ H hW => ?_⟩
  obtain ⟨rfl, hi, p⟩ := hW
  have z := hq i σ H hi p
  by_cases hlt : i < xs.length
  · refine .inr ⟨⟨xs, xs[i], z, List.getElem?_eq_getElem hlt⟩, Pv (i + 1), fun σ' H' p' => ⟨xs.length - (i + 1), by omega, rfl, hlt, p'⟩, fun v H' y => ?_⟩
    obtain ⟨T, x, rfl, nT, rfl, hx⟩ := y
    exact hs i x σ H (hx xs z) p T nT
  · have e : i = xs.length := by omega
    exact .inl ⟨⟨xs, z, e.symm⟩, hd σ H (by rw [← e]; exact p)⟩
end K5
end
section
set_option Elab.async false
set_option linter.all false
set_option maxRecDepth 100000
set_option maxHeartbeats 4000000
/-! Rules of our own, 2: a dict with tuple keys: its items walked, its values' sum. -/
namespace K5
open PySem PySem.Spec PyProof.Rows L2
section
variable {X : Cx} {pins : List (Addr × Obj)} {σ : L2.St} {H : Hp} {s : Shared} {d : Addr} {o : Obj}
/-- the entries of a dict with tuple keys, that may be read -/
theorem dT_entries {kvs : List (List L2.Key × V)} (I : Inv X pins σ H s) (x : ObjOk X.prog X.w H s.heap d (.dT kvs)) :
    (d == sysModules) = false ∧ ∃ (es : Array DictEntry) (ep : Nat), s.heap.DictRaw d es ep ∧ es.size = kvs.length ∧
      ∀ (i : Nat) (k : List L2.Key) (v : V), kvs[i]? = some (k, v) → ∃ (hi : i < es.size) (q : Addr), es[i].key = .ref q ∧ H q = some (.tup (k.map kV)) ∧ RelV v es[i].val := by
  obtain ⟨_, hs, xs, pr, o', es, ep, ho, hx, hdt, he, _⟩ := x
  have l1 : es.size = xs.length := size_of_entries he
  have l2 : kvs.length = xs.length := Paired.length pr
  refine ⟨hs, es, ep, ⟨o', ho, hx, hdt⟩, by omega, fun i k v e => ?_⟩
  obtain ⟨b, hb, e1, e2, e3⟩ := paired_get pr e
  have hi : i < es.size := by
    have := (List.getElem?_eq_some_iff.mp hb).1
    omega
  have q := entry_at he i
  rw [hb, Array.getElem?_eq_getElem hi] at q
  have q' := Option.some.inj q
  exact ⟨hi, b.2.1, by rw [q']; rfl, e2, by rw [q']; exact e3⟩
end
/-- the items of the locked dict at d, each a new pair of the key's own tuple and the value -/
def ItiT (d : Addr) (o : Obj) (kvs : List (List L2.Key × V)) : It :=
  ⟨fun i H => H d = some (.frz o (.dT kvs)) ∧ i < kvs.length,
   fun i H x H' => ∃ T k v q, kvs[i]? = some (k, v) ∧ x = .ref T ∧ H T = none ∧ H q = some (.tup (k.map kV)) ∧ H' = upd H T (.tup [.ref q, v]),
   fun i H => H d = some (.frz o (.dT kvs)) ∧ kvs.length ≤ i⟩
theorem turn_itemsT {P : Program} {w : World} {K : PySem.W.Frag} {d : Addr} {o : Obj} {es : Array DictEntry} {ep : Nat} {kvs : List (List L2.Key × V)} {elts : List Expr} {kk : Nat} {tpos : Pos} (it : Addr) (hod : o.data = .dict es ep) (hsz : es.size = kvs.length) :
    Turn P w K (.Tuple elts kk tpos) (ItiT d o kvs) [it] it (fun i h => ∃ ok ov, IsItemIter h it d i es.size ep ok ov) where
  mem := List.mem_singleton.mpr rfl
  obj := fun i h st b hb => by
    obtain ⟨ok, ov, e⟩ := st
    rw [List.mem_singleton.mp hb]
    exact ⟨_, e, fun v z => Data.noConfusion z⟩
  keep := fun i h h' st k => by
    obtain ⟨ok, ov, e⟩ := st
    exact ⟨ok, ov, k it (List.mem_singleton.mpr rfl) _ e⟩
  item := by
    intro X hP hw hK hc i pins s σ H E I hf st hg
    subst hP hw hK
    obtain ⟨hd, hi⟩ := hg
    obtain ⟨ed, ox⟩ := I.hok d _ hd
    obtain ⟨hs, es', ep', hm, hsz', ent⟩ := dT_entries I ox
    obtain ⟨o2, ho2, hx2, hdt2⟩ := id hm
    rw [ed] at ho2
    cases ho2
    rw [hod] at hdt2
    cases hdt2
    obtain ⟨⟨k, v⟩, hkv⟩ : ∃ p, kvs[i]? = some p := ⟨kvs[i], List.getElem?_eq_getElem hi⟩
    obtain ⟨hie, q, hkey, hq, hval⟩ := ent i k v hkv
    obtain ⟨ok, ov, he⟩ := st
    have hlt : it < s.heap.objs.size := Heap.lt_size he
    refine wpAny_pyNext_items_item_raw he hm hie fun h1 ho hT _ hk => ⟨_, rfl, wpAny_letOwnedTupleGo_items (s := { s with heap := h1 }) ho fun h2 he2 sb => ?_⟩
    have hT2 := (sb.2 _ (Nat.ne_of_gt hlt)).trans hT
    have new : ObjOk X.prog X.w (upd H s.heap.objs.size (.tup [.ref q, v])) h2 s.heap.objs.size (.tup [.ref q, v]) :=
      ⟨by show 2 ≤ sizeLine; decide, [es[i].key, es[i].val], .cons hkey (.cons hval .nil), ⟨_, hT2, rfl, _, rfl⟩⟩
    have kept : ∀ b ob, b ∉ [it] → s.heap.get? b = some ob → h2.get? b = some ob := fun b ob hb e => by
      have nb : b ≠ it := fun z => hb (List.mem_singleton.mpr z)
      exact (sb.2 b nb).trans (hk b ob nb e)
    have I2 := I.turnedNew (t' := s.toks) kept hf (Nat.le_refl _) new
    refine ⟨.ref s.heap.objs.size, _, I2, rfl, ⟨_, k, v, q, hkv, rfl, I.hok.fresh (Nat.le_refl _), hq, rfl⟩, ⟨_, _, he2⟩, fun b hb => ?_⟩
    rw [List.mem_singleton.mp hb, upd_ne (Nat.ne_of_lt hlt)]
    exact (hf it (List.mem_singleton.mpr rfl)).1
  done := by
    intro X hP hw hK hc i pins s σ H E I hf st hg
    subst hP hw hK
    obtain ⟨hd, hi⟩ := hg
    obtain ⟨ed, ox⟩ := I.hok d _ hd
    obtain ⟨hs, es', ep', hm, hsz', ent⟩ := dT_entries I ox
    obtain ⟨o2, ho2, hx2, hdt2⟩ := id hm
    rw [ed] at ho2
    cases ho2
    rw [hod] at hdt2
    cases hdt2
    obtain ⟨f0, f1, f2, f3, f4, f5⟩ := hf it (List.mem_singleton.mpr rfl)
    obtain ⟨ok, ov, he⟩ := st
    exact wpAny_pyNext_items_end_raw (I.ok.hd hc) he hm (by omega) fun h' eb => ⟨rfl, I.turned (t' := s.toks) (fun b ob hb e => eb b ob hb e) f0 f1 f3 f4 f5⟩
  self := fun A i s Q E st h => by
    obtain ⟨_, _, e⟩ := st
    exact wpAny_pyIter_itemiter e h
def iItemsT (td : TE) : TI := fun σ H R => td σ H fun x H1 => ∃ d o kvs, x = .ref d ∧ H1 d = some (.frz o (.dT kvs)) ∧ R (ItiT d o kvs) H1
theorem pi_itemsT {X : Cx} {e : Expr} {td : TE} {apos cpos tpos : Pos} {elts : List Expr} {kk : Nat} (he : PE X e td) (hbase : attributeBase e "items" X.env (eval e X.env) = eval e X.env := by rfl) (hline : (apos.endLine == cpos.line) = true := by rfl) :
    PI X (.Tuple elts kk tpos) (.Call (.Attribute e "items" apos) [] [] cpos) (iItemsT td) := by
  refine ⟨fun pins s σ H R I h => ?_⟩
  refine wpAny_Call_method (T := "dict") (id := "dict.items") hbase rfl hline F.plainAttrs_dict F.slot_dict_items F.type_dict_items (thn (he.run pins s σ H _ I h) fun u s1 h1 => ?_)
  obtain ⟨x, H1, I1, rx, d, o, kvs, ex, hd, q⟩ := h1
  subst ex
  obtain rfl : u = Value.ref d := rx
  obtain ⟨ed, ox⟩ := I1.hok d _ hd
  obtain ⟨hs, es, ep, hm, hsz, ent⟩ := dT_entries I1 ox
  obtain ⟨o2, ho2, hx2, hdt2⟩ := id hm
  rw [ed] at ho2
  cases ho2
  refine ⟨hm.typeIs, fun b z => ?_, ?_⟩
  · cases z
    exact ⟨o, ed, hx2.2.1⟩
  have I2 : Inv X pins σ H1 { s1 with heap := s1.heap.push { cls := .type "dict_items", data := .fields #[.ref d] } } := I1.kept (t' := s1.toks) fun b ob z => Heap.get?_push_of_some _ z
  have hm2 : (s1.heap.push { cls := .type "dict_items", data := .fields #[.ref d] }).DictRaw d es ep := hm.at fun ob z => Heap.get?_push_of_some _ z
  have fin : wpAny (model X.prog X.w) X.A (pyIter (.ref s1.heap.objs.size)) (PIE X pins σ (.Tuple elts kk tpos) R) X.xe { s1 with heap := s1.heap.push { cls := .type "dict_items", data := .fields #[.ref d] } } :=
    wpAny_pyIter_items_raw (d := d) ⟨_, Heap.get?_push_size _ rfl, rfl, rfl⟩ hm2 (pi_one (tk := s1.toks) I2 _ (turn_itemsT _ hdt2 hsz) ⟨.none, .none, Heap.get?_push_size _ rfl⟩ q)
  show wpAny _ _ (callWith cpos (.builtin "dict.items") [.ref d] [] []) _ X.xe s1
  exact method_meetsIn F.slot_dict_items F.entry_dict_items rfl (PySem.evalArgs_none ⟨rfl, hm.typeIs, F.args_dict_items_1 _, _, meets_dict_items_raw d hs, ⟨es, ep, hm⟩, fin⟩)
/-- the turns over the items of a dict that is locked -/
theorem for_itemsT {d : Addr} {o : Obj} {kvs : List (List L2.Key × V)} {g : TG} {tb : TS} {D : Ends} {σ : L2.St} {H : Hp} (Pv : Nat → L2.St → Hp → Prop) (h0 : Pv 0 σ H) (hq : ∀ i σ H, i ≤ kvs.length → Pv i σ H → H d = some (.frz o (.dT kvs)))
    (hs : ∀ i k v σ H, kvs[i]? = some (k, v) → Pv i σ H → ∀ T q, H T = none → H q = some (.tup (k.map kV)) → g (.ref T) σ (upd H T (.tup [.ref q, v])) fun σ2 H2 => tb { D with nx := Pv (i + 1), ct := Pv (i + 1), bk := D.nx } σ2 H2) (hd : ∀ σ H, Pv kvs.length σ H → D.nx σ H) :
    ∃ W : Nat → Nat → L2.St → Hp → Prop, (∃ m, W 0 m σ H) ∧ ∀ i m σ H, W i m σ H →
      ((ItiT d o kvs).stop i H ∧ D.nx σ H) ∨ ((ItiT d o kvs).go i H ∧ ∃ N : L2.St → Hp → Prop, (∀ σ' H', N σ' H' → ∃ m', m' < m ∧ W (i + 1) m' σ' H') ∧ ∀ x H', (ItiT d o kvs).yld i H x H' → g x σ H' fun σ2 H2 => tb { D with nx := N, ct := N, bk := D.nx } σ2 H2) := by
  refine ⟨fun i m σ H => m = kvs.length - i ∧ i ≤ kvs.length ∧ Pv i σ H, ⟨kvs.length, rfl, Nat.zero_le _, h0⟩, fun i m σ H hW => ?_⟩
  obtain ⟨rfl, hi, p⟩ := hW
  have z := hq i σ H hi p
  by_cases hlt : i < kvs.length
  · refine .inr ⟨⟨z, hlt⟩, Pv (i + 1), fun σ' H' p' => ⟨kvs.length - (i + 1), by omega, rfl, hlt, p'⟩, fun x H' y => ?_⟩
    obtain ⟨T, k, v, q, hkv, rfl, nT, hq', rfl⟩ := y
    exact hs i k v σ H hkv p T q nT hq'
  · have e : i = kvs.length := by omega
    exact .inl ⟨⟨z, Nat.le_of_eq e.symm⟩, hd σ H (by rw [← e]; exact p)⟩
end K5
end
section
set_option Elab.async false
set_option linter.all false
set_option maxRecDepth 100000
set_option maxHeartbeats 4000000
/-! Rules of our own, 3: dicts with tuple keys: sum of the values, a display of one pair, a comprehension. -/
namespace K5
open PySem PySem.Spec PyProof.Rows L2
/-! ### sum(d.values()) -/
def tSumVals (td : TE) : TE := fun σ H Q => td σ H fun x H1 => ∃ (a : Addr) (kvs : List (List L2.Key × V)) (is : List Int), x = V.ref a ∧ H1 a = some (.dT kvs) ∧ kvs.map (·.2) = is.map V.int ∧ Q (.int is.sum) H1
theorem pe_sumVals {X : Cx} {o : Expr} {p pos apos mpos : Pos} {td : TE} (hc : X.calm = true) (hg : Gl X "sum") (hm : X.mg "sum" = none) (hd : PE X o td) (hbase : attributeBase o "values" X.env (eval o X.env) = eval o X.env := by rfl) (hline : (apos.endLine == mpos.line) = true := by rfl)
    (hse : starEach [Expr.Call (.Attribute o "values" apos) [] [] mpos] X.env = [(false, eval (Expr.Call (.Attribute o "values" apos) [] [] mpos) X.env)] := by rfl) :
    PE X (.Call (.Name "sum" p) [.Call (.Attribute o "values" apos) [] [] mpos] [] pos) (tSumVals td) := by
  refine ⟨fun pins s σ H Q I h => wpAny_Call_Name_kw (ld_blt I hg hm (u := .builtin "sum") (by first | rfl | decide +kernel) ?_ (by first | decide +kernel | decide) (by first | decide +kernel | decide))⟩
  rw [hse]
  refine PySem.callWith_builtin1 (wpAny_Call_method0_late hbase hline (thn (hd.run pins s σ H _ I h) fun v s1 h1 => ?_))
  obtain ⟨x, H1, I1, r1, a, kvs, is, ex, ha, hv, q⟩ := h1
  subst ex
  obtain rfl : v = Value.ref a := r1
  obtain ⟨hsys, es, ep, hraw, hsz, ent⟩ := dT_entries I1 (I1.hok a _ ha)
  obtain ⟨ob, ho, hx, hdt⟩ := id hraw
  refine ⟨"dict", "dict.values", F.plainAttrs_dict, F.slot_dict_values, F.type_dict_values, ⟨ob, ho, hx.1⟩, fun b e => ?_, Calls.callWith_builtin rfl (PySem.evalArgs_none ?_)⟩
  · cases e
    exact ⟨ob, ho, hx.2.1⟩
  refine call_meetsIn F.slot_dict_values ⟨ob, ho, hx.1⟩ F.entry_dict_values (F.args_dict_values_1 _) (meets_dict_values_raw a hsys) ⟨⟨es, ep, hraw⟩, ?_⟩
  have k1 : ∀ b u, s1.heap.get? b = some u → (s1.heap.push { cls := .type "dict_values", data := .fields #[.ref a] }).get? b = some u := fun b u e => Heap.get?_push_of_some _ e
  have raw1 : (s1.heap.push { cls := .type "dict_values", data := .fields #[.ref a] }).DictRaw a es ep := hraw.at fun u e => k1 a u e
  have hlen : es.size = is.length := by
    have e1 := congrArg List.length hv
    rw [List.length_map, List.length_map] at e1
    omega
  have hval : ∀ (i : Nat) (v : Value), (∃ hi : i < es.size, v = es[i].val) → ∃ t, v = Value.int (is.getD i 0) t := fun i v hvv => by
    obtain ⟨hi, rfl⟩ := hvv
    have hik : i < kvs.length := by omega
    obtain ⟨hi', qa, _, _, rv⟩ := ent i kvs[i].1 kvs[i].2 (List.getElem?_eq_getElem hik)
    have e1 : (kvs.map (·.2))[i]? = some kvs[i].2 := by rw [List.getElem?_map, List.getElem?_eq_getElem hik]; rfl
    rw [hv, List.getElem?_map] at e1
    obtain ⟨j, hj, e2⟩ := Option.map_eq_some_iff.mp e1
    rw [← e2] at rv
    obtain ⟨t, e3⟩ := rv
    refine ⟨t, ?_⟩
    rw [e3, List.getD_eq_getElem?_getD, hj]
    rfl
  have hlt : a < s1.heap.objs.size := Heap.lt_size ho
  have hsz1 : (s1.heap.push { cls := .type "dict_values", data := .fields #[.ref a] }).objs.size = s1.heap.objs.size + 1 := Heap.size_push _ _
  refine call_sum_walkG (wpAny_pyIter_values_raw (v := s1.heap.objs.size) (d := a) ⟨_, Heap.get?_push_size _ rfl, rfl, rfl⟩ raw1 ?_)
  refine ⟨_, _, _, _, _, _, fun i => is.getD i 0, rfl, Walks.rawValues (A := X.A.in1) (I.ok.hd hc) (s1.heap.push { cls := .type "dict_values", data := .fields #[.ref a] }).objs.size a (by rw [hsz1]; exact Nat.ne_of_lt (Nat.lt_succ_of_lt hlt)) es ep,
    ⟨⟨_, Heap.get?_push_size _ rfl, rfl, rfl⟩, raw1.at fun u e => Heap.get?_push_of_some _ e⟩, fun b hb => ?_, hval, fun h' tk t' hk => ?_⟩
  · rw [Heap.size_push]
    rcases List.mem_cons.mp hb with z | z
    · rw [z]; exact Nat.lt_succ_self _
    · rw [List.mem_singleton.mp z, hsz1]
      exact Nat.lt_succ_of_lt (Nat.lt_succ_of_lt hlt)
  · rw [preSum_getD, hlen, List.take_of_length_le (Nat.le_refl _)]
    refine ⟨.int is.sum, H1, I1.kept (t' := tk) fun b u e => ?_, ⟨_, rfl⟩, q⟩
    have hb := Heap.lt_size e
    refine hk b u (fun z => ?_) (Heap.get?_push_of_some _ (k1 b u e))
    rw [List.mem_singleton.mp z, hsz1] at hb
    exact absurd hb (Nat.not_lt.mpr (Nat.le_succ _))

/-! ### {k: v} of one pair, k a tuple -/
theorem dt_obj {P : Program} {w : World} {H : Hp} {h : Heap} {d : Addr} {kvs : List (List L2.Key × V)} {xs : List (List L2.Key × Addr × Value)} (hz : kvs.length ≤ sizeLine) (hs : (d == sysModules) = false) (r : KT H kvs xs) (dd : h.DictOfH (tupleKind (mixKind P w)) d xs) :
    ObjOk P w H h d (.dT kvs) := by
  obtain ⟨o, es, ep, h1, h2, h3, h4, _, h5⟩ := dd
  exact ⟨hz, hs, xs, r, o, es, ep, h1, h2, h3, h4, h5⟩
def tDisp1 (tk tv : TE) : TE := fun σ H Q => ∀ p, H p = none → tk σ (upd H p (.dT [])) fun x H1 => tv σ H1 fun y H2 => ∃ (b : Addr) (k : List L2.Key), x = .ref b ∧ H2 b = some (.tup (k.map kV)) ∧ H2 p = some (.dT []) ∧ Q (.ref p) (upd H2 p (.dT [(k, y)]))
theorem pe_disp1 {X : Cx} {pos : Pos} {k v : Expr} {tk tv : TE} (hu : X.A.units + 1 < cLine) (hk : PE X k tk) (hv : PE X v tv) : PE X (.Dict [some k] [v] pos) (tDisp1 tk tv) := by
  refine ⟨fun pins s σ H Q I h => ?_⟩
  have hn := I.hok.fresh (Nat.le_refl s.heap.objs.size)
  have I1 := I.laid (a := s.heap.objs.size) (o := .dT []) (h' := s.heap.push { cls := .type "dict", data := .dict #[] }) (t' := s.toks) (fun _ _ z => Heap.get?_push_of_some _ z) (Nat.le_refl _) (dt_empty s.heap I.big)
  have hsh := zip_pairTrees [some k] [v] X.env pos rfl rfl
  rw [arm_eval_Dict, hsh, dictDisplay_pairs (pairTrees [some k] [v] X.env pos) (by intro z; exact absurd (congrArg List.length z) (by rw [pairTrees_length [some k] [v] X.env pos rfl rfl]; exact Nat.succ_ne_zero 0)) (by rw [pairTrees_length [some k] [v] X.env pos rfl rfl]; show 1 < 17; decide)]
  refine wpAny_bind (wpAny_standAt (wpAny_bind (wpAny_subDictH (knd := tupleKind (mixKind X.prog X.w)) (show X.A.units < cLine by omega) (by rw [pairTrees_length [some k] [v] X.env pos rfl rfl]; show 1 ≤ 15; decide) ?_)))
  refine pairTrees_cons_walk (thn (hk.run pins _ σ _ _ I1 (h _ hn)) fun u s2 h2 => ?_)
  obtain ⟨x, H1, I2, rx, q1⟩ := h2
  refine thn (hv.run pins s2 σ H1 _ I2 q1) fun w2 s3 h3 => pairTrees_nil_walk ?_
  obtain ⟨y, H2, I3, ry, b, ks, ex, hb, hp, q⟩ := h3
  subst ex
  obtain rfl : u = Value.ref b := rx
  obtain ⟨_, hs, xs0, r0, dd⟩ := dt_of I3.hok hp
  cases r0
  refine ⟨[(ks, b, w2)], ⟨rfl, rfl, key_of I3.hok hb, trivial⟩, dd, fun h' tk dd' sb => wpAny_pure ⟨.ref s.heap.objs.size, _, ?_, rfl, q⟩⟩
  have hbp : b ≠ s.heap.objs.size := ne_of hb hp (fun z => nomatch z)
  have dd2 : h'.DictOfH (tupleKind (mixKind X.prog X.w)) s.heap.objs.size [(ks, b, w2)] := dd'
  obtain ⟨o, es, ep, e1, _⟩ := id dd2
  refine d_write (t' := tk) I3 (by rw [hp]; exact True.intro) sb ⟨o, e1⟩ (dt_obj (by show 1 ≤ sizeLine; decide) hs (.cons ⟨rfl, ?_, ry⟩ .nil) dd2)
  rw [upd_ne hbp]
  exact hb
end K5
end
section
set_option Elab.async false
set_option linter.all false
set_option maxRecDepth 100000
set_option maxHeartbeats 4000000
/-! Rules of our own, 4: a dict comprehension whose keys are tuples. -/
namespace K5
open PySem PySem.Spec PyProof.Rows L2
/-- the comprehension's store of one pair, the key a tracked tuple -/
theorem store_pairT {X : Cx} {pins : List (Addr × Obj)} {σ : L2.St} {H : Hp} {s : Shared} {E : Value → Shared → Prop} {D b : Addr} {kvs : List (List L2.Key × V)} {k : List L2.Key} {v : V} {r : Value} {Q : Unit → Shared → Prop} (hu : X.A.units + 1 < cLine) (I : Inv X pins σ H s)
    (hD : H D = some (.dT kvs)) (hb : H b = some (.tup (k.map kV))) (hz : kvs.length < sizeLine) (rv : RelV v r) (h : ∀ s', Inv X pins σ (upd H D (.dT (putK kvs k v))) s' → Q () s') : wpAny (model X.prog X.w) X.A (dictSet D (.ref b) r) Q E s := by
  obtain ⟨z, hs, xs, rel, dd⟩ := dt_of I.hok hD
  have hl := length_putK kvs k v
  refine wpAny_dictSet_heap (hsz := by rw [← Paired.length rel]; exact z) (show X.A.units < cLine by omega) (key_of I.hok hb) dd fun h' dd' sb => h _ ?_
  obtain ⟨o, es, ep, e1, _⟩ := id dd'
  refine d_write I (by rw [hD]; exact True.intro) sb ⟨o, e1⟩ (dt_obj (by omega) hs ((rel.put k hb rv).keeps fun c ys ec => ?_) dd')
  rw [upd_ne (ne_of ec hD (fun q => nomatch q))]
  exact ec
section
variable {X : Cx}
def tDcT (wi : TI) (g : TG) (tt : TT) (tk tv : TE) (vs : List Nat) : TE := fun σ H Q => wi σ H fun J H1 => ∀ D, H1 D = none → ∃ W : Nat → Nat → Hp → Prop, (∃ m, W 0 m (upd H1 D (.dT []))) ∧ ∀ i m H, W i m H →
  (J.stop i H ∧ Q (.ref D) H) ∨ (J.go i H ∧ ∃ Nx : Hp → Prop, (∀ H', Nx H' → ∃ m', m' < m ∧ W (i + 1) m' H') ∧ ∀ x H', J.yld i H x H' → g x (wipe σ vs) H' fun σ2 H2 => wipe σ2 vs = wipe σ vs ∧ tt σ2 H2 fun b H3 =>
    if b = true then tk σ2 H3 fun y H4 => tv σ2 H4 fun z H5 => ∃ (kvs : List (List L2.Key × V)) (k : List L2.Key) (q : Addr), y = .ref q ∧ H5 q = some (.tup (k.map kV)) ∧ H5 D = some (.dT kvs) ∧ kvs.length < sizeLine ∧ Nx (upd H5 D (.dT (putK kvs k z))) else Nx H3)
theorem pe_dcT {kx vx tg iter : Expr} {ifs : List Expr} {scope : Scope} {own : List (Str × Nat)} {pos : Pos} {wi : TI} {g : TG} {tt : TT} {tk tv : TE} (hu : X.A.units + 1 < cLine) (hc : X.calm = true) (hN : X.N.Nodup) (hi : PI X tg iter wi) (ok : BlkOk X.N X.env.scope scope own)
    (hg : ∀ (s : Shared) (H : Hp) (C : Addr) (cl : List (Str × Addr)) (fp : List Addr), PG (X.blk s H scope (compEnvC scope cl C X.env) fp) tg g)
    (ht : ∀ (s : Shared) (H : Hp) (C : Addr) (cl : List (Str × Addr)) (fp : List Addr), PTs (X.blk s H scope (compEnvC scope cl C X.env) fp) ifs tt)
    (hk : ∀ (s : Shared) (H : Hp) (C : Addr) (cl : List (Str × Addr)) (fp : List Addr), PE (X.blk s H scope (compEnvC scope cl C X.env) fp) kx tk)
    (he : ∀ (s : Shared) (H : Hp) (C : Addr) (cl : List (Str × Addr)) (fp : List Addr), PE (X.blk s H scope (compEnvC scope cl C X.env) fp) vx tv) (hs : ∀ x, foldedSetIterable iter X.env x = pure x := by intro _; rfl) :
    PE X (.DictComp kx vx [⟨tg, iter, ifs, 0⟩] scope pos) (tDcT wi g tt tk tv (own.map (·.2))) := by
  refine ⟨fun pins s σ H Q I h => ?_⟩
  rw [arm_eval_DictComp]
  have free : ∀ y ∈ scope.names, y.2 = .free → ∃ c, X.env.cells.lookup y.1 = some c := fun y hy e =>
    (ok.free y hy e).elim (fun k => I.ok.has _ (.inl k)) fun k => I.ok.has _ (.inr k)
  refine wpAny_comprehension_free (use := none) rfl hs (closure_ok free) ok.kind (fun y hy e => by rw [ok.uniq y hy, e]) (thn (hi.run pins s σ H _ I h) fun xv s1 hx => thn hx fun itv s2 h2 => ?_)
  obtain ⟨it, fp, tn, J, H2, e, I2, T, st2, f2, q⟩ := h2
  subst e
  refine wpAny_newObj_type (newEnv_comp ?_)
  generalize hD : s2.heap.objs.size = D
  have nD : H2 D = none := I2.hok.fresh (Nat.le_of_eq hD)
  obtain ⟨W, ⟨m0, w0⟩, turn⟩ := q D nD
  generalize hs3 : ({ s2 with heap := s2.heap.push { cls := .type "dict", data := .dict #[] } } : Shared) = s3
  generalize hH3 : upd H2 D (.dT []) = H3 at w0
  have h3 : s3.heap = s2.heap.push { cls := .type "dict", data := .dict #[] } := by rw [← hs3]
  have I3 : Inv X pins σ H3 s3 := by
    rw [← hs3, ← hH3]
    refine I2.laid (t' := s2.toks) (fun b o z => Heap.get?_push_of_some _ z) (Nat.le_of_eq hD) ?_
    rw [← hD]
    exact dt_empty s2.heap I2.big
  have f3 : ∀ b ∈ fp, FpOk X pins H3 b ∧ b < s3.heap.objs.size := fun b hb => by
    obtain ⟨o, eo, _⟩ := T.obj _ _ st2 b hb
    have lt := Heap.lt_size eo
    refine ⟨⟨?_, (f2 b hb).2⟩, by rw [h3, Heap.size_push]; exact Nat.lt_succ_of_lt lt⟩
    rw [← hH3, upd_ne (by rw [← hD]; exact Nat.ne_of_lt lt)]
    exact (f2 b hb).1
  have I4 := block_start I3 ok hN f3
  have pg := hg s3 H3 s3.heap.objs.size (cellsFrom (s3.heap.objs.size + 1) scope.names (cloFrom X.env.cells scope.names [])) fp
  have pt := ht s3 H3 s3.heap.objs.size (cellsFrom (s3.heap.objs.size + 1) scope.names (cloFrom X.env.cells scope.names [])) fp
  have pk := hk s3 H3 s3.heap.objs.size (cellsFrom (s3.heap.objs.size + 1) scope.names (cloFrom X.env.cells scope.names [])) fp
  have pe := he s3 H3 s3.heap.objs.size (cellsFrom (s3.heap.objs.size + 1) scope.names (cloFrom X.env.cells scope.names [])) fp
  show codeAny _ _ (.compStart (.DictComp kx vx [⟨tg, iter, ifs, 0⟩] scope pos) 0 (.ref it) (.ref D) (compEnvC scope (cellsFrom (s3.heap.objs.size + 1) scope.names (cloFrom X.env.cells scope.names [])) s3.heap.objs.size X.env))
    (compPost (model X.prog X.w) X.A X.xe none (EP X pins σ Q) (.ref D) s3.heap.objs.size) { s3 with heap := pushCells (s3.heap.push { cls := .type "dict", data := .dict #[] }) scope.names }
  generalize hce : compEnvC scope (cellsFrom (s3.heap.objs.size + 1) scope.names (cloFrom X.env.cells scope.names [])) s3.heap.objs.size X.env = ce at I4 pg pt pk pe ⊢
  have cL : ce.locals = s3.heap.objs.size := by subst hce; rfl
  generalize hs4 : ({ s3 with heap := pushCells (s3.heap.push { cls := .type "dict", data := .dict #[] }) scope.names } : Shared) = s4 at I4 ⊢
  have st4 : tn 0 s4.heap := T.keep _ _ _ st2 fun b _ o z => by
    rw [← hs4]
    exact pushCells_keeps _ _ _ _ (Heap.get?_push_of_some _ (by rw [h3]; exact Heap.get?_push_of_some _ z))
  have stat : ∀ {σ' : L2.St} {H' : Hp} {s' : Shared}, Inv (X.blk s3 H3 scope ce fp) [] σ' H' s' → (∀ b ∈ fp, H' b = none) → ∀ b ∈ fp, FpOk (X.blk s3 H3 scope ce fp) [] H' b := fun {σ' H' s'} I' hn b hb =>
    ⟨hn b hb, (I'.ok.exf b hb).1, I'.ok.exfs b hb, .inl hb, fun x c z => (I'.ok.exf b hb).2 x c z, fun p hp => absurd (show p ∈ ([] : List (Addr × Obj)) from hp) List.not_mem_nil⟩
  have n4 : ∀ b ∈ fp, H3 b = none := fun b hb => (f3 b hb).1.1
  have loop : codeAny (model X.prog X.w) X.A (.compLoop (.DictComp kx vx [⟨tg, iter, ifs, 0⟩] scope pos) 0 (.ref it) (.ref D) ce) (compPost (model X.prog X.w) X.A X.xe none (EP X pins σ Q) (.ref D) s3.heap.objs.size) s4 := by
    refine compLoop_anyD (fun n s' => ∃ i H', Inv (X.blk s3 H3 scope ce fp) [] (wipe σ (own.map (·.2))) H' s' ∧ tn i s'.heap ∧ (∀ b ∈ fp, H' b = none) ∧ W i n H') (fun n s5 h5 => ?_) m0 ⟨0, H3, I4, st4, n4, w0⟩
    obtain ⟨i, H5, I5, st5, n5, w5⟩ := h5
    rcases turn i n H5 w5 with ⟨stop, qq⟩ | ⟨go, Nx, hNx, step⟩
    · refine thnF (T.done (X.blk s3 H3 scope ce fp) rfl rfl rfl hc i [] s5 _ H5 (fun _ _ => False) I5 (stat I5 n5) st5 stop) fun r s6 h6 => ?_
      obtain ⟨rfl, I6⟩ := h6
      -- the def's own context again
      have I7 : Inv X pins σ H5 s6 := I3.call' (ch := fp) I6.os I6.base I6.hok I6.bare fun b hb => let f := (f3 b hb).1; ⟨f.2.2.2.1, f.2.1, f.2.2.2.2.1, f.2.2.2.2.2⟩
      have nC : H5 s3.heap.objs.size = none := by
        have z : H5 ce.locals = none := I6.free
        rwa [cL] at z
      obtain ⟨m, hn, _⟩ := I6.loc
      have hn : s6.heap.Ns ce.locals m := hn
      rw [cL] at hn
      obtain ⟨g0, g1, g2, g3, g4, g5⟩ := I3.fpOk (Nat.le_refl _) nC
      exact ⟨m, hn, fun h'' sb => ⟨.ref D, H5, I7.turned (t' := s6.toks) (fun b o hb z => (sb.2 b hb).trans z) g0 g1 g3 g4 g5, rfl, qq⟩⟩
    · refine thnF (T.item (X.blk s3 H3 scope ce fp) rfl rfl rfl hc i [] s5 _ H5 (fun _ _ => False) I5 (stat I5 n5) st5 go) fun r s6 h6 => ?_
      obtain ⟨u, rfl, h6⟩ := h6
      refine thnF h6 fun _ s7 h7 => ?_
      obtain ⟨x, H7, I7, r7, y7, st7, n7⟩ := h7
      refine thnF (pg.run _ s7 _ H7 x u _ (I7.pinned (stat I7 n7) (T.obj _ _ st7)) r7 (step x H7 y7)) fun _ s8 h8 => ?_
      obtain ⟨σ8, H8, I8, hw8, q8⟩ := h8
      refine thnF (pt.run _ s8 σ8 H8 _ I8 q8) fun b s9 h9 => ?_
      obtain ⟨H9, I9, q9⟩ := h9
      have fin : ∀ {s' : Shared} {H' : Hp}, Inv (X.blk s3 H3 scope ce fp) ([] ++ pinsAt fp s7.heap) σ8 H' s' → Nx H' → ∃ m, m < n ∧ ∃ i H', Inv (X.blk s3 H3 scope ce fp) [] (wipe σ (own.map (·.2))) H' s' ∧ tn i s'.heap ∧ (∀ b ∈ fp, H' b = none) ∧ W i m H' := fun {s' H'} I' nx => by
        obtain ⟨m', hm, w'⟩ := hNx H' nx
        have kept : ∀ b ∈ fp, ∀ o, s7.heap.get? b = some o → s'.heap.get? b = some o ∧ H' b = none := fun b hb o z =>
          let p := I'.pin (b, o) (List.mem_append_right _ (List.mem_append_right _ (mem_pinsAt hb z)))
          ⟨p.1, p.2.1⟩
        refine ⟨m', hm, i + 1, H', (I'.unpinned (pins := [])).weak (by rw [← hw8, wipe_length]) (fun j v z => ?_), T.keep _ _ _ st7 fun b hb o z => (kept b hb o z).1, fun b hb => ?_, w'⟩
        · rw [← hw8] at z
          exact (wipe_some z).1
        · obtain ⟨o, z, _⟩ := T.obj _ _ st7 b hb
          exact (kept b hb o z).2
      cases b with
      | false =>
        simp only [Bool.false_eq_true, if_false] at q9 ⊢
        exact fin I9 q9
      | true =>
        simp only [if_true] at q9 ⊢
        refine thnF (pk.run _ s9 σ8 H9 _ I9 q9) fun z s10 h10 => ?_
        obtain ⟨yk, H10, I10, r10, q10⟩ := h10
        refine thnF (pe.run _ s10 σ8 H10 _ I10 q10) fun z2 s11 h11 => ?_
        obtain ⟨yv, H11, I11, r11, kvs, k, qa, rfl, hqa, hD11, hz11, nx⟩ := h11
        obtain rfl : z = Value.ref qa := r10
        exact store_pairT (X := X.blk s3 H3 scope ce fp) hu I11 hD11 hqa hz11 r11 fun s12 I12 => fin I12 nx
  exact codeAny_compStart_dict loop (T.self X.A 0 _ _ _ st4 loop)
/-- over a list that the block leaves as it is -/
theorem dcT_list {K : PySem.W.Frag} {a : Addr} {xs : List V} {g : TG} {tt : TT} {tk tv : TE} {vs : List Nat} {σ : L2.St} {H1 : Hp} {D : Addr} {Qd : Hp → Prop} (Pv : Nat → Hp → Prop) (h0 : Pv 0 (upd H1 D (.dT []))) (hl : ∀ i H, i ≤ xs.length → Pv i H → SqL K H a xs)
    (hs : ∀ i x H, xs[i]? = some x → Pv i H → g x (wipe σ vs) H fun σ2 H2 => wipe σ2 vs = wipe σ vs ∧ tt σ2 H2 fun b H3 =>
      if b = true then tk σ2 H3 fun y H4 => tv σ2 H4 fun z H5 => ∃ (kvs : List (List L2.Key × V)) (k : List L2.Key) (q : Addr), y = .ref q ∧ H5 q = some (.tup (k.map kV)) ∧ H5 D = some (.dT kvs) ∧ kvs.length < sizeLine ∧ Pv (i + 1) (upd H5 D (.dT (putK kvs k z))) else Pv (i + 1) H3) (hd : ∀ H, Pv xs.length H → Qd H) :
    ∃ W : Nat → Nat → Hp → Prop, (∃ m, W 0 m (upd H1 D (.dT []))) ∧ ∀ i m H, W i m H →
      ((Itl K a).stop i H ∧ Qd H) ∨ ((Itl K a).go i H ∧ ∃ Nx : Hp → Prop, (∀ H', Nx H' → ∃ m', m' < m ∧ W (i + 1) m' H') ∧ ∀ x H', (Itl K a).yld i H x H' → g x (wipe σ vs) H' fun σ2 H2 => wipe σ2 vs = wipe σ vs ∧ tt σ2 H2 fun b H3 =>
        if b = true then tk σ2 H3 fun y H4 => tv σ2 H4 fun z H5 => ∃ (kvs : List (List L2.Key × V)) (k : List L2.Key) (q : Addr), y = .ref q ∧ H5 q = some (.tup (k.map kV)) ∧ H5 D = some (.dT kvs) ∧ kvs.length < sizeLine ∧ Nx (upd H5 D (.dT (putK kvs k z))) else Nx H3) := by
  refine ⟨fun i m H => m = xs.length - i ∧ i ≤ xs.length ∧ Pv i H, ⟨xs.length, rfl, Nat.zero_le _, h0⟩, fun i m H hW => ?_⟩
  obtain ⟨rfl, hi, p⟩ := hW
  have z := hl i H hi p
  by_cases hlt : i < xs.length
  · refine .inr ⟨⟨xs, xs[i], z, List.getElem?_eq_getElem hlt⟩, Pv (i + 1), fun H' p' => ⟨xs.length - (i + 1), by omega, rfl, hlt, p'⟩, fun x H' y => ?_⟩
    obtain ⟨rfl, hx⟩ := y
    exact hs i x _ (hx xs z) p
  · have e : i = xs.length := by omega
    exact .inl ⟨⟨xs, z, Nat.le_of_eq e.symm⟩, hd H (by rw [← e]; exact p)⟩
end
end K5
end
section
set_option Elab.async false
set_option linter.all false
set_option maxRecDepth 100000
set_option maxHeartbeats 4000000
/-! Rules of our own, 5: sorted(d), d a dict whose keys are pairs of ints, of any size. -/
namespace K5
open PySem PySem.Spec PyProof.Rows L2
/-- the key of a pair -/
def kPair (p : Int × Int) : List L2.Key := [Sum.inl p.1, Sum.inl p.2]
/-- what the value is, as a pair of ints that stands in H -/
def kOf (H : Hp) (v : Value) : Int × Int := match v with
  | .ref q => (match H q with
    | some (.tup [.int i, .int j]) => (i, j)
    | _ => (0, 0))
  | _ => (0, 0)
theorem kOf_at {H : Hp} {q : Addr} {p : Int × Int} (h : H q = some (.tup [.int p.1, .int p.2])) : kOf H (.ref q) = p := by
  unfold kOf
  simp only [h]
/-- .. as a value of the layer -/
def kOfV (H : Hp) : V → Int × Int
  | .ref q => kOf H (.ref q)
  | _ => (0, 0)
def rSortedDT : List V → Hp → VK → Prop := fun xs H Q => ∃ (a : Addr) (kvs : List (List L2.Key × V)) (ps : List (Int × Int)), xs = [.ref a] ∧ Rd H a (.dT kvs) ∧ kvs.map (·.1) = ps.map kPair ∧
  ∀ (ys : List (Int × Int)) (as : List Addr) (p : Addr), ys.Perm ps → Paired (fun b y => H b = some (.tup [.int y.1, .int y.2])) as ys → H p = none → Q (.ref p) (upd H p (.lst (as.map V.ref)))
theorem pairRefs {H : Hp} : ∀ {out : List Value}, (∀ v ∈ out, ∃ (q : Addr) (p : Int × Int), v = Value.ref q ∧ H q = some (.tup [.int p.1, .int p.2])) → ∃ as : List Addr, out = as.map Value.ref ∧ Paired (fun b y => H b = some (.tup [.int (Prod.fst y), .int (Prod.snd y)])) as (out.map (kOf H))
  | [], _ => ⟨[], rfl, .nil⟩
  | v :: out, h => by
    obtain ⟨q, p, rfl, hq⟩ := h v List.mem_cons_self
    obtain ⟨as, e, r⟩ := pairRefs fun u hu => h u (List.mem_cons_of_mem _ hu)
    refine ⟨q :: as, by rw [e]; rfl, ?_⟩
    rw [List.map_cons]
    refine .cons ?_ r
    rw [kOf_at hq]
    exact hq
theorem vals_refs : ∀ as : List Addr, Vals (as.map V.ref) (as.map Value.ref)
  | [] => .nil
  | a :: as => .cons rfl (vals_refs as)
theorem cr_sortedDT {X : Cx} (hc : X.calm = true) : CallR X (.builtin "sorted") rSortedDT := by
  intro pins s σ H xs us Q I r h
  obtain ⟨a, kvs, ps, rfl, hd, hks, q⟩ := h
  obtain ⟨u, rfl, ru⟩ := vals1 r
  obtain rfl : u = Value.ref a := ru
  have ox : ObjOk X.prog X.w H s.heap a (.dT kvs) := hd.ok I.hok
  obtain ⟨lo, es, ep, hm, hsz, ent⟩ := dT_entries I ox
  have hkl : kvs.length ≤ sizeLine := ox.1
  have hpl : ps.length = kvs.length := by
    have e := congrArg List.length hks
    rw [List.length_map, List.length_map] at e
    exact e.symm
  refine Calls.call_function_entry PyProof.Rows.kind_sorted PyProof.Rows.plain_sorted PyProof.Rows.entry_sorted (PyProof.Rows.args_sorted1 _) ?_
  unfold Builtin.«sorted»
  refine wpAny_bind (m := checkCount "sorted" 1 1 _) (wpAny_pure (wpAny_bind (PySem.W.kdu_collect (A := X.A.in1) (KdlSrc.rawDict (es := es) (ep := ep) lo) (I.ok.hd hc) hm (by omega) fun h' tk acc hk hacc => ?_)))
  have hal : acc.toList.length = es.size := by rw [Array.length_toList, hacc.1]
  -- each item is a key's own tuple
  have item : ∀ (j : Nat) (v : Value), acc.toList[j]? = some v → ∃ (b : Addr) (p : Int × Int), v = Value.ref b ∧ H b = some (.tup [.int p.1, .int p.2]) ∧ ps[j]? = some p := fun j v e => by
    obtain ⟨hi, rfl⟩ := hacc.2 j v (by rw [← Array.getElem?_toList]; exact e)
    have hjk : j < kvs.length := by omega
    obtain ⟨_, b, e1, e2, _⟩ := ent j kvs[j].1 kvs[j].2 (List.getElem?_eq_getElem hjk)
    have e3 : (kvs.map (·.1))[j]? = some kvs[j].1 := by rw [List.getElem?_map, List.getElem?_eq_getElem hjk]; rfl
    rw [hks, List.getElem?_map] at e3
    obtain ⟨p, hp, ep'⟩ := Option.map_eq_some_iff.mp e3
    rw [← ep'] at e2
    exact ⟨b, p, e1, e2, hp⟩
  have items : acc.toList.map (kOf H) = ps := by
    refine List.ext_getElem? fun j => ?_
    rw [List.getElem?_map]
    cases e : acc.toList[j]? with
    | none =>
      rw [List.getElem?_eq_none_iff] at e
      rw [List.getElem?_eq_none (by omega)]
      rfl
    | some v =>
      obtain ⟨b, p, rfl, hb, hp⟩ := item j v e
      rw [hp]
      show some (kOf H (.ref b)) = some p
      rw [kOf_at hb]
  have mem : ∀ v ∈ acc.toList, ∃ (b : Addr) (p : Int × Int), v = Value.ref b ∧ H b = some (.tup [.int p.1, .int p.2]) := fun v hv => by
    obtain ⟨j, e⟩ := List.mem_iff_getElem?.mp hv
    obtain ⟨b, p, h1, h2, _⟩ := item j v e
    exact ⟨b, p, h1, h2⟩
  have I1 : Inv X pins σ H { s with heap := h', toks := tk } := I.kept hk
  refine wpAny_bind (wpAny_newList ?_ (by rw [hal]; omega))
  have hoL : (h'.push (seqObj "list" acc.toList.toArray 0)).get? h'.objs.size = some (seqObj "list" acc.toList.toArray 0) := Heap.get?_push_size _ rfl
  show wpAny _ _ _ _ _ { s with heap := h'.push (seqObj "list" acc.toList.toArray 0), toks := tk }
  refine wpAny_bind (wpAny_holding (wpAny_call_entry PyProof.Rows.slot_list_sort ⟨_, hoL, rfl⟩ PyProof.Rows.entry_list_sort
    (SrtO.list_sort_ord (s := { s with heap := h'.push (seqObj "list" acc.toList.toArray 0), toks := tk }) (SrtO.swo_lex (kOf H)) hoL (by rw [hal]; omega) (fun h2 => SrtO.pairs_sortableO (by omega) (fun v hv => ?_) fun o e => ?_) fun out g1 g2 => ⟨_, rfl, ?_⟩) (PyProof.Rows.args_list_sort _)))
  · obtain ⟨b, p, rfl, hb⟩ := mem v hv
    rw [kOf_at hb]
    obtain ⟨_, its, r2, o, ho, hc', n, hdt⟩ := I1.hok _ _ hb
    obtain ⟨u1, u2, rfl, ri, rj⟩ := vals2 r2
    obtain ⟨t1, rfl⟩ := ri
    obtain ⟨t2, rfl⟩ := rj
    exact ⟨b, o, t1, t2, n, rfl, Heap.get?_push_of_some _ ho, hc', hdt⟩
  · have e' : some o = some (seqObj "list" acc.toList.toArray 0) := e.symm.trans hoL
    cases e'
    intro c
    exact absurd (Value.type.inj c) (by decide)
  · obtain ⟨e', he'⟩ := PyProof.Rows.sortedHeap_at (vs := acc.toList) (out := out.toArray) hoL
    obtain ⟨as, eo, pr⟩ := pairRefs (H := H) (out := out) fun v hv => mem v (g2.perm.mem_iff.mp hv)
    have hperm : (out.map (kOf H)).Perm ps := by
      rw [← items]
      exact g2.perm.map _
    have hlen : (as.map V.ref).length ≤ sizeLine := by
      have l1 := g2.perm.length_eq
      rw [eo, List.length_map] at l1
      rw [List.length_map, l1, hal]
      omega
    refine wpAny_pure ⟨_, rfl, .ref h'.objs.size, upd H h'.objs.size (.lst (as.map V.ref)), I1.laid (t' := tk) (fun b u e => ?_) (Nat.le_refl _)
      (show ObjOk X.prog X.w _ _ _ (.lst (as.map V.ref)) from ⟨hlen, out, e', by rw [eo]; exact vals_refs as, he'⟩), rfl, q _ as _ hperm pr (I1.hok.fresh (Nat.le_refl _))⟩
    have hb : b < h'.objs.size := Heap.lt_size e
    rw [PyProof.Rows.sortedHeap_old (Nat.ne_of_lt hb) (by rw [size_push']; exact Nat.lt_succ_of_lt hb)]
    exact Heap.get?_push_of_some _ e
end K5
end
section
set_option Elab.async false
set_option linter.all false
set_option maxRecDepth 100000
set_option maxHeartbeats 4000000
/-! Rules of our own, 6: list(zip(a, b)) of two lists. -/
namespace K5
open PySem PySem.Spec PyProof.Rows L2
theorem zip_no_len : typeLookup (.type "zip") "__len__" = pure none := am_miss_of_fast (by decide +kernel)
theorem zip_no_hint : typeLookup (.type "zip") "__length_hint__" = pure none := am_miss_of_fast (by decide +kernel)
section
variable {prog : Program} {w : World} {A : Around} {E : Value → Shared → Prop} {s : Shared}
theorem hint_zip {z : Addr} {Q : Bool → Shared → Prop} (hT : s.TypeIs (.ref z) "zip") (h : Q true s) : wpAny (model prog w) A (Builtin.List.listLengthHint (.ref z)) Q E s := by
  unfold Builtin.List.listLengthHint
  refine wpAny_bind (wpAny_specialOf hT zip_no_len ?_)
  refine wpAny_ite_split (fun hab => absurd hab (by decide)) (fun _ => ?_)
  refine wpAny_ite_split (fun hab => absurd hab (by decide)) (fun _ => ?_)
  refine wpAny_bind (wpAny_specialOf hT zip_no_hint ?_)
  exact wpAny_pure h

/-- a zip over two lists that has given out i pairs; S: the list that holds them -/
structure ZSt (h : Heap) (z TI TO i1 i2 l1 l2 S : Addr) (xs ys : Array Value) (i : Nat) : Prop where
  ti : PySem.IsPair h TI (.ref i1) (.ref i2)
  a1 : h.IsListIter i1 l1 i
  a2 : h.IsListIter i2 l2 i
  b1 : h.IsList l1 xs
  b2 : h.IsList l2 ys
  out : (IsZip h z TI TO .none ∧ ∃ a b, PySem.IsPair h TO a b) ∨ ∃ T f oT, IsZipHeld h z TI TO T f ∧ h.get? T = some oT ∧ T ≠ z ∧ T ≠ i1 ∧ T ≠ i2 ∧ T ≠ S
theorem ZSt.keep {h h' : Heap} {z TI TO i1 i2 l1 l2 S : Addr} {xs ys : Array Value} {i : Nat} (t : ZSt h z TI TO i1 i2 l1 l2 S xs ys i) (nS : S ≠ z ∧ S ≠ TI ∧ S ≠ TO ∧ S ≠ i1 ∧ S ≠ i2 ∧ S ≠ l1 ∧ S ≠ l2) (k : ∀ b o, b ≠ S → h.get? b = some o → h'.get? b = some o) : ZSt h' z TI TO i1 i2 l1 l2 S xs ys i := by
  obtain ⟨n1, n2, n3, n4, n5, n6, n7⟩ := nS
  refine ⟨k _ _ n2.symm t.ti, t.a1.at fun o e => k _ o n4.symm e, t.a2.at fun o e => k _ o n5.symm e, t.b1.at fun o e => k _ o n6.symm e, t.b2.at fun o e => k _ o n7.symm e, ?_⟩
  rcases t.out with ⟨hz, a, b, hTO⟩ | ⟨T, f, oT, hz, hT, r1, r2, r3, r4⟩
  · exact .inl ⟨k _ _ n1.symm hz, a, b, k _ _ n3.symm hTO⟩
  · exact .inr ⟨T, f, oT, k _ _ n1.symm hz, k _ _ r4 hT, r1, r2, r3, r4⟩
theorem ZSt.item {z TI TO i1 i2 l1 l2 S : Addr} {xs ys : Array Value} {i : Nat} {Q : Option Value → Shared → Prop} (D : ZipApart z TI TO i1 i2 l1 l2) (t : ZSt s.heap z TI TO i1 i2 l1 l2 S xs ys i) (hS : S < s.heap.objs.size) {x y : Value} (ex : xs[i]? = some x) (ey : ys[i]? = some y)
    (hQ : ∀ h', ZSt h' z TI TO i1 i2 l1 l2 S xs ys (i + 1) → PySem.IsPair h' s.heap.objs.size x y → (∀ c o, c ≠ z → c ≠ TO → c ≠ i1 → c ≠ i2 → s.heap.get? c = some o → h'.get? c = some o) → Q (some (.ref s.heap.objs.size)) { s with heap := h' }) :
    wpAny (model prog w) A (pyNext (.ref z)) Q E s := by
  have n1 : s.heap.objs.size ≠ i1 := let ⟨_, e, _⟩ := t.a1; Nat.ne_of_gt (Heap.lt_size e)
  have n2 : s.heap.objs.size ≠ i2 := let ⟨_, e, _⟩ := t.a2; Nat.ne_of_gt (Heap.lt_size e)
  rcases t.out with ⟨hz, a, b, hTO⟩ | ⟨T, f, oT, hz, hT, r1, r2, r3, r4⟩
  · refine wpAny_pyNext_zip_item D hz t.ti hTO t.a1 t.a2 t.b1 t.b2 ex ey fun h' c1 c2 c3 c4 c5 c6 hk => hQ h' ⟨?_, c3, c4, ?_, ?_, ?_⟩ c5 hk
    · exact hk _ _ D.TIz D.TITO D.TIi1 D.TIi2 t.ti
    · exact t.b1.at fun o e => hk _ o D.l1z D.l1TO D.l1i1 D.l1i2 e
    · exact t.b2.at fun o e => hk _ o D.l2z D.l2TO D.l2i1 D.l2i2 e
    · exact .inr ⟨s.heap.objs.size, false, _, c1, c5, Nat.ne_of_gt (Heap.lt_size hz), n1, n2, Nat.ne_of_gt hS⟩
  · refine wpAny_pyNext_zip_item_held D hz hT t.ti t.a1 t.a2 t.b1 t.b2 ex ey fun h' c1 c3 c4 c5 c6 hk => hQ h' ⟨?_, c3, c4, ?_, ?_, ?_⟩ c5 fun c o m1 _ m3 m4 e => hk c o m1 m3 m4 e
    · exact hk _ _ D.TIz D.TIi1 D.TIi2 t.ti
    · exact t.b1.at fun o e => hk _ o D.l1z D.l1i1 D.l1i2 e
    · exact t.b2.at fun o e => hk _ o D.l2z D.l2i1 D.l2i2 e
    · exact .inr ⟨T, true, oT, c1, hk _ _ r1 r2 r3 hT, r1, r2, r3, r4⟩
theorem ZSt.done {z TI TO i1 i2 l1 l2 S : Addr} {xs ys : Array Value} {i : Nat} {Q : Option Value → Shared → Prop} (hh : A.handled = none) (D : ZipApart z TI TO i1 i2 l1 l2) (t : ZSt s.heap z TI TO i1 i2 l1 l2 S xs ys i) (he : xs[i]? = none ∨ ys[i]? = none)
    (hQ : ∀ h', (∀ c o, c ≠ z → c ≠ TO → c ≠ i1 → c ≠ i2 → s.heap.get? c = some o → h'.get? c = some o) → Q none { s with heap := h' }) : wpAny (model prog w) A (pyNext (.ref z)) Q E s := by
  rcases t.out with ⟨hz, a, b, hTO⟩ | ⟨T, f, oT, hz, hT, _⟩
  · exact wpAny_pyNext_zip_end hh D hz t.ti hTO t.a1 t.a2 t.b1 t.b2 he fun h' hk => hQ h' fun c o m1 m2 m3 m4 e => hk c o m1 m2 m3 m4 e
  · exact wpAny_pyNext_zip_end_held hh D hz hT t.ti t.a1 t.a2 t.b1 t.b2 he fun h' hk => hQ h' fun c o m1 m2 m3 m4 e => hk c o m1 m3 m4 e
/-- the pairs made so far, above lo -/
structure ZG (xs ys : Array Value) (lo : Addr) (h : Heap) (as : List Addr) : Prop where
  rise : as.Pairwise (· < ·)
  above : ∀ a ∈ as, lo < a
  pairs : ∀ (j : Nat) (a : Addr), as[j]? = some a → ∃ x y, xs[j]? = some x ∧ ys[j]? = some y ∧ PySem.IsPair h a x y
theorem ZG.there {xs ys : Array Value} {lo : Addr} {h : Heap} {as : List Addr} (g : ZG xs ys lo h as) {a : Addr} (ha : a ∈ as) : a < h.objs.size := by
  obtain ⟨j, hj⟩ := List.mem_iff_getElem?.mp ha
  obtain ⟨x, y, _, _, e⟩ := g.pairs j a hj
  exact Heap.lt_size e
/-- S is none of the zip's own, and lies above them -/
structure ZOff (z TI TO i1 i2 l1 l2 S : Addr) : Prop where
  z : z < S
  ti : TI < S
  t_o : TO < S
  i1 : i1 < S
  i2 : i2 < S
  l1 : l1 < S
  l2 : l2 < S
theorem zl_loop {R : Result → Shared → Prop} {z TI TO i1 i2 l1 l2 S : Addr} {xs ys : Array Value} (hh : A.handled = none) (D : ZipApart z TI TO i1 i2 l1 l2) (O : ZOff z TI TO i1 i2 l1 l2 S) (hn : min xs.size ys.size ≤ sizeLine) (res : Value) {h₁ : Heap}
    (hR : ∀ h' tk acc c as, (∀ b o, b ≠ S → b ≠ z → b ≠ TO → b ≠ i1 → b ≠ i2 → h₁.get? b = some o → h'.get? b = some o) → h'.get? S = some { cls := .type "list", dict := none, data := .seq acc c, slots := #[] } → as.length = min xs.size ys.size → ZG xs ys S h' as →
      acc.toList = as.map Value.ref → R (.ok (.ret res)) { s with heap := h', toks := tk }) :
    ∀ (k i : Nat) (h : Heap) (tk c : Nat) (acc : Array Value) (as : List Addr), min xs.size ys.size - i = k → i ≤ min xs.size ys.size → ZSt h z TI TO i1 i2 l1 l2 S xs ys i → (∀ b o, b ≠ S → b ≠ z → b ≠ TO → b ≠ i1 → b ≠ i2 → h₁.get? b = some o → h.get? b = some o) →
      h.get? S = some { cls := .type "list", dict := none, data := .seq acc c, slots := #[] } → acc.toList = as.map Value.ref → as.length = i → ZG xs ys S h as →
      codeAny (model prog w) A (.builtin "list.extend.loop" ⟨[.ref S, .ref z, res], []⟩) R { s with heap := h, toks := tk } := by
  intro k
  have nSz : S ≠ z := Nat.ne_of_gt O.z
  have nST : S ≠ TO := Nat.ne_of_gt O.t_o
  have nS1 : S ≠ i1 := Nat.ne_of_gt O.i1
  have nS2 : S ≠ i2 := Nat.ne_of_gt O.i2
  have hoff : S ≠ z ∧ S ≠ TI ∧ S ≠ TO ∧ S ≠ i1 ∧ S ≠ i2 ∧ S ≠ l1 ∧ S ≠ l2 := ⟨nSz, Nat.ne_of_gt O.ti, nST, nS1, nS2, Nat.ne_of_gt O.l1, Nat.ne_of_gt O.l2⟩
  have apart : ∀ b, S < b → b ≠ z ∧ b ≠ TO ∧ b ≠ i1 ∧ b ≠ i2 := fun b hb => ⟨Nat.ne_of_gt (Nat.lt_trans O.z hb), Nat.ne_of_gt (Nat.lt_trans O.t_o hb), Nat.ne_of_gt (Nat.lt_trans O.i1 hb), Nat.ne_of_gt (Nat.lt_trans O.i2 hb)⟩
  induction k with
  | zero =>
    intro i h tk c acc as hk hi hst hkeep hS hacc hal hG
    have hend : xs[i]? = none ∨ ys[i]? = none := by
      rcases Nat.le_total xs.size ys.size with q | q
      · exact .inl (Array.getElem?_eq_none (by rw [Nat.min_eq_left q] at hk; omega))
      · exact .inr (Array.getElem?_eq_none (by rw [Nat.min_eq_right q] at hk; omega))
    refine codeAny_builtin PySem.F.entry_extend_loop ?_
    rw [Around.under_plainId PySem.F.plain_extend_loop _]
    show wpAny _ A.in1 (pyNext (.ref z) >>= _) _ _ _
    refine wpAny_bind (ZSt.done (s := { s with heap := h, toks := tk }) (A := A.in1) hh D hst hend fun h' he => wpAny_pure (hR h' tk acc c as (fun b o m0 m1 m2 m3 m4 e => he b o m1 m2 m3 m4 (hkeep b o m0 m1 m2 m3 m4 e)) (he S _ nSz nST nS1 nS2 hS) (by omega) ⟨hG.rise, hG.above, fun j a hj => ?_⟩ hacc))
    obtain ⟨x, y, ex, ey, e3⟩ := hG.pairs j a hj
    obtain ⟨m1, m2, m3, m4⟩ := apart a (hG.above a (List.mem_of_getElem? hj))
    exact ⟨x, y, ex, ey, he a _ m1 m2 m3 m4 e3⟩
  | succ k ih =>
    intro i h tk c acc as hk hi hst hkeep hS hacc hal hG
    have hlt : i < min xs.size ys.size := by omega
    have hix : i < xs.size := Nat.lt_of_lt_of_le hlt (Nat.min_le_left ..)
    have hiy : i < ys.size := Nat.lt_of_lt_of_le hlt (Nat.min_le_right ..)
    have hsz : acc.size = i := by rw [← Array.length_toList, hacc, List.length_map, hal]
    have hSl : S < h.objs.size := Heap.lt_size hS
    refine codeAny_builtin PySem.F.entry_extend_loop ?_
    rw [Around.under_plainId PySem.F.plain_extend_loop _]
    show wpAny _ A.in1 (pyNext (.ref z) >>= _) _ _ _
    refine wpAny_bind (ZSt.item (s := { s with heap := h, toks := tk }) D hst hSl (Array.getElem?_eq_getElem hix) (Array.getElem?_eq_getElem hiy) fun h' hst' hT hkp => ?_)
    dsimp only at hT hkp ⊢
    have hS' := hkp S _ nSz nST nS1 nS2 hS
    have up : ∀ b o, b ≠ S → h'.get? b = some o → (h'.update S (Obj.mapSeq (·.push (Value.ref h.objs.size)))).get? b = some o := fun b o hb e => (Heap.get?_update_other _ _ (Ne.symm hb)).trans e
    have hnew : S < h.objs.size := hSl
    show wpAny _ A.in1 (updateSeq S (·.push (Value.ref h.objs.size)) >>= _) _ _ _
    refine wpAny_bind (wpAny_updateSeq hS' rfl (wpAny_pure ⟨plainId_quiet PySem.F.plain_extend_loop _, ih (i + 1) _ tk _ (acc.push (Value.ref h.objs.size)) (as ++ [h.objs.size]) (by omega) hlt (hst'.keep hoff up)
      (fun b o m0 m1 m2 m3 m4 e => up b o m0 (hkp b o m1 m2 m3 m4 (hkeep b o m0 m1 m2 m3 m4 e))) (Heap.get?_update_self _ hS' rfl) (by rw [Array.toList_push, hacc, List.map_append]; rfl) (by rw [List.length_append, hal]; rfl) ⟨?_, ?_, ?_⟩⟩) (by rw [hsz]; omega) (by show (acc.push (Value.ref h.objs.size)).size ≤ sizeLine + 1; rw [Array.size_push, hsz]; omega))
    · refine List.pairwise_append.mpr ⟨hG.rise, List.pairwise_singleton _ _, fun a ha b hb => ?_⟩
      rw [List.mem_singleton.mp hb]
      exact hG.there ha
    · intro a ha
      rcases List.mem_append.mp ha with ha | ha
      · exact hG.above a ha
      · rw [List.mem_singleton.mp ha]
        exact hnew
    · intro j b hj
      by_cases hjl : j < as.length
      · rw [List.getElem?_append_left hjl] at hj
        obtain ⟨x, y, ex, ey, e3⟩ := hG.pairs j b hj
        have hb := hG.above b (List.mem_of_getElem? hj)
        obtain ⟨m1, m2, m3, m4⟩ := apart b hb
        exact ⟨x, y, ex, ey, up b _ (Nat.ne_of_gt hb) (hkp b _ m1 m2 m3 m4 e3)⟩
      · rw [List.getElem?_append_right (by omega)] at hj
        have hj0 : j - as.length = 0 := by
          have := (List.getElem?_eq_some_iff.mp hj).1
          rw [List.length_singleton] at this
          omega
        rw [hj0] at hj
        have eb : h.objs.size = b := Option.some.inj hj
        have ej : j = i := by omega
        subst eb ej
        exact ⟨_, _, Array.getElem?_eq_getElem hix, Array.getElem?_eq_getElem hiy, up _ _ (Nat.ne_of_gt hSl) hT⟩
/-- list(z) of a fresh zip -/
theorem call_list_zip {Q : Value → Shared → Prop} {z TI TO i1 i2 l1 l2 : Addr} {xs ys : Array Value} (hh : A.handled = none) (D : ZipApart z TI TO i1 i2 l1 l2) (O : ZOff z TI TO i1 i2 l1 l2 s.heap.objs.size) (hn : min xs.size ys.size ≤ sizeLine)
    (hz : IsZip s.heap z TI TO .none) (hTI : PySem.IsPair s.heap TI (.ref i1) (.ref i2)) {a b : Value} (hTO : PySem.IsPair s.heap TO a b) (h1 : s.heap.IsListIter i1 l1 0) (h2 : s.heap.IsListIter i2 l2 0) (hl1 : s.heap.IsList l1 xs) (hl2 : s.heap.IsList l2 ys)
    (hQ : ∀ h' tk acc c as, (∀ b o, b ≠ z → b ≠ TO → b ≠ i1 → b ≠ i2 → s.heap.get? b = some o → h'.get? b = some o) → h'.get? s.heap.objs.size = some { cls := .type "list", dict := none, data := .seq acc c, slots := #[] } → as.length = min xs.size ys.size → ZG xs ys s.heap.objs.size h' as →
      acc.toList = as.map Value.ref → Q (.ref s.heap.objs.size) { s with heap := h', toks := tk }) :
    wpAny (model prog w) A (call (.type "list") [.ref z]) Q E s := by
  refine callType_codes (Q₁ := fun obj s₁ => obj = .ref s.heap.objs.size ∧ s₁ = { s with heap := s.heap.push { cls := .type "list", data := .seq #[] } }) PySem.F.called_list (PySem.F.typeCall_list_1 _) PySem.F.entry_list_init (code_list_new _ ⟨rfl, rfl⟩) fun obj s₁ e₁ => ?_
  obtain ⟨rfl, rfl⟩ := e₁
  have hS : (s.heap.push { cls := .type "list", data := .seq #[] }).get? s.heap.objs.size = some { cls := .type "list", data := .seq #[] } := Heap.get?_push_size _ rfl
  refine ⟨⟨_, hS, rfl⟩, PySem.F.args_list_init_2 _ _, ?_⟩
  show wpAny _ _ (do let old ← Builtin.List.listItems (.ref s.heap.objs.size); Builtin.List.listUpdate (.ref s.heap.objs.size) (fun _ => #[]); letGo old.toList.reverse; Builtin.List.listExtendWith (.ref s.heap.objs.size) (.ref z) .none) _ _ _
  refine wpAny_bind ?_
  unfold Builtin.List.listItems
  refine wpAny_bind (wpAny_seqItems hS rfl (wpAny_pure ?_))
  show wpAny _ _ (updateSeq s.heap.objs.size (fun _ => #[]) >>= fun _ => letGo (#[] : Array Value).toList.reverse >>= fun _ => Builtin.List.listExtendWith (.ref s.heap.objs.size) (.ref z) .none) _ _ _
  refine wpAny_bind (wpAny_updateSeq hS rfl ?_)
  have hS₂ := Heap.get?_update_self (Obj.mapSeq (fun _ => (#[] : Array Value))) hS rfl
  refine wpAny_bind (wpAny_letGo ?_)
  have k2 : ∀ b o, b ≠ s.heap.objs.size → s.heap.get? b = some o → ((s.heap.push { cls := .type "list", data := .seq #[] }).update s.heap.objs.size (Obj.mapSeq (fun _ => (#[] : Array Value)))).get? b = some o :=
    fun b o hb e => (Heap.get?_update_other _ _ (Ne.symm hb)).trans (Heap.get?_push_of_some _ e)
  have st0 : ZSt s.heap z TI TO i1 i2 l1 l2 s.heap.objs.size xs ys 0 := ⟨hTI, h1, h2, hl1, hl2, .inl ⟨hz, a, b, hTO⟩⟩
  have hoff : s.heap.objs.size ≠ z ∧ s.heap.objs.size ≠ TI ∧ s.heap.objs.size ≠ TO ∧ s.heap.objs.size ≠ i1 ∧ s.heap.objs.size ≠ i2 ∧ s.heap.objs.size ≠ l1 ∧ s.heap.objs.size ≠ l2 :=
    ⟨Nat.ne_of_gt O.z, Nat.ne_of_gt O.ti, Nat.ne_of_gt O.t_o, Nat.ne_of_gt O.i1, Nat.ne_of_gt O.i2, Nat.ne_of_gt O.l1, Nat.ne_of_gt O.l2⟩
  have st2 := st0.keep hoff k2
  unfold Builtin.List.listExtendWith
  refine wpAny_bind (wpAny_typeOf (T := "zip") ⟨_, k2 _ _ (Nat.ne_of_lt O.z) hz, rfl⟩ ?_)
  have g1 : Builtin.List.listSameRef (.ref s.heap.objs.size) (.ref z) = false := by simp [Builtin.List.listSameRef, Nat.ne_of_gt O.z]
  have g2 : (Value.type "zip" == Value.type "list") = false := by decide
  have g3 : (Value.type "zip" == Value.type "tuple") = false := by decide
  simp only [g1, g2, g3, Bool.or_false, Bool.false_eq_true, if_false]
  refine wpAny_bind (wpAny_pyIter_zip (k2 _ _ (Nat.ne_of_lt O.z) hz) ?_)
  refine wpAny_bind (wpAny_holding (hint_zip ⟨_, k2 _ _ (Nat.ne_of_lt O.z) hz, rfl⟩ ?_))
  refine wpAny_ite_split (fun _ => ?_) (fun hab => absurd (by simp) hab)
  refine wpAny_bind (wpAny_rule ?_)
  refine wpAny_bind ?_
  show wpAny _ _ (updateSeq s.heap.objs.size (·.push .none) >>= fun _ => updateSeq s.heap.objs.size (·.pop)) _ _ _
  refine wpAny_bind (wpAny_updateSeq hS₂ rfl ?_)
  have hS₃ := Heap.get?_update_self (Obj.mapSeq (·.push Value.none)) hS₂ rfl
  refine wpAny_updateSeq (hz := by seq_fits) hS₃ rfl ?_
  have hS₄ := Heap.get?_update_self (Obj.mapSeq (·.pop)) hS₃ rfl
  have k4 : ∀ b o, b ≠ s.heap.objs.size → s.heap.get? b = some o → ((((s.heap.push { cls := .type "list", data := .seq #[] }).update s.heap.objs.size (Obj.mapSeq (fun _ => (#[] : Array Value)))).update s.heap.objs.size (Obj.mapSeq (·.push Value.none))).update s.heap.objs.size (Obj.mapSeq (·.pop))).get? b = some o :=
    fun b o hb e => (Heap.get?_update_other _ _ (Ne.symm hb)).trans ((Heap.get?_update_other _ _ (Ne.symm hb)).trans (k2 b o hb e))
  refine wpAny_pure ⟨plainId_quiet PySem.F.plain_extend_loop _, ?_⟩
  refine zl_loop (s := s) (A := A.in1) (h₁ := s.heap) hh D O hn .none (fun h' tk acc c as hk hS' hl hG hacc => ⟨rfl, hQ h' tk acc c as (fun b o m1 m2 m3 m4 e => hk b o (Nat.ne_of_lt (Heap.lt_size e)) m1 m2 m3 m4 e) hS' hl hG hacc⟩)
    (min xs.size ys.size) 0 _ _ _ #[] [] (Nat.sub_zero _) (Nat.zero_le _) (st0.keep hoff k4) (fun b o m0 _ _ _ _ e => k4 b o m0 e) hS₄ rfl rfl ⟨List.Pairwise.nil, fun _ h => (nomatch h), fun j a h => by simp at h⟩
end
end K5
end
section
set_option Elab.async false
set_option linter.all false
set_option maxRecDepth 100000
set_option maxHeartbeats 4000000
/-! Rules of our own, 7: list(zip(a, b)) as a rule of the layer. -/
namespace K5
open PySem PySem.Spec PyProof.Rows L2
/-- new pairs, tracked at their addresses -/
def putP : Hp → List Addr → List (V × V) → Hp
  | H, a :: as, p :: ps => putP (upd H a (.tup [p.1, p.2])) as ps
  | H, _, _ => H
theorem putP_off {b : Addr} : ∀ (as : List Addr) (ps : List (V × V)) (H : Hp), b ∉ as → putP H as ps b = H b
  | [], _, _, _ => rfl
  | _ :: _, [], _, _ => rfl
  | a :: as, p :: ps, H, h => by
    rw [List.mem_cons, not_or] at h
    show putP (upd H a (.tup [p.1, p.2])) as ps b = H b
    rw [putP_off as ps _ h.2, upd_ne h.1]
theorem putP_at : ∀ (as : List Addr) (ps : List (V × V)) (H : Hp), as.length = ps.length → as.Nodup → Paired (fun (t : Addr) (p : V × V) => putP H as ps t = some (.tup [p.1, p.2])) as ps
  | [], [], _, _, _ => .nil
  | [], _ :: _, _, h, _ => nomatch h
  | _ :: _, [], _, h, _ => nomatch h
  | a :: as, p :: ps, H, h, hn => by
    rw [List.nodup_cons] at hn
    refine .cons ?_ (putP_at as ps (upd H a (.tup [p.1, p.2])) (Nat.succ.inj h) hn.2)
    show putP (upd H a (.tup [p.1, p.2])) as ps a = some (.tup [p.1, p.2])
    rw [putP_off as ps _ hn.1, upd_same]
theorem paired_of {A B : Type} {F : A → B → Prop} : ∀ {xs : List A} {ys : List B}, Paired F xs ys → ∀ {x : A}, x ∈ xs → ∃ (j : Nat) (y : B), xs[j]? = some x ∧ ys[j]? = some y ∧ F x y
  | _, _, .cons h t, x, hx => by
    rcases List.mem_cons.mp hx with e | hx
    · rw [e]
      exact ⟨0, _, rfl, rfl, h⟩
    · obtain ⟨j, y, e1, e2, e3⟩ := paired_of t hx
      exact ⟨j + 1, y, e1, e2, e3⟩
theorem refs_vals : ∀ as : List Addr, Vals (as.map V.ref) (as.map Value.ref)
  | [] => .nil
  | _ :: as => .cons rfl (refs_vals as)
/-- behind a call that laid new pairs at as and a new list of them at S -/
theorem pairs_laid {X : Cx} {pins : List (Addr × Obj)} {σ : L2.St} {H : Hp} {s : Shared} {h' : Heap} {tk c : Nat} {acc : Array Value} {S : Addr} {as : List Addr} {ps : List (V × V)} (I : Inv X pins σ H s) (hz : ps.length ≤ sizeLine) (hS0 : s.heap.objs.size ≤ S)
    (hk : ∀ b o, s.heap.get? b = some o → h'.get? b = some o) (hS : h'.get? S = some { cls := .type "list", dict := none, data := .seq acc c, slots := #[] }) (hl : as.length = ps.length) (nd : as.Nodup) (ab : ∀ a ∈ as, S < a)
    (pr : ∀ (j : Nat) (a : Addr) (p : V × V), as[j]? = some a → ps[j]? = some p → ∃ x y, RelV p.1 x ∧ RelV p.2 y ∧ PySem.IsPair h' a x y) (hacc : acc.toList = as.map Value.ref) :
    ∃ H' : Hp, Same H H' ∧ H S = none ∧ H' S = some (.lst (as.map V.ref)) ∧ Paired (fun (t : Addr) (q : V × V) => H' t = some (.tup [q.1, q.2])) as ps ∧ Inv X pins σ H' { s with heap := h', toks := tk } := by
  have hSn : S ∉ as := fun z => Nat.lt_irrefl _ (ab _ z)
  have new : ∀ t ∈ as, H t = none := fun t ht => I.hok.fresh (Nat.le_trans hS0 (Nat.le_of_lt (ab t ht)))
  have newS : H S = none := I.hok.fresh hS0
  have atP := putP_at as ps (upd H S (.lst (as.map V.ref))) hl nd
  have off : ∀ b, b ∉ as → b ≠ S → putP (upd H S (.lst (as.map V.ref))) as ps b = H b := fun b n1 n2 => by rw [putP_off as ps _ n1, upd_ne n2]
  have kp : Same H (putP (upd H S (.lst (as.map V.ref))) as ps) := fun b u e => by
    rw [off b (fun z => by rw [new b z] at e; cases e) (fun z => by rw [z, newS] at e; cases e)]
    exact e
  have eS : putP (upd H S (.lst (as.map V.ref))) as ps S = some (.lst (as.map V.ref)) := by rw [putP_off as ps _ hSn, upd_same]
  refine ⟨_, kp, newS, eS, atP, ?_⟩
  refine I.call' (ch := []) rfl ⟨fun b o q _ _ _ => hk b o q, fun b o q _ _ _ => ⟨o.slots, hk b o q⟩, fun b o q n _ => ?_, fun b o q _ => ⟨o, hk b o q⟩, fun b xs q => kp b _ q, fun b o u q => kp b _ q, fun b qs q => ⟨#[], by rw [kp b _ q]; simp⟩⟩ (fun b u q => ?_) I.bare fun b z => nomatch z
  · have lt := Heap.lt_size q
    rw [off b (fun z => absurd lt (Nat.not_lt.mpr (Nat.le_trans hS0 (Nat.le_of_lt (ab b z))))) (fun z => absurd lt (Nat.not_lt.mpr (by rw [z]; exact hS0)))]
    exact n
  · by_cases hb : b ∈ as
    · obtain ⟨j, p, e1, e2, e3⟩ := paired_of atP hb
      rw [e3] at q
      cases q
      obtain ⟨x, y, rx, ry, f3⟩ := pr j b p e1 e2
      exact ⟨by show 2 ≤ sizeLine; decide, [x, y], .cons rx (.cons ry .nil), ⟨_, f3, rfl, _, rfl⟩⟩
    · by_cases hb2 : b = S
      · rw [hb2] at q ⊢
        rw [eS] at q
        cases q
        refine ⟨by rw [List.length_map]; omega, acc.toList, c, by rw [hacc]; exact refs_vals as, ?_⟩
        rw [Array.toArray_toList]
        exact hS
      · rw [off b hb hb2] at q
        exact (I.hok b u q).stay (fun d v _ y => hk d v y) (fun d y => kp d _ y) fun d xs y => kp d _ y
def tListZip (K : PySem.W.Frag) (ta : TA) : TE := fun σ H Q => ta σ H fun vs H1 => ∃ (a b : Addr) (xs ys : List V), vs = [.ref a, .ref b] ∧ SqL K H1 a xs ∧ SqL K H1 b ys ∧
  ∀ (H' : Hp) (p : Addr) (ts : List Addr), Same H1 H' → H1 p = none → H' p = some (.lst (ts.map V.ref)) → Paired (fun (t : Addr) (q : V × V) => H' t = some (.tup [q.1, q.2])) ts (xs.zip ys) → Q (.ref p) H'
theorem pe_listZip {X : Cx} {e1 e2 : Expr} {ta : TA} {p p2 pos2 pos : Pos} (hc : X.calm = true) (ha : PA X [e1, e2] ta) (hg : Gl X "list") (hm : X.mg "list" = none) (hg2 : Gl X "zip") (hm2 : X.mg "zip" = none) (hv : bootBuiltins "list" = some (.type "list"))
    (hs : starEach [.Call (.Name "zip" p2) [e1, e2] [] pos2] X.env = (false, eval (.Call (.Name "zip" p2) [e1, e2] [] pos2) X.env) :: starEach [] X.env := by rfl)
    (hs2 : starEach [e1, e2] X.env = (false, eval e1 X.env) :: starEach [e2] X.env := by rfl) (hpl : (backTo pos2 (starEach [e2] X.env)).any (·.1) = false := by rfl) :
    PE X (.Call (.Name "list" p) [.Call (.Name "zip" p2) [e1, e2] [] pos2] [] pos) (tListZip X.K ta) := by
  refine ⟨fun pins s σ H Q I hq => wpAny_Call_Name_kw (ld_blt I hg hm hv (PyProof.Rows.callWith_type1 ?_ hs rfl))⟩
  rw [hs]
  show wpAny _ _ (spliced ((false, eval (.Call (.Name "zip" p2) [e1, e2] [] pos2) X.env) :: backTo pos (starEach [] X.env))) _ _ s
  refine Calls.spliced_cons (Call_ (ld_blt I hg2 hm2 PyProof.Rows.boot_zip (PyProof.Rows.callWith_type1 (thn (ha.run pos2 pins s σ H _ I hq) fun us s1 h1 => ?_) hs2 hpl)))
  obtain ⟨vs, H1, I1, r1, a, b, xs, ys, ex, hqx, hqy, q⟩ := h1
  subst ex
  obtain ⟨u1, u2, rfl, ra, rb⟩ := vals2 r1
  obtain rfl : u1 = Value.ref a := ra
  obtain rfl : u2 = Value.ref b := rb
  obtain ⟨its, rv, q1, hz1⟩ := I1.list hqx
  obtain ⟨its2, rv2, q2, hz2⟩ := I1.list hqy
  have la : a < s1.heap.objs.size := q1.lt
  have lb : b < s1.heap.objs.size := q2.lt
  have l1 := rv.length
  have l2 := rv2.length
  refine call_zip_2 q1.isList q2.isList fun h' hz hTI hTO h1 h2 hsz hk => Calls.spliced_nil ?_
  have D := PySem.W.ktu_apart s1.heap.objs.size a b la lb
  have O : ZOff (s1.heap.objs.size + 4) (s1.heap.objs.size + 2) (s1.heap.objs.size + 3) s1.heap.objs.size (s1.heap.objs.size + 1) a b h'.objs.size := by
    have e5 : ∀ j, j < 5 → s1.heap.objs.size + j < h'.objs.size := fun j hj => by
      rw [hsz]
      exact Nat.add_lt_add_left hj _
    exact ⟨e5 4 (by decide), e5 2 (by decide), e5 3 (by decide), e5 0 (by decide), e5 1 (by decide), Nat.lt_trans la (e5 0 (by decide)), Nat.lt_trans lb (e5 0 (by decide))⟩
  have hmin : min its.toArray.size its2.toArray.size ≤ sizeLine := by
    rw [List.size_toArray, List.size_toArray]
    omega
  refine call_list_zip (s := { s1 with heap := h' }) (I1.ok.hd hc) D O hmin hz hTI hTO h1 h2 (q1.isList.at fun o e => hk _ o e) (q2.isList.at fun o e => hk _ o e) fun h2' tk acc c as hk2 hS hl hG hacc => ?_
  have old : ∀ c o, s1.heap.get? c = some o → h2'.get? c = some o := fun c o e => by
    have lt := Heap.lt_size e
    have ne : ∀ j, c ≠ s1.heap.objs.size + j := fun j => Nat.ne_of_lt (Nat.lt_of_lt_of_le lt (Nat.le_add_right _ j))
    exact hk2 c o (ne 4) (ne 3) (ne 0) (ne 1) (hk c o e)
  have lz : as.length = (xs.zip ys).length := by
    rw [hl, List.length_zip, List.size_toArray, List.size_toArray, l1, l2]
  obtain ⟨H', k1, k2, k3, k4, J⟩ := pairs_laid (ps := xs.zip ys) (tk := tk) I1 (by rw [← lz, hl]; exact hmin) (by rw [hsz]; exact Nat.le_add_right _ 5) old hS lz (List.Pairwise.imp (fun h => Nat.ne_of_lt h) hG.rise) hG.above (fun j t pq e1 e2 => by
    obtain ⟨x, y, f1, f2, f3⟩ := hG.pairs j t e1
    obtain ⟨g1, g2⟩ := List.getElem?_zip_eq_some.mp e2
    obtain ⟨x', hx', rx⟩ := rv.get g1
    obtain ⟨y', hy', ry⟩ := rv2.get g2
    have ex : x' = x := by
      have : its[j]? = some x := by simpa using f1
      rw [hx'] at this
      exact Option.some.inj this
    have ey : y' = y := by
      have : its2[j]? = some y := by simpa using f2
      rw [hy'] at this
      exact Option.some.inj this
    subst ex ey
    exact ⟨_, _, rx, ry, f3⟩) hacc
  exact ⟨.ref _, H', J, rfl, q H' _ as k1 k2 k3 k4⟩
end K5
end
section
set_option Elab.async false
set_option linter.all false
set_option maxRecDepth 100000
set_option maxHeartbeats 4000000
/-! Rules of our own, 8: sum of a tuple of ints. -/
namespace K5
open PySem PySem.Spec PyProof.Rows L2
def rSumT (K : PySem.W.Frag) : List V → Hp → VK → Prop := fun vs H Q => ∃ (a : Addr) (ns : List Int), vs = [V.ref a] ∧ SqT K H a (ns.map V.int) ∧ Q (.int ns.sum) H
theorem cr_sumT {X : Cx} (hc : X.calm = true) : CallR X (.builtin "sum") (rSumT X.K) := by
  intro pins s σ H vs us Q I r h
  obtain ⟨a, ns, rfl, hs, q⟩ := h
  obtain ⟨its, rv, hl, _⟩ := I.tuple hs
  rw [Vals.ref1 r]
  obtain ⟨xs, e⟩ := (Vals.ints rv).allInts.items
  have hn : numsOf (intItems xs).toList = ns := by rw [← e]; exact (Vals.ints rv).numsOf
  rw [nums_intItems] at hn
  rw [e] at hl
  have hlt : a < s.heap.objs.size := by obtain ⟨_, e, _⟩ := hl; exact Heap.lt_size e
  refine call_sum_walkG (iter_tuple hl ?_)
  have k1 : ∀ b o, s.heap.get? b = some o → (s.heap.push { cls := .type "tuple_iterator", data := .fields #[.ref a, .int 0 0] }).get? b = some o := fun b o e => Heap.get?_push_of_some _ e
  refine ⟨_, _, _, _, _, _, numAt xs, rfl, Walks.tuple (A := X.A.in1) (I.ok.hd hc) _ a (Nat.ne_of_lt hlt) (intItems xs), ⟨⟨_, Heap.get?_push_size _ rfl, rfl, rfl⟩, ?_⟩, fun b hb => ?_, fun _ _ => intItems_at, fun h' tk t' hk => ?_⟩
  · obtain ⟨o, ho, q⟩ := hl
    exact ⟨o, k1 a o ho, q⟩
  · rw [Heap.size_push]
    rcases List.mem_cons.mp hb with z | z
    · rw [z]; exact Nat.lt_succ_self _
    · rw [List.mem_singleton.mp z]; exact Nat.lt_succ_of_lt hlt
  · have es : preSum (numAt xs) (intItems xs).size = ns.sum := by
      rw [preSum_eq, List.take_of_length_le (by simp [intItems]), hn]
    rw [es]
    refine ⟨.int ns.sum, H, I.kept (t' := tk) fun b u e => ?_, ⟨_, rfl⟩, q⟩
    have hb := Heap.lt_size e
    exact hk b u (fun z => by rw [List.mem_singleton.mp z] at hb; exact absurd hb (Nat.lt_irrefl _)) (k1 b u e)
end K5
end
section
set_option Elab.async false
set_option linter.all false
set_option maxRecDepth 100000
set_option maxHeartbeats 4000000
/-! Walks, 0: the text by places, calls of defs, the built-ins, isinstance. -/
namespace K5
open PySem PySem.Spec PyProof.Rows L2
def topS (i : Nat) : Stmt := PySem.Challenge.pw_anyspan_k05_whole_chains_there_and_back.main.body.getD i (.Pass ⟨0, 0, 0, 0⟩)

/-! ### a def that may be called by its name -/
structure Cl (P : Program) (w : World) (K : PySem.W.Frag) (mg : Str → Option Value) (base : Heap) (k : Nat) (x : Str) (sp : Sp) : Prop where
  ex : ∃ (f : Addr) (fd : FuncData) (ps : List Str), FnOk P w K mg base CX0 k f fd ps sp ∧ mg x = some (.ref f) ∧ PySem.W.keepIn K (.ref f) = true ∧ Binds K fd ps []
theorem pe_cl {X : Cx} {k j : Nat} {x : Str} {sp : Sp} {p pos : Pos} {e : Expr} {es : List Expr} {t : TA} (c : Cl X.prog X.w X.K X.mg X.base k x sp) (hr : Room j X.A) (hk : k ≤ j) (hg : Gl X x) (ha : PA X (e :: es) t)
    (hdb : (x == ("__debug__" : Str)) = false := by decide) (he : starEach (e :: es) X.env = (false, eval e X.env) :: starEach es X.env := by rfl) (hpl : (backTo pos (starEach es X.env)).any (·.1) = false := by rfl) :
    PE X (.Call (.Name x p) (e :: es) [] pos) (tCall sp [] E0 t) := by
  obtain ⟨f, fd, ps, F, hm, kp, b⟩ := c.ex
  exact pe_call F (hr.mono hk) hg hm kp b .nil pass0 ha hdb he hpl
/-- a def of the text as the top has left it -/
structure Df (K : PySem.W.Frag) (mg : Str → Option Value) (x : Str) (st : Stmt) (ps : List Str) : Prop where
  ex : ∃ (f : Addr) (fd : FuncData), Fun K x x st f fd ∧ mg x = some (.ref f) ∧ Binds K fd ps []
section
variable {P : Program} {w : World} {K : PySem.W.Frag} {mg : Str → Option Value} {base : Heap}
theorem Df.cl {x : Str} {st : Stmt} {ps N : List Str} {k : Nat} {sp : Sp} (D : Df K mg x st ps) (S : FnScope N ps (defScope st)) (len : ∀ vs H Q E, sp vs H Q E → vs.length = ps.length)
    (body : ∀ (f : Addr) (cdv : Value) (A : Around) (outer : List Env) (s : Shared) (H : Hp) (vs : List V) (Q : VK) (E : XK), Room k (A.deeper (envOfC x (defScope st) s.heap.objs.size f cdv)) → sp vs H Q E →
      ∃ t, PSs (cxOf CX0 P w K mg base N x (defScope st) f cdv A outer s H E).nox (defBody st) t ∧ t { nx := fun _ H' => Q .non H', rt := Q } (start N vs) H) : Cl P w K mg base (k + 1) x sp := by
  obtain ⟨f, fd, F, hm, b⟩ := D.ex
  exact ⟨f, fd, ps, F.ok S len (body f), hm, F.kp, b⟩
theorem Cl.mono {x : Str} {j k : Nat} {sp : Sp} (c : Cl P w K mg base j x sp) (h : j ≤ k) : Cl P w K mg base k x sp := by
  obtain ⟨f, fd, ps, F, hm, kp, b⟩ := c.ex
  exact ⟨f, fd, ps, F.mono h, hm, kp, b⟩
theorem PE.imp {X : Cx} {e : Expr} {t t' : TE} (h : PE X e t) (i : ∀ σ H Q, t' σ H Q → t σ H Q) : PE X e t' := ⟨fun pins s σ H Q I q => h.run pins s σ H Q I (i σ H Q q)⟩
end
/-- the built-ins that the text reads, still its own -/
structure Bu (mg : Str → Option Value) : Prop where
  isinstance : mg "isinstance" = none
  len : mg "len" = none
  all : mg "all" = none
  zip : mg "zip" = none
  sum : mg "sum" = none
  max : mg "max" = none
  min : mg "min" = none
  abs : mg "abs" = none
  enumerate : mg "enumerate" = none
  int : mg "int" = none
  bool : mg "bool" = none
  str : mg "str" = none
  range : mg "range" = none
  sorted : mg "sorted" = none
  list : mg "list" = none
  tuple : mg "tuple" = none

/-! ### isinstance of things -/
/-- what kind of thing it is -/
inductive Th (H : Hp) : V → String → Prop where
  | non : Th H .non "NoneType"
  | bl (b : Bool) : Th H (.bl b) "bool"
  | int (i : Int) : Th H (.int i) "int"
  | str (x : Str) : Th H (.str x) "str"
  | lst {a : Addr} {xs : List V} (e : H a = some (.lst xs)) : Th H (.ref a) "list"
  | tup {a : Addr} {xs : List V} (e : H a = some (.tup xs)) : Th H (.ref a) "tuple"
theorem Th.ty {K : PySem.W.Frag} {H : Hp} {x : V} {T : String} (h : Th H x T) : TyX K H x (.type T) := by
  cases h with
  | non => exact .base .non
  | bl b => exact .base (.bl b)
  | int i => exact .base (.int i)
  | str y => exact .base (.str y)
  | lst e => exact .base (.lst e)
  | tup e => exact .base (.tup e)
theorem Th.six {H : Hp} {x : V} {T : String} (h : Th H x T) : T ∈ ["NoneType", "bool", "int", "str", "list", "tuple"] := by
  cases h <;> decide
theorem Th.same {H H' : Hp} {x : V} {T : String} (h : Th H x T) (s : Same H H') : Th H' x T := by
  cases h with
  | non => exact .non
  | bl b => exact .bl b
  | int i => exact .int i
  | str y => exact .str y
  | lst e => exact .lst (s _ _ e)
  | tup e => exact .tup (s _ _ e)
def isK (T U : String) : Bool := T == U || (T == "bool" && U == "int")
theorem kit_six : ∀ T ∈ ["NoneType", "bool", "int", "str", "list", "tuple"], ∀ U ∈ ["int", "bool", "str", "list", "tuple"], kitB T U = some (isK T U) := by decide +kernel
def rTh : List V → Hp → VK → Prop := fun xs H Q => ∃ (x : V) (U T : String), xs = [x, .ty T] ∧ T ∈ ["int", "bool", "str", "list", "tuple"] ∧ Th H x U ∧ Q (.bl (isK U T)) H
theorem cr_isi {X : Cx} : CallR X (.builtin "isinstance") rTh := fun pins s σ H xs us Q I r h => by
  obtain ⟨x, U, T, e, hT, hx, q⟩ := h
  exact call_isi pins s σ H xs us Q I r ⟨x, .ty T, .type U, .type T, isK U T, e, .ty T, hx.ty, kit_ty (kit_six U hx.six T hT), q⟩
/-- isinstance(e, (tuple, list)), the tuple of classes made there -/
def rTh2 : List V → Hp → VK → Prop := fun xs H Q => ∃ (x : V) (U : String) (q : Addr), xs = [x, .ref q] ∧ H q = some (.tup [.ty "tuple", .ty "list"]) ∧ Th H x U ∧ Q (.bl (isK U "tuple" || isK U "list")) H
theorem cr_isi2 {X : Cx} : CallR X (.builtin "isinstance") rTh2 := fun pins s σ H xs us Q I r h => by
  obtain ⟨x, U, q, e, hq, hx, k⟩ := h
  refine call_isiT pins s σ H xs us Q I r ⟨x, q, [.ty "tuple", .ty "list"], .type U, [.type "tuple", .type "list"], isK U "tuple" || isK U "list", e, hq, .cons (.ty _) (.cons (.ty _) .nil), hx.ty, ?_, k⟩
  have h1 := kit_ty (K := X.K) (kit_six U hx.six "tuple" (by decide))
  have h2 := kit_ty (K := X.K) (kit_six U hx.six "list" (by decide))
  refine kitAny_cons h1 (fun z => ?_) (fun z => by rw [z]; rfl)
  rw [z, Bool.false_or]
  exact kitAny_cons h2 (fun y => by rw [y]; exact kitAny_nil) (fun y => y)
section
variable {X : Cx} {e c : Expr} {te tc : TE} {p pos : Pos}
theorem pe_isi (B : Bu X.mg) (he : PE X e te) (hc : PE X c tc) (hg : Gl X "isinstance" := by rfl) (ha : starEach [e, c] X.env = (false, eval e X.env) :: starEach [c] X.env := by rfl) (hb : starEach [c] X.env = (false, eval c X.env) :: starEach [] X.env := by rfl) (hpl : (backTo pos (starEach [c] X.env)).any (·.1) = false := by rfl) :
    PE X (.Call (.Name "isinstance" p) [e, c] [] pos) (tCB rTh (tCons te (tCons tc tNil))) :=
  pe_callB cr_isi hg B.isinstance PyProof.Rows.boot_isinstance (pa_cons he (pa_cons hc pa_nil hb) ha) (by decide) (by decide) ha hpl
theorem pe_isi2 (B : Bu X.mg) (he : PE X e te) (hc : PE X c tc) (hg : Gl X "isinstance" := by rfl) (ha : starEach [e, c] X.env = (false, eval e X.env) :: starEach [c] X.env := by rfl) (hb : starEach [c] X.env = (false, eval c X.env) :: starEach [] X.env := by rfl) (hpl : (backTo pos (starEach [c] X.env)).any (·.1) = false := by rfl) :
    PE X (.Call (.Name "isinstance" p) [e, c] [] pos) (tCB rTh2 (tCons te (tCons tc tNil))) :=
  pe_callB cr_isi2 hg B.isinstance PyProof.Rows.boot_isinstance (pa_cons he (pa_cons hc pa_nil hb) ha) (by decide) (by decide) ha hpl
/-- the classes by their names -/
theorem pe_tInt (B : Bu X.mg) (hg : Gl X "int" := by rfl) : PE X (.Name "int" pos) (tC (.ty "int")) := pe_bltn hg B.int (by decide +kernel) rfl
theorem pe_tBool (B : Bu X.mg) (hg : Gl X "bool" := by rfl) : PE X (.Name "bool" pos) (tC (.ty "bool")) := pe_bltn hg B.bool (by decide +kernel) rfl
theorem pe_tStr (B : Bu X.mg) (hg : Gl X "str" := by rfl) : PE X (.Name "str" pos) (tC (.ty "str")) := pe_bltn hg B.str (by decide +kernel) rfl
theorem pe_tList (B : Bu X.mg) (hg : Gl X "list" := by rfl) : PE X (.Name "list" pos) (tC (.ty "list")) := pe_bltn hg B.list (by decide +kernel) rfl
theorem pe_tTuple (B : Bu X.mg) (hg : Gl X "tuple" := by rfl) : PE X (.Name "tuple" pos) (tC (.ty "tuple")) := pe_bltn hg B.tuple (by decide +kernel) rfl
end
/-- a whole number within bounds -/
def isFrom (x : V) (lo hi : Int) : Bool := match x with
  | .int i => decide (lo ≤ i) && decide (i ≤ hi)
  | _ => false

/-! ### is_from -/
abbrev sIsFrom : Stmt := topS 8
theorem scIsFrom : FnScope ["thing", "low", "high"] ["thing", "low", "high"] (defScope sIsFrom) := ⟨rfl, rfl, rfl, by decide +kernel, rfl, by decide +kernel, by decide +kernel⟩
def spIsFrom : Sp := fun vs H Q _ => ∃ (x : V) (T : String) (lo hi : Int), vs = [x, .int lo, .int hi] ∧ Th H x T ∧ Q (.bl (isFrom x lo hi)) H
section
variable {P : Program} {w : World} {K : PySem.W.Frag} {mg : Str → Option Value} {base : Heap}
theorem ok_is_from (B : Bu mg) (D : Df K mg "is_from" sIsFrom ["thing", "low", "high"]) : Cl P w K mg base 1 "is_from" spIsFrom := by
  refine D.cl scIsFrom (fun vs H Q E h => ?_) fun f cdv A outer s H vs Q E hr h => ?_
  · obtain ⟨x, T, lo, hi, rfl, _⟩ := h
    rfl
  · obtain ⟨x, T, lo, hi, rfl, hx, q⟩ := h
    refine ⟨_, pss_one (ps_ret (pe_and (pe_isi B (pv 0) (pe_tInt B)) (pe_and (pe_not (pe_isi B (pv 0) (pe_tBool B))) (pe_one (pe_chain op_le op_le (pv 1) (pv 0) (pv 2)))))), ?_⟩
    refine ⟨x, rfl, x, T, "int", rfl, by decide, hx, _, rfl, ?_⟩
    cases hx with
    | int i =>
      refine iteT ⟨.int i, rfl, .int i, "int", "bool", rfl, by decide, .int i, _, rfl, _, rfl, iteT ?_⟩
      refine ⟨.int lo, rfl, .int i, rfl, lo, i, rfl, rfl, _, rfl, ite2 (fun e => ?_) (fun e => ?_)⟩
      · refine ⟨.int hi, rfl, i, hi, rfl, rfl, ?_⟩
        have e1 : isFrom (.int i) lo hi = decide (i ≤ hi) := by
          show (decide (lo ≤ i) && decide (i ≤ hi)) = _
          rw [e, Bool.true_and]
        show Q (.bl (decide (i ≤ hi))) H
        rw [← e1]
        exact q
      · have e1 : isFrom (.int i) lo hi = false := by
          show (decide (lo ≤ i) && decide (i ≤ hi)) = _
          rw [(Bool.eq_false_iff).mpr e, Bool.false_and]
        show Q (.bl false) H
        rw [← e1]
        exact q
    | non => exact iteF q
    | bl b => exact iteT ⟨.bl b, rfl, .bl b, "bool", "bool", rfl, by decide, .bl b, _, rfl, _, rfl, iteF q⟩
    | str y => exact iteF q
    | lst e => exact iteF q
    | tup e => exact iteF q
end
end K5
end
section
set_option Elab.async false
set_option linter.all false
set_option maxRecDepth 100000
set_option maxHeartbeats 4000000
/-! Walks, 1: how data lie; comprehensions that only make; the rules' own defs. -/
namespace K5
open PySem PySem.Spec PyProof.Rows L2
/-! ### heaps -/
theorem same_upd {H : Hp} {p : Addr} {o : HO} (h : H p = none) : Same H (upd H p o) := fun b x e => by
  rw [upd_ne (ne_of_none e h)]
  exact e
theorem _root_.L2.Same.upd {H H' : Hp} {p : Addr} {o : HO} (s : Same H H') (h : H' p = none) : Same H (L2.upd H' p o) := s.trans (same_upd h)
/-- all but lists is kept -/
def KeepT (H H' : Hp) : Prop := ∀ b x, (∀ l, x ≠ HO.lst l) → H b = some x → H' b = some x
theorem _root_.L2.Same.keepT {H H' : Hp} (s : Same H H') : KeepT H H' := fun b x _ e => s b x e
theorem KeepT.trans {H H1 H2 : Hp} (a : KeepT H H1) (b : KeepT H1 H2) : KeepT H H2 := fun c x n e => b c x n (a c x n e)
theorem keepT_lst {H : Hp} {D : Addr} {l m : List V} (h : H D = some (.lst l)) : KeepT H (upd H D (.lst m)) := fun b x n e => by
  by_cases z : b = D
  · rw [z, h] at e
    cases e
    exact absurd rfl (n l)
  · rw [upd_ne z]
    exact e
theorem walk_zipT {K : PySem.W.Frag} {a b : Addr} {xs ys : List V} {n : Nat} (hn : n = min xs.length ys.length) : Walk (RZ.ItzT K a b) n (fun H => SqT K H a xs ∧ SqT K H b ys) (YPair (fun i => xs[i]?) (fun i => ys[i]?)) := by
  subst hn
  refine ⟨fun i _ hi q => ?_, fun _ q => ⟨xs, ys, q.1, q.2, by omega⟩, fun i H v H' _ q y => ?_⟩
  · have h1 : i < xs.length := by omega
    have h2 : i < ys.length := by omega
    exact ⟨xs, ys, xs[i], ys[i], q.1, q.2, by simp [h1], by simp [h2]⟩
  · obtain ⟨T, x, z, h1, h2, h3, h4, h5⟩ := y
    exact ⟨T, x, z, h1, h2, h3, h4 xs q.1, h5 ys q.2⟩
theorem walk_enumT {K : PySem.W.Frag} {a : Addr} {xs : List V} : Walk (IteT K a) xs.length (fun H => SqT K H a xs) (YPair (fun i => some (.int (i : Nat))) (fun i => xs[i]?)) := by
  refine ⟨fun i _ hi q => ⟨xs, xs[i], q, by simp [hi]⟩, fun _ q => ⟨xs, q, rfl⟩, fun i H v H' _ q y => ?_⟩
  obtain ⟨T, x, h1, h2, h3, h4⟩ := y
  exact ⟨T, .int (i : Nat), x, h1, h2, h3, rfl, h4 xs q⟩
/-- a comprehension without a test that makes new things only; what each place holds is told by R -/
theorem lc_refs {J : It} {n : Nat} {G : Hp → Prop} {Y : Nat → Hp → V → Hp → Prop} (w : Walk J n G Y) {g : TG} {te : TE} {vs : List Nat} {σ : L2.St} {H1 : Hp} {D : Addr} {Qd : Hp → Prop} (R : Nat → V → Hp → Prop)
    (nD : H1 D = none) (hz : n ≤ sizeLine) (hG : ∀ H, Same H1 H → G H) (hR : ∀ i y H H', KeepT H H' → R i y H → R i y H')
    (hs : ∀ i x H H' (k : VK), i < n → Same H1 H → Y i H x H' → (∀ z H4, Same H H4 → R i z H4 → k z H4) → g x (wipe σ vs) H' fun σ2 H2 => wipe σ2 vs = wipe σ vs ∧ te σ2 H2 k)
    (hd : ∀ H ys, Same H1 H → H D = some (.lst ys) → ys.length = n → (∀ i y, ys[i]? = some y → R i y H) → Qd H) :
    ∃ W : Nat → Nat → Hp → Prop, (∃ m, W 0 m (upd H1 D (.lst []))) ∧ ∀ i m H, W i m H →
      (J.stop i H ∧ Qd H) ∨ (J.go i H ∧ ∃ Nx : Hp → Prop, (∀ H', Nx H' → ∃ m', m' < m ∧ W (i + 1) m' H') ∧ ∀ x H', J.yld i H x H' → g x (wipe σ vs) H' fun σ2 H2 => wipe σ2 vs = wipe σ vs ∧ tYes σ2 H2 fun b H3 =>
        if b = true then te σ2 H3 fun y H4 => ∃ acc, H4 D = some (.lst acc) ∧ acc.length < sizeLine ∧ Nx (upd H4 D (.lst (acc ++ [y]))) else Nx H3) := by
  refine lc_it w (fun i H => Same H1 H ∧ ∃ ys, H D = some (.lst ys) ∧ ys.length = i ∧ ∀ j y, ys[j]? = some y → R j y H) ⟨same_upd nD, [], upd_same, rfl, fun j y e => by cases e⟩ (fun i H _ p => hG H p.1) (fun i x H H' hi p y => ?_) fun H p => ?_
  · obtain ⟨s, ys, hD, hl, hr⟩ := p
    show g x (wipe σ vs) H' fun σ2 H2 => wipe σ2 vs = wipe σ vs ∧ te σ2 H2 _
    refine hs i x H H' _ hi s y fun z H4 s4 r4 => ?_
    refine ⟨ys, s4 _ _ hD, by omega, ?_, ys ++ [z], upd_same, by rw [List.length_append, hl]; rfl, fun j y' e => ?_⟩
    · intro b x' e
      have nb : b ≠ D := ne_of_none e nD
      rw [upd_ne nb]
      exact s4 _ _ (s _ _ e)
    · have kt : KeepT H4 (upd H4 D (.lst (ys ++ [z]))) := keepT_lst (s4 _ _ hD)
      by_cases hj : j < ys.length
      · rw [List.getElem?_append_left hj] at e
        exact hR j y' H _ ((Same.keepT s4).trans kt) (hr j y' e)
      · have ej : j = i := by
          have := (List.getElem?_eq_some_iff.mp e).1
          rw [List.length_append, List.length_singleton] at this
          omega
        subst ej
        rw [List.getElem?_append_right (by omega), hl, Nat.sub_self] at e
        have ez : z = y' := Option.some.inj e
        subst ez
        exact hR j z H4 _ kt r4
  · obtain ⟨s, ys, hD, hl, hr⟩ := p
    exact hd H ys s hD hl hr
/-- the same where each place's value is known -/
theorem lc_vals {J : It} {n : Nat} {G : Hp → Prop} {Y : Nat → Hp → V → Hp → Prop} (w : Walk J n G Y) {g : TG} {te : TE} {vs : List Nat} {σ : L2.St} {H1 : Hp} {D : Addr} {Qd : Hp → Prop} (ys : List V)
    (nD : H1 D = none) (hn : n = ys.length) (hz : n ≤ sizeLine) (hG : ∀ H, Same H1 H → G H)
    (hs : ∀ i x H H' y (k : VK), ys[i]? = some y → Same H1 H → Y i H x H' → (∀ H4, Same H H4 → k y H4) → g x (wipe σ vs) H' fun σ2 H2 => wipe σ2 vs = wipe σ vs ∧ te σ2 H2 k)
    (hd : ∀ H, Same H1 H → H D = some (.lst ys) → Qd H) :
    ∃ W : Nat → Nat → Hp → Prop, (∃ m, W 0 m (upd H1 D (.lst []))) ∧ ∀ i m H, W i m H →
      (J.stop i H ∧ Qd H) ∨ (J.go i H ∧ ∃ Nx : Hp → Prop, (∀ H', Nx H' → ∃ m', m' < m ∧ W (i + 1) m' H') ∧ ∀ x H', J.yld i H x H' → g x (wipe σ vs) H' fun σ2 H2 => wipe σ2 vs = wipe σ vs ∧ tYes σ2 H2 fun b H3 =>
        if b = true then te σ2 H3 fun y H4 => ∃ acc, H4 D = some (.lst acc) ∧ acc.length < sizeLine ∧ Nx (upd H4 D (.lst (acc ++ [y]))) else Nx H3) := by
  refine lc_refs w (fun i y _ => ys[i]? = some y) nD hz hG (fun _ _ _ _ _ r => r) (fun i x H H' k hi s y hk => ?_) fun H zs s hD hl hr => hd H s ?_
  · have hlt : i < ys.length := by omega
    exact hs i x H H' ys[i] k (List.getElem?_eq_getElem hlt) s y fun H4 s4 => hk _ _ s4 (List.getElem?_eq_getElem hlt)
  · have e : zs = ys := by
      refine List.ext_getElem? fun i => ?_
      by_cases hlt : i < zs.length
      · rw [hr i zs[i] (List.getElem?_eq_getElem hlt), List.getElem?_eq_getElem hlt]
      · rw [List.getElem?_eq_none (by omega), List.getElem?_eq_none (by omega)]
    rw [← e]
    exact hD
end K5
end
section
set_option Elab.async false
set_option linter.all false
set_option maxRecDepth 100000
set_option maxHeartbeats 4000000
/-! Walks, 2: the rules' own defs. -/
namespace K5
open PySem PySem.Spec PyProof.Rows L2
/-! ### how rules and told rows lie -/
def ruV (r : Rule) : List V := [.int r.1, .int r.2.1, .int r.2.2]
def RulesAt (H : Hp) (a : Addr) (rs : List Rule) : Prop := ∃ as : List Addr, as.length = rs.length ∧ H a = some (.tup (as.map V.ref)) ∧ ∀ (i : Nat) b r, as[i]? = some b → rs[i]? = some r → H b = some (.tup (ruV r))
def toV : Option Int → V
  | none => .non
  | some i => .int i
def ToldAt (H : Hp) (a : Addr) (ts : List (Option Int)) : Prop := H a = some (.tup (ts.map toV))
theorem RulesAt.same {H H' : Hp} {a : Addr} {rs : List Rule} (h : RulesAt H a rs) (s : Same H H') : RulesAt H' a rs := by
  obtain ⟨as, h1, h2, h3⟩ := h
  exact ⟨as, h1, s _ _ h2, fun i b r e1 e2 => s _ _ (h3 i b r e1 e2)⟩
theorem ToldAt.same {H H' : Hp} {a : Addr} {ts : List (Option Int)} (h : ToldAt H a ts) (s : Same H H') : ToldAt H' a ts := s _ _ h
theorem at_map {A B : Type} {f : A → B} {l : List A} {i : Nat} {y : B} (h : (l.map f)[i]? = some y) : ∃ x, l[i]? = some x ∧ f x = y := by
  rw [List.getElem?_map] at h
  cases e : l[i]? with
  | none =>
    rw [e] at h
    cases h
  | some x =>
    rw [e] at h
    exact ⟨x, rfl, Option.some.inj h⟩
theorem map_at {A B : Type} {f : A → B} {l : List A} {i : Nat} {x : A} (h : l[i]? = some x) : (l.map f)[i]? = some (f x) := by
  rw [List.getElem?_map, h]
  rfl
theorem at_lt {A : Type} {l : List A} {i : Nat} {x : A} (h : l[i]? = some x) : i < l.length := (List.getElem?_eq_some_iff.mp h).1
theorem lt_at {A : Type} {l : List A} {i : Nat} (h : i < l.length) : ∃ x, l[i]? = some x ∧ x ∈ l := ⟨l[i], List.getElem?_eq_getElem h, List.getElem_mem h⟩
/-- the i-th rule in its place -/
theorem rule_at {as : List Addr} {rs : List Rule} {i : Nat} {y : V} (hl : as.length = rs.length) (h : (as.map V.ref)[i]? = some y) : ∃ b r, y = .ref b ∧ as[i]? = some b ∧ rs[i]? = some r ∧ r ∈ rs := by
  obtain ⟨b, e, rfl⟩ := at_map h
  obtain ⟨r, er, hm⟩ := lt_at (show i < rs.length by rw [← hl]; exact at_lt e)
  exact ⟨b, r, rfl, e, er, hm⟩
theorem isFrom_int {i lo hi : Int} (h1 : lo ≤ i) (h2 : i ≤ hi) : isFrom (.int i) lo hi = true := by
  show (decide (lo ≤ i) && decide (i ≤ hi)) = true
  rw [decide_eq_true h1, decide_eq_true h2]
  rfl
theorem sizeL {n : Nat} (h : n ≤ 1000) : n ≤ sizeLine := Nat.le_of_lt (small1000 h)
theorem qT {Q : VK} {H : Hp} {b : Bool} (e : b = true) (q : Q (.bl true) H) : Q (.bl b) H := by
  rw [e]
  exact q
theorem qF {Q : VK} {H : Hp} {b : Bool} (e : b = false) (q : Q (.bl false) H) : Q (.bl b) H := by
  rw [e]
  exact q
theorem qI {Q : VK} {H : Hp} {i j : Int} (e : i = j) (q : Q (.int j) H) : Q (.int i) H := by
  rw [e]
  exact q
/-- a test by values whose outcome is known -/
theorem teT {A B : Prop} {b : Bool} (e : b = true) (h : A) : if b = true then A else B := by
  rw [e]
  exact iteT h
theorem teF {A B : Prop} {b : Bool} (e : b = false) (h : B) : if b = true then A else B := by
  rw [e]
  exact iteF h
/-! ### rules by K, for what stands within a comprehension -/
theorem ix_tupK {X : Cx} {K : PySem.W.Frag} (h : X.K = K) : IxR X (rIxT K) := h ▸ ix_tup
theorem ix_listK {X : Cx} {K : PySem.W.Frag} (h : X.K = K) : IxR X (rIxL K) := h ▸ ix_list
theorem op_catAK {X : Cx} {K : PySem.W.Frag} (h : X.K = K) : OpR X (binaryOp .Add) (rCatA K) := h ▸ op_catA
def rLenS (K : PySem.W.Frag) : List V → Hp → VK → Prop := fun xs H Q => ∃ p ys, xs = [.ref p] ∧ (SqL K H p ys ∨ SqT K H p ys) ∧ Q (.int ys.length) H
theorem call_len_seqK {X : Cx} {K : PySem.W.Frag} (h : X.K = K) : CallR X (.builtin "len") (rLenS K) := by
  subst h
  exact call_len_seq
theorem walk_tupN {K : PySem.W.Frag} {a : Addr} {xs : List V} {n : Nat} (h : n = xs.length) : Walk (Itt K a) n (fun H => SqT K H a xs) (YAt xs) := by
  subst h
  exact walk_tup
theorem walk_listN {K : PySem.W.Frag} {a : Addr} {xs : List V} {n : Nat} (h : n = xs.length) : Walk (Itl K a) n (fun H => SqL K H a xs) (YAt xs) := by
  subst h
  exact walk_list
theorem cut1 (xs : List V) : cutV xs (some 1) none = xs.drop 1 := by
  unfold cutV
  rw [show HT.sIx xs.length 0 (some 1) = min 1 xs.length from HT.sIx_nat xs.length 0 1, HT.sIx_none]
  cases xs with
  | nil => rfl
  | cons x r =>
    rw [show min 1 (x :: r).length = 1 by
      rw [List.length_cons]
      omega]
    show (List.take ((x :: r).length - 1) r) = r
    rw [List.length_cons, Nat.add_sub_cancel]
    exact List.take_length
section
variable {P : Program} {w : World} {K : PySem.W.Frag} {mg : Str → Option Value} {base : Heap}
/-! ### is_rule -/
abbrev s_is_rule : Stmt := topS 9
theorem sc_is_rule : FnScope ["thing"] ["thing"] (defScope s_is_rule) := ⟨rfl, rfl, rfl, by decide +kernel, rfl, by decide +kernel, by decide +kernel⟩
def spIsRule : Sp := fun vs H Q _ => ∃ (b : Addr) (r : Rule), vs = [.ref b] ∧ H b = some (.tup (ruV r)) ∧ RuleOk r ∧ Q (.bl true) H
theorem ok_is_rule (B : Bu mg) {u : Tok} (gS : mg "MOST_SPAN" = some (.int 8 u)) (D : Df K mg "is_rule" s_is_rule ["thing"]) (c_is_from : Cl P w K mg base 1 "is_from" spIsFrom) : Cl P w K mg base 2 "is_rule" spIsRule := by
  refine D.cl sc_is_rule (fun vs H Q E h => ?_) fun f cdv A outer s H vs Q E hr h => ?_
  · obtain ⟨b, r, rfl, _⟩ := h
    rfl
  · obtain ⟨b, r, rfl, hb, ho, q⟩ := h
    obtain ⟨h1, h2, h3, h4⟩ := ho
    refine ⟨_, (pss_cons (ps_if (PW.pt (pw_or (pt_not (pt_val (pe_isi B (pv 0) (pe_tTuple B)))) (pw_or (pt_cmpR op_ne (pe_callB call_len_seq (by rfl) B.len PySem.boot_len (pa_cons (pv 0) pa_nil)) pe_int (nomark _)) (pw_or1 (pt_not (pt_val (pe_cl c_is_from hr (by decide) (by rfl) (pa_cons (pe_ix ix_tup (pv 0) pe_int (fun _ _ => rfl)) (pa_cons pe_int (pa_cons (pe_glob (v := .int 8) (by rfl) gS ⟨_, rfl⟩) pa_nil))))))))))
        (pss_one (ps_ret pe_bl))
        pss_nil)
      (pss_one (ps_ret (pe_and (pe_cl c_is_from hr (by decide) (by rfl) (pa_cons (pe_ix ix_tup (pv 0) pe_int (fun _ _ => rfl)) (pa_cons pe_int (pa_cons (pe_ix ix_tup (pv 0) pe_int (fun _ _ => rfl)) pa_nil)))) (pe_one (pe_cl c_is_from hr (by decide) (by rfl) (pa_cons (pe_ix ix_tup (pv 0) pe_int (fun _ _ => rfl)) (pa_cons pe_int (pa_cons (pe_ix ix_tup (pv 0) pe_int (fun _ _ => rfl)) pa_nil))))))))), ?_⟩
    refine ⟨.ref b, rfl, .ref b, "tuple", "tuple", rfl, by decide, .tup hb, _, rfl, iteF ?_⟩
    refine ⟨.ref b, rfl, b, _, rfl, .inr (.of hb), rfl, _, rfl, iteF ?_⟩
    refine ⟨.ref b, rfl, b, _, 0, _, rfl, rfl, .of hb, atI_nat (j := 0) rfl, _, _, _, _, rfl, .int _, ?_⟩
    rw [isFrom_int (by omega) (by omega)]
    refine ⟨_, rfl, iteF ?_⟩
    refine ⟨.ref b, rfl, b, _, 2, _, rfl, rfl, .of hb, atI_nat (j := 2) rfl, .ref b, rfl, b, _, 0, _, rfl, rfl, .of hb, atI_nat (j := 0) rfl, _, _, _, _, rfl, .int _, ?_⟩
    rw [isFrom_int (by omega) (by omega)]
    refine ⟨_, rfl, iteT ?_⟩
    refine ⟨.ref b, rfl, b, _, 1, _, rfl, rfl, .of hb, atI_nat (j := 1) rfl, .ref b, rfl, b, _, 2, _, rfl, rfl, .of hb, atI_nat (j := 2) rfl, _, _, _, _, rfl, .int _, ?_⟩
    rw [isFrom_int (by omega) (by omega)]
    exact q
/-! ### are_rules -/
abbrev s_are_rules : Stmt := topS 10
theorem sc_are_rules : FnScope ["thing", "one", "other"] ["thing"] (defScope s_are_rules) := ⟨rfl, rfl, rfl, by decide +kernel, rfl, by decide +kernel, by decide +kernel⟩
def spRules (v : V) : Sp := fun vs H Q _ => ∃ (a : Addr) (rs : List Rule), vs = [.ref a] ∧ RulesAt H a rs ∧ RulesOk rs ∧ ∀ H', Same H H' → Q v H'
theorem ok_are_rules (B : Bu mg) {u : Tok} (gR : mg "MOST_RULES" = some (.int 5 u)) (D : Df K mg "are_rules" s_are_rules ["thing"]) (c_is_rule : Cl P w K mg base 2 "is_rule" spIsRule) : Cl P w K mg base 3 "are_rules" (spRules (.bl true)) := by
  refine D.cl sc_are_rules (fun vs H Q E h => ?_) fun f cdv A outer s H vs Q E hr h => ?_
  · obtain ⟨a, rs, rfl, _⟩ := h
    rfl
  · obtain ⟨a, rs, rfl, hR, ho, q⟩ := h
    obtain ⟨as, hl, ha, hrs⟩ := id hR
    have hlen : 1 ≤ rs.length := List.length_pos_iff.mpr ho.ne
    have hfew := ho.few
    refine ⟨_, (pss_cons (ps_if (PW.pt (pw_or (pt_not (pt_val (pe_isi B (pv 0) (pe_tTuple B)))) (pw_or (pt_not (pt_chain op_le op_le pe_int (pe_callB call_len_seq (by rfl) B.len PySem.boot_len (pa_cons (pv 0) pa_nil)) (pe_glob (v := .int 5) (by rfl) gR ⟨_, rfl⟩))) (pw_or1 (pt_not (pt_val (pe_callB (cr_all rfl) (by rfl) B.all (by decide +kernel) (pa_cons (pe_lc (own := [("one", 1)]) (g := gName 1) (tt := tYes) rfl sc_are_rules.nd (pi_tup (pv 0)) (blkOk_by (N := ["thing", "one", "other"]) (sc := defScope s_are_rules) (by decide +kernel)) (fun _ _ _ _ _ => pg_name (i := 1) sc_are_rules.nd rfl (.inl rfl)) (fun _ _ _ _ _ => pts_nil) (fun _ _ _ _ _ => (pe_cl c_is_rule hr (by decide) (by rfl) (pa_cons (pv 1) pa_nil)))) pa_nil))))))))
        (pss_one (ps_ret pe_bl))
        pss_nil)
      (pss_one (ps_ret (pe_callB (cr_all rfl) (by rfl) B.all (by decide +kernel) (pa_cons (pe_lc (own := [("one", 1), ("other", 2)]) (g := gTup K 2 (gCons (gName 1) (gCons (gName 2) gNil))) (tt := tYes) rfl sc_are_rules.nd (RZ.pi_zipA (by rfl) B.zip (pa_cons (pv 0) (pa_cons (pe_slice sl_tupA (pv 0) (po_some pe_int) po_none) pa_nil))) (blkOk_by (N := ["thing", "one", "other"]) (sc := defScope s_are_rules) (by decide +kernel)) (fun _ _ _ _ _ => (pg_tup rfl (pgs_cons (pg_name (i := 1) sc_are_rules.nd rfl (.inl rfl)) (pgs_cons (pg_name (i := 2) sc_are_rules.nd rfl (.inl rfl)) pgs_nil)))) (fun _ _ _ _ _ => pts_nil) (fun _ _ _ _ _ => (pe_cmpR op_lt (pe_ix (ix_tupK (K := K) rfl) (pv 1) pe_int (fun _ _ => rfl)) (pe_ix (ix_tupK (K := K) rfl) (pv 2) pe_int (fun _ _ => rfl)) (nomark _)))) pa_nil))))), ?_⟩
    refine ⟨.ref a, rfl, .ref a, "tuple", "tuple", rfl, by decide, .tup ha, _, rfl, iteF ?_⟩
    refine ⟨.ref a, rfl, a, _, rfl, .inr (.of ha), 1, _, rfl, rfl, _, rfl, ?_⟩
    have e1 : decide ((1 : Int) ≤ (((as.map V.ref).length : Nat) : Int)) = true := decide_eq_true (by rw [List.length_map]; omega)
    have e2 : decide ((((as.map V.ref).length : Nat) : Int) ≤ 5) = true := decide_eq_true (by rw [List.length_map]; omega)
    rw [e1]
    refine iteT ⟨_, _, rfl, rfl, _, rfl, ?_⟩
    rw [e2]
    refine iteF ?_
    -- the first list
    refine ⟨.ref a, rfl, a, rfl, ⟨_, .of ha⟩, fun D hD => lc_vals (walk_tupN (n := rs.length) (xs := as.map V.ref) (by rw [List.length_map, hl])) (rs.map fun _ => V.bl true) hD (by rw [List.length_map]) (sizeL (by omega)) (fun H' s' => SqT.of (s' _ _ ha)) (fun i x H3 H4 y k hy s3 hx hk => ?_) fun H3 s3 h3 => ?_⟩
    · obtain ⟨rfl, hx⟩ := hx
      obtain ⟨b, r, rfl, eb, er, hm⟩ := rule_at hl hx
      obtain ⟨r', _, rfl⟩ := at_map hy
      exact ⟨rfl, .ref b, rfl, b, r, rfl, s3 _ _ (hrs i b r eb er), ho.each r hm, hk H4 (Same.refl H4)⟩
    refine ⟨D, rs.map fun _ => true, rfl, .of (by rw [h3, List.map_map]; rfl), ?_⟩
    have e3 : (rs.map fun _ => true).all id = true := by rw [List.all_map, List.all_eq_true]; exact fun _ _ => rfl
    rw [e3]
    refine ⟨_, rfl, iteF ?_⟩
    -- the second
    have ha3 : H3 a = some (.tup (as.map V.ref)) := s3 _ _ ha
    refine ⟨.ref a, rfl, .ref a, rfl, 1, rfl, a, as.map V.ref, rfl, .of ha3, fun z => ?_, fun _ c nc => ?_⟩
    · exfalso
      have z1 := z.1
      rw [show HT.sIx (as.map V.ref).length 0 (some 1) = min 1 (as.map V.ref).length from HT.sIx_nat _ 0 1, List.length_map] at z1
      omega
    rw [cut1]
    have s4 : Same H3 (upd H3 c (.tup ((as.map V.ref).drop 1))) := same_upd nc
    refine ⟨a, c, as.map V.ref, (as.map V.ref).drop 1, rfl, .inr ⟨.of (s4 _ _ ha3), .of upd_same, fun D2 hD2 => ?_⟩⟩
    refine lc_vals (walk_zipT (n := rs.length - 1) (xs := as.map V.ref) (ys := (as.map V.ref).drop 1) (by rw [List.length_drop, List.length_map]; omega)) ((List.range (rs.length - 1)).map fun _ => V.bl true) hD2 (by rw [List.length_map, List.length_range]) (sizeL (by omega)) (fun H' s' => ⟨SqT.of (s' _ _ (s4 _ _ ha3)), SqT.of (s' _ _ upd_same)⟩) (fun i x H5 H6 y k hy s5 hx hk => ?_) fun H5 s5 h5 => ?_
    · obtain ⟨T, x1, x2, rfl, nT, rfl, e1, e2⟩ := hx
      have e1 : (as.map V.ref)[i]? = some x1 := e1
      have e2 : ((as.map V.ref).drop 1)[i]? = some x2 := e2
      rw [List.getElem?_drop] at e2
      obtain ⟨b1, r1, rfl, eb1, er1, hm1⟩ := rule_at hl e1
      obtain ⟨b2, r2, rfl, eb2, er2, hm2⟩ := rule_at hl e2
      have t5 : Same H (upd H5 T (.tup [.ref b1, .ref b2])) := ((s3.trans s4).trans s5).trans (same_upd nT)
      have g1 := t5 _ _ (hrs i b1 r1 eb1 er1)
      have g2 := t5 _ _ (hrs (1 + i) b2 r2 eb2 er2)
      have lt : r1.1 < r2.1 := by
        have z := List.pairwise_iff_getElem.mp ho.up i (1 + i) (at_lt er1) (at_lt er2) (by omega)
        rw [(List.getElem?_eq_some_iff.mp er1).2, (List.getElem?_eq_some_iff.mp er2).2] at z
        exact z
      obtain ⟨_, _, rfl⟩ := at_map hy
      refine ⟨T, [.ref b1, .ref b2], rfl, .of upd_same, rfl, _, _, rfl, _, _, rfl, rfl, rfl, ?_⟩
      refine ⟨_, rfl, b1, _, 0, _, rfl, rfl, .of g1, atI_nat (j := 0) rfl, _, rfl, b2, _, 0, _, rfl, rfl, .of g2, atI_nat (j := 0) rfl, _, _, rfl, rfl, ?_⟩
      exact qT (Q := k) (decide_eq_true (show (r1.1 : Int) < (r2.1 : Int) by omega)) (hk _ (same_upd nT))
    refine ⟨D2, (List.range (rs.length - 1)).map fun _ => true, rfl, .of (by rw [h5, List.map_map]; rfl), ?_⟩
    rw [show ((List.range (rs.length - 1)).map fun _ => true).all id = true by rw [List.all_map, List.all_eq_true]; exact fun _ _ => rfl]
    exact q _ ((s3.trans s4).trans s5)
/-! ### need_rules -/
abbrev s_need_rules : Stmt := topS 11
theorem sc_need_rules : FnScope ["rules"] ["rules"] (defScope s_need_rules) := ⟨rfl, rfl, rfl, by decide +kernel, rfl, by decide +kernel, by decide +kernel⟩
theorem ok_need_rules (D : Df K mg "need_rules" s_need_rules ["rules"]) (c_are_rules : Cl P w K mg base 3 "are_rules" (spRules (.bl true))) : Cl P w K mg base 4 "need_rules" (spRules .non) := by
  refine D.cl sc_need_rules (fun vs H Q E h => ?_) fun f cdv A outer s H vs Q E hr h => ?_
  · obtain ⟨a, rs, rfl, _⟩ := h
    rfl
  · obtain ⟨a, rs, rfl, hR, ho, q⟩ := h
    refine ⟨_, (pss_one (ps_if (pt_not (pt_val (pe_cl c_are_rules hr (by decide) (by rfl) (pa_cons (pv 0) pa_nil))))
        pss_never
        pss_nil)), ?_⟩
    refine ⟨.ref a, rfl, a, rs, rfl, hR, ho, fun H' s' => ⟨_, rfl, iteF ?_⟩⟩
    exact q H' s'
/-! ### need_told -/
abbrev s_need_told : Stmt := topS 12
theorem sc_need_told : FnScope ["told", "place"] ["told"] (defScope s_need_told) := ⟨rfl, rfl, rfl, by decide +kernel, rfl, by decide +kernel, by decide +kernel⟩
def spTold : Sp := fun vs H Q _ => ∃ (a : Addr) (ts : List (Option Int)), vs = [.ref a] ∧ ToldAt H a ts ∧ ToldOk ts ∧ ∀ H', Same H H' → Q .non H'
theorem ok_need_told (B : Bu mg) {u : Tok} (gP : mg "MOST_PLACES" = some (.int 120 u)) (D : Df K mg "need_told" s_need_told ["told"]) (c_is_from : Cl P w K mg base 1 "is_from" spIsFrom) : Cl P w K mg base 2 "need_told" spTold := by
  refine D.cl sc_need_told (fun vs H Q E h => ?_) fun f cdv A outer s H vs Q E hr h => ?_
  · obtain ⟨a, ts, rfl, _⟩ := h
    rfl
  · obtain ⟨a, ts, rfl, ha, ho, q⟩ := h
    have hfew := ho.few
    refine ⟨_, (pss_cons (ps_if (PW.pt (pw_or (pt_not (pt_val (pe_isi B (pv 0) (pe_tTuple B)))) (pw_or1 (pt_cmpR op_gt (pe_callB call_len_seq (by rfl) B.len PySem.boot_len (pa_cons (pv 0) pa_nil)) (pe_glob (v := .int 120) (by rfl) gP ⟨_, rfl⟩) (nomark _)))))
        pss_never
        pss_nil)
      (pss_one (ps_if (pt_not (pt_val (pe_callB (cr_all rfl) (by rfl) B.all (by decide +kernel) (pa_cons (pe_lc (own := [("place", 1)]) (g := gName 1) (tt := tYes) rfl sc_need_told.nd (pi_tup (pv 0)) (blkOk_by (N := ["told", "place"]) (sc := defScope s_need_told) (by decide +kernel)) (fun _ _ _ _ _ => pg_name (i := 1) sc_need_told.nd rfl (.inl rfl)) (fun _ _ _ _ _ => pts_nil) (fun _ _ _ _ _ => (pe_or (pe_cmpR op_isN (pv 1) pe_non (nomark _)) (pe_one (pe_cl c_is_from hr (by decide) (by rfl) (pa_cons (pv 1) (pa_cons pe_int (pa_cons pe_int pa_nil)))))))) pa_nil))))
        pss_never
        pss_nil))), ?_⟩
    refine ⟨.ref a, rfl, .ref a, "tuple", "tuple", rfl, by decide, .tup ha, _, rfl, iteF ?_⟩
    refine ⟨.ref a, rfl, a, _, rfl, .inr (.of ha), _, _, rfl, rfl, _, rfl, ?_⟩
    rw [decide_eq_false (show ¬ (120 : Int) < (((ts.map toV).length : Nat) : Int) by rw [List.length_map]; omega)]
    refine iteF ?_
    refine ⟨.ref a, rfl, a, rfl, ⟨_, .of ha⟩, fun D hD => lc_vals (walk_tupN (n := ts.length) (xs := ts.map toV) (by rw [List.length_map])) (ts.map fun _ => V.bl true) hD (by rw [List.length_map]) (sizeL (by omega)) (fun H' s' => SqT.of (s' _ _ ha)) (fun i x H3 H4 y k hy s3 hx hk => ?_) fun H3 s3 h3 => ?_⟩
    · obtain ⟨rfl, hx⟩ := hx
      obtain ⟨o, eo, rfl⟩ := at_map hx
      obtain ⟨_, _, rfl⟩ := at_map hy
      refine ⟨rfl, toV o, rfl, rfl, ?_⟩
      rcases ho.each o (List.mem_of_getElem? eo) with rfl | rfl | rfl
      · exact ⟨_, rfl, iteT (hk _ (Same.refl _))⟩
      · exact ⟨_, rfl, iteF ⟨.int 0, rfl, .int 0, _, _, _, rfl, .int _, hk _ (Same.refl _)⟩⟩
      · exact ⟨_, rfl, iteF ⟨.int 1, rfl, .int 1, _, _, _, rfl, .int _, hk _ (Same.refl _)⟩⟩
    refine ⟨D, ts.map fun _ => true, rfl, .of (by rw [h3, List.map_map]; rfl), ?_⟩
    rw [show (ts.map fun _ => true).all id = true by rw [List.all_map, List.all_eq_true]; exact fun _ _ => rfl]
    exact ⟨_, rfl, iteF (q _ s3)⟩
/-! ### need_both -/
abbrev s_need_both : Stmt := topS 20
theorem sc_need_both : FnScope ["rules", "told"] ["rules", "told"] (defScope s_need_both) := ⟨rfl, rfl, rfl, by decide +kernel, rfl, by decide +kernel, by decide +kernel⟩
def spBoth (v : V) : Sp := fun vs H Q _ => ∃ (a b : Addr) (rs : List Rule) (ts : List (Option Int)), vs = [.ref a, .ref b] ∧ RulesAt H a rs ∧ RulesOk rs ∧ ToldAt H b ts ∧ ToldOk ts ∧ ∀ H', Same H H' → Q v H'
theorem ok_need_both (D : Df K mg "need_both" s_need_both ["rules", "told"]) (c_need_rules : Cl P w K mg base 4 "need_rules" (spRules .non)) (c_need_told : Cl P w K mg base 2 "need_told" spTold) : Cl P w K mg base 5 "need_both" (spBoth .non) := by
  refine D.cl sc_need_both (fun vs H Q E h => ?_) fun f cdv A outer s H vs Q E hr h => ?_
  · obtain ⟨a, b, rs, ts, rfl, _⟩ := h
    rfl
  · obtain ⟨a, b, rs, ts, rfl, hR, ho, hT, hto, q⟩ := h
    refine ⟨_, (pss_cons (ps_expr (pe_cl c_need_rules hr (by decide) (by rfl) (pa_cons (pv 0) pa_nil)))
      (pss_one (ps_expr (pe_cl c_need_told hr (by decide) (by rfl) (pa_cons (pv 1) pa_nil))))), ?_⟩
    exact ⟨.ref a, rfl, a, rs, rfl, hR, ho, fun H' s' => ⟨.ref b, rfl, b, ts, rfl, hT.same s', hto, fun H2 s2 => q H2 (s'.trans s2)⟩⟩
/-! ### widest -/
abbrev s_widest : Stmt := topS 13
theorem sc_widest : FnScope ["rules"] ["rules"] (defScope s_widest) := ⟨rfl, rfl, rfl, by decide +kernel, rfl, by decide +kernel, by decide +kernel⟩
def spWidest : Sp := fun vs H Q _ => ∃ (a : Addr) (rs : List Rule), vs = [.ref a] ∧ RulesAt H a rs ∧ rs ≠ [] ∧ Q (.int (wide rs)) H
theorem ok_widest (D : Df K mg "widest" s_widest ["rules"]) : Cl P w K mg base 1 "widest" spWidest := by
  refine D.cl sc_widest (fun vs H Q E h => ?_) fun f cdv A outer s H vs Q E hr h => ?_
  · obtain ⟨a, rs, rfl, _⟩ := h
    rfl
  · obtain ⟨a, rs, rfl, ⟨as, hl, ha, hrs⟩, hne, q⟩ := h
    refine ⟨_, (pss_one (ps_ret (pe_ix ix_tup (pe_ix ix_tup (pv 0) (pe_un un_neg pe_int) (fun _ _ => rfl)) pe_int (fun _ _ => rfl)))), ?_⟩
    obtain ⟨init, r, rfl⟩ : ∃ init z, rs = init ++ [z] := ⟨rs.dropLast, rs.getLast hne, (List.dropLast_concat_getLast hne).symm⟩
    have hne2 : as ≠ [] := fun z => by
      rw [z, List.length_append] at hl
      cases hl
    obtain ⟨inia, b, rfl⟩ : ∃ init z, as = init ++ [z] := ⟨as.dropLast, as.getLast hne2, (List.dropLast_concat_getLast hne2).symm⟩
    rw [List.length_append, List.length_append] at hl
    have hl2 : inia.length = init.length := by simpa using hl
    have hb := hrs init.length b r (by rw [← hl2, List.getElem?_concat_length]) (by rw [List.getElem?_concat_length])
    rw [List.map_append] at ha
    have ew : wide (init ++ [r]) = r.1 := by
      unfold wide
      rw [List.getLast?_concat]
      rfl
    refine ⟨.ref a, rfl, 1, rfl, a, _, -1, .ref b, rfl, rfl, .of ha, atI_last _ _, b, _, 0, _, rfl, rfl, .of hb, atI_nat (j := 0) rfl, ?_⟩
    rw [ew] at q
    exact q
end
end K5
end
section
set_option Elab.async false
set_option linter.all false
set_option maxRecDepth 100000
set_option maxHeartbeats 4000000
/-! Walks, 3: whether a place breaks a rule; the last places; the places that may come. -/
namespace K5
open PySem PySem.Spec PyProof.Rows L2
theorem cutN (xs : List V) (k : Nat) : cutV xs (some (k : Int)) none = xs.drop k := by
  unfold cutV
  rw [show HT.sIx xs.length 0 (some (k : Int)) = min k xs.length from HT.sIx_nat xs.length 0 k, HT.sIx_none]
  by_cases h : k ≤ xs.length
  · rw [Nat.min_eq_left h, List.take_of_length_le (by rw [List.length_drop]; omega)]
  · rw [Nat.min_eq_right (by omega), List.drop_of_length_le (Nat.le_refl _), List.drop_of_length_le (by omega), List.take_nil]
theorem sIx_k (n k : Nat) : HT.sIx n 0 (some (k : Int)) = min k n := HT.sIx_nat n 0 k
/-- a slice of a tuple from some place on -/
theorem slA {K : PySem.W.Frag} {H : Hp} {t : Addr} {xs : List V} {lo : Int} {σ : L2.St} (k : Nat) {X : VK} (e : lo = (k : Int)) (ht : H t = some (.tup xs)) (h : ∀ c H5, Same H H5 → H5 c = some (.tup (xs.drop k)) → X (.ref c) H5) : tNoPart σ H (fun u H3 => rSlA K (.ref t) (some lo) u H3 X) := by
  subst e
  refine ⟨t, xs, rfl, .of ht, fun z => ?_, fun _ p np => ?_⟩
  · have z1 := z.1
    rw [sIx_k] at z1
    refine h t H (Same.refl H) ?_
    rw [show xs.drop k = xs from by
      rcases Nat.eq_zero_or_pos k with e | e
      · rw [e]; rfl
      · rw [show xs = [] from List.length_eq_zero_iff.mp (by omega), List.drop_nil]]
    exact ht
  · rw [cutN]
    exact h p _ (same_upd np) upd_same
theorem catA {K : PySem.W.Frag} {H : Hp} {a b : Addr} {xs ys : List V} {X : VK} (ha : H a = some (.tup xs)) (hb : H b = some (.tup ys)) (hz : xs.length + ys.length ≤ sizeLine) (h : ∀ c H5, Same H H5 → H5 c = some (.tup (xs ++ ys)) → X (.ref c) H5) : rCatA K (.ref a) (.ref b) H X := by
  refine ⟨a, b, xs, ys, rfl, rfl, .of ha, .of hb, hz, fun e => ?_, fun _ e => ?_, fun _ _ p np => h p _ (same_upd np) upd_same⟩
  · subst e
    exact h b H (Same.refl H) hb
  · subst e
    exact h a H (Same.refl H) (by rw [List.append_nil]; exact ha)
section
variable {P : Program} {w : World} {K : PySem.W.Frag} {mg : Str → Option Value} {base : Heap}
/-! ### broken_by -/
abbrev s_broken_by : Stmt := topS 14
theorem sc_broken_by : FnScope ["rules", "tail", "place", "span", "least", "most", "count"] ["rules", "tail", "place"] (defScope s_broken_by) := ⟨rfl, rfl, rfl, by decide +kernel, rfl, by decide +kernel, by decide +kernel⟩
def spBroken : Sp := fun vs H Q _ => ∃ (a t : Addr) (p : Int) (rs : List Rule) (tail : List Int), vs = [.ref a, .ref t, .int p] ∧ RulesAt H a rs ∧ (∀ r ∈ rs, RuleOk r) ∧ H t = some (.tup (tail.map V.int)) ∧ tail.length ≤ 900 ∧
  (brk rs tail p = false → ∀ H', Same H H' → Q .non H') ∧ (brk rs tail p = true → ∀ H' q, Same H H' → Q (.ref q) H')
theorem ok_broken_by (B : Bu mg) (D : Df K mg "broken_by" s_broken_by ["rules", "tail", "place"]) : Cl P w K mg base 1 "broken_by" spBroken := by
  refine D.cl sc_broken_by (fun vs H Q E h => ?_) fun f cdv A outer s H vs Q E hr h => ?_
  · obtain ⟨a, t, p, rs, tail, rfl, _⟩ := h
    rfl
  · obtain ⟨a, t, p, rs, tail, rfl, ⟨as, hl, ha, hrs⟩, hok, ht, hz, q1, q2⟩ := h
    refine ⟨_, (pss_cons (ps_for PassesOwn.never rfl (pi_tup (pv 0)) (pg_tup rfl (pgs_cons (pg_name (i := 3) sc_broken_by.nd rfl (Or.inl rfl)) (pgs_cons (pg_name (i := 4) sc_broken_by.nd rfl (Or.inl rfl)) (pgs_cons (pg_name (i := 5) sc_broken_by.nd rfl (Or.inl rfl)) pgs_nil))))
        (pss_one (ps_if (pt_cmpR op_ge (pe_op op_add (pe_callB call_len_seq (by rfl) B.len PySem.boot_len (pa_cons (pv 1) pa_nil)) pe_int) (pv 3) (nomark _))
          (pss_cons (ps_set (i := 6) sc_broken_by.nd rfl (Or.inl rfl) (pe_op op_add (pe_callB (cr_sumT rfl) (by rfl) B.sum (by decide +kernel) (pa_cons (pe_slice sl_tupA (pv 1) (po_some (pe_op op_sub (pe_op op_add (pe_callB call_len_seq (by rfl) B.len PySem.boot_len (pa_cons (pv 1) pa_nil)) pe_int) (pv 3))) po_none) pa_nil)) (pv 2)))
          (pss_one (ps_if (pt_not (pt_chain op_le op_le (pv 4) (pv 6) (pv 5)))
            (pss_one (ps_ret (pe_tup (pa_cons (pv 3) (pa_cons (pv 4) (pa_cons (pv 5) pa_nil))))))
            pss_nil)))
          pss_nil)))
      (pss_one (ps_ret pe_non))), ?_⟩
    refine ⟨.ref a, rfl, a, rfl, ⟨_, .of ha⟩, ?_⟩
    refine for_it (walk_tupN (n := rs.length) (xs := as.map V.ref) (by rw [List.length_map, hl])) (fun i σ H3 => Same H H3 ∧ brk (rs.take i) tail p = false ∧ ∃ y3 y4 y5 y6, σ = [some (.ref a), some (.ref t), some (.int p), y3, y4, y5, y6])
      ⟨Same.refl H, rfl, none, none, none, none, rfl⟩ (fun i σ H3 _ hP => .of (hP.1 _ _ ha)) (fun i x σ H3 H4 hi hP hx => ?_) fun σ H3 hP => ?_
    · obtain ⟨s3, hb, y3, y4, y5, y6, rfl⟩ := hP
      obtain ⟨rfl, hx⟩ := hx
      obtain ⟨b, r, rfl, eb, er, hm⟩ := rule_at hl hx
      have gb := s3 _ _ (hrs i b r eb er)
      have gt := s3 _ _ ht
      have hstep : brk (rs.take (i + 1)) tail p = brk1 r tail p := by
        unfold brk at hb ⊢
        rw [List.take_add_one, er, List.any_append, hb]
        simp
      refine ⟨b, ruV r, rfl, .of gb, rfl, _, _, rfl, _, _, rfl, _, _, rfl, rfl, ?_⟩
      refine ⟨_, rfl, t, _, rfl, .inr (.of gt), _, _, rfl, rfl, _, rfl, _, _, rfl, rfl, _, rfl, ite2 (fun e => ?_) fun e => ?_⟩
      · have e0 : (r.1 : Int) ≤ (((tail.map V.int).length : Nat) : Int) + 1 := of_decide_eq_true e
        have hlt : (((tail.map V.int).length : Nat) : Int) + 1 - (r.1 : Int) = ((tail.length + 1 - r.1 : Nat) : Int) := by
          rw [List.length_map] at e0 ⊢
          omega
        have hle : r.1 ≤ tail.length + 1 := by
          rw [List.length_map] at e0
          omega
        refine ⟨_, rfl, _, rfl, t, _, rfl, .inr (.of gt), _, _, rfl, rfl, _, rfl, _, _, rfl, rfl, _, rfl, slA (tail.length + 1 - r.1) hlt gt fun c H5 s5 hc => ?_⟩
        rw [← List.map_drop] at hc
        refine ⟨c, _, rfl, .of hc, _, rfl, _, _, rfl, rfl, ?_⟩
        refine ⟨_, rfl, _, rfl, _, _, rfl, rfl, _, rfl, ?_⟩
        have hb1 : brk1 r tail p = !(decide ((r.2.1 : Int) ≤ (tail.drop (tail.length + 1 - r.1)).sum + p) && decide ((tail.drop (tail.length + 1 - r.1)).sum + p ≤ (r.2.2 : Int))) := by
          unfold brk1
          rw [decide_eq_true hle, Bool.true_and]
        have bad : brk1 r tail p = true → brk rs tail p = true := fun z => by
          unfold brk
          exact List.any_eq_true.mpr ⟨r, hm, z⟩
        have out : ∀ H6, Same H5 H6 → brk1 r tail p = true → ∀ q', H6 q' = none → Q (.ref q') (upd H6 q' (.tup [.int r.1, .int r.2.1, .int r.2.2])) := fun H6 s6 z q' nq => q2 (bad z) _ _ (Same.upd ((s3.trans s5).trans s6) nq)
        refine ite2 (fun e1 => ?_) fun e1 => ?_
        · refine ⟨_, rfl, _, _, rfl, rfl, _, rfl, ?_⟩
          rw [e1, Bool.true_and] at hb1
          by_cases e2 : (tail.drop (tail.length + 1 - r.1)).sum + p ≤ (r.2.2 : Int)
          · refine teF (by rw [decide_eq_true e2]; rfl) ?_
            rw [decide_eq_true e2] at hb1
            exact ⟨s3.trans s5, by rw [hstep, hb1]; rfl, _, _, _, _, rfl⟩
          · rw [decide_eq_false e2] at hb1
            refine teT (by rw [decide_eq_false e2]; rfl) ?_
            exact ⟨_, rfl, _, rfl, _, rfl, by show 3 ≤ sizeLine; decide, fun q' nq => out H5 (Same.refl H5) hb1 q' nq⟩
        · rw [(Bool.eq_false_iff).mpr e1, Bool.false_and] at hb1
          refine ⟨_, rfl, iteT ?_⟩
          exact ⟨_, rfl, _, rfl, _, rfl, by show 3 ≤ sizeLine; decide, fun q' nq => out H5 (Same.refl H5) hb1 q' nq⟩
      · have e0 : ¬ (r.1 : Int) ≤ (((tail.map V.int).length : Nat) : Int) + 1 := of_decide_eq_false ((Bool.eq_false_iff).mpr e)
        rw [List.length_map] at e0
        refine ⟨s3, ?_, _, _, _, _, rfl⟩
        rw [hstep]
        unfold brk1
        rw [decide_eq_false (by omega), Bool.false_and]
    · obtain ⟨s3, hb, _⟩ := hP
      rw [List.take_of_length_le (Nat.le_refl _)] at hb
      exact q1 hb _ s3
/-! ### next_tail -/
abbrev s_next_tail : Stmt := topS 15
theorem sc_next_tail : FnScope ["wide", "tail", "place", "more"] ["wide", "tail", "place"] (defScope s_next_tail) := ⟨rfl, rfl, rfl, by decide +kernel, rfl, by decide +kernel, by decide +kernel⟩
def spNext : Sp := fun vs H Q _ => ∃ (wd : Nat) (t : Addr) (p : Int) (tail : List Int), vs = [.int wd, .ref t, .int p] ∧ H t = some (.tup (tail.map V.int)) ∧ tail.length ≤ 900 ∧
  ∀ H' q, Same H H' → H' q = some (.tup ((nextTail wd tail p).map V.int)) → Q (.ref q) H'
theorem ok_next_tail (B : Bu mg) (D : Df K mg "next_tail" s_next_tail ["wide", "tail", "place"]) : Cl P w K mg base 1 "next_tail" spNext := by
  refine D.cl sc_next_tail (fun vs H Q E h => ?_) fun f cdv A outer s H vs Q E hr h => ?_
  · obtain ⟨wd, t, p, tail, rfl, _⟩ := h
    rfl
  · obtain ⟨wd, t, p, tail, rfl, ht, hz, q⟩ := h
    refine ⟨_, (pss_cons (ps_set (i := 3) sc_next_tail.nd rfl (Or.inl rfl) (pe_op op_catA (pv 1) (pe_tup (pa_cons (pv 2) pa_nil))))
      (pss_one (ps_ret (pe_slice sl_tupA (pv 3) (po_some (pe_callB (call_max2 rfl) (by rfl) B.max (by decide +kernel) (pa_cons pe_int (pa_cons (pe_op op_add (pe_op op_sub (pe_callB call_len_seq (by rfl) B.len PySem.boot_len (pa_cons (pv 3) pa_nil)) (pv 0)) pe_int) pa_nil)))) po_none)))), ?_⟩
    refine ⟨.ref t, rfl, .int p, rfl, by show 1 ≤ sizeLine; decide, fun u nu => ?_⟩
    have s1 := same_upd (H := H) (p := u) (o := .tup [.int p]) nu
    refine catA (s1 _ _ ht) upd_same (sizeL (by rw [List.length_map]; show _ + 1 ≤ _; omega)) fun c H5 s5 hc => ?_
    have hc' : H5 c = some (.tup ((tail ++ [p]).map V.int)) := by rw [hc, List.map_append]; rfl
    have key : (if (((tail ++ [p]).map V.int).length : Int) - (wd : Int) + 1 > 0 then (((tail ++ [p]).map V.int).length : Int) - (wd : Int) + 1 else 0) = (((tail ++ [p]).length + 1 - wd : Nat) : Int) := by
      rw [List.length_map]
      split <;> omega
    refine ⟨_, rfl, _, rfl, c, _, rfl, .inr (.of hc'), _, rfl, _, _, rfl, rfl, _, _, rfl, rfl, _, _, rfl, _, rfl, slA _ key hc' fun d H6 s6 hd => ?_⟩
    refine q H6 d ((s1.trans s5).trans s6) ?_
    rw [hd, ← List.map_drop]
    rfl
end
end K5
end
section
set_option Elab.async false
set_option linter.all false
set_option maxRecDepth 100000
set_option maxHeartbeats 4000000
/-! Walks, 4: the ways on; the layers; how many. -/
namespace K5
open PySem PySem.Spec PyProof.Rows L2
/-- the places that may come, each with the last places then -/
def wayOk (rs : List Rule) (tail : List Int) (p : Int) : Bool := !brk rs tail p
def wayList (rs : List Rule) (tail : List Int) : List (Int × List Int) := ([0, 1].filter (wayOk rs tail)).map fun p => (p, nextTail (wide rs) tail p)
def WayAt (H : Hp) (b : Addr) (x : Int × List Int) : Prop := ∃ c, H b = some (.tup [.int x.1, .ref c]) ∧ H c = some (.tup (x.2.map V.int))
def WaysAt (H : Hp) (p : Addr) (ws : List (Int × List Int)) : Prop := ∃ as : List Addr, H p = some (.lst (as.map V.ref)) ∧ as.length = ws.length ∧ ∀ (i : Nat) b x, as[i]? = some b → ws[i]? = some x → WayAt H b x
theorem WayAt.keepT {H H' : Hp} {b : Addr} {x : Int × List Int} (h : WayAt H b x) (k : KeepT H H') : WayAt H' b x := by
  obtain ⟨c, h1, h2⟩ := h
  exact ⟨c, k _ _ (fun l z => by cases z) h1, k _ _ (fun l z => by cases z) h2⟩
theorem WaysAt.same {H H' : Hp} {p : Addr} {ws : List (Int × List Int)} (h : WaysAt H p ws) (s : Same H H') : WaysAt H' p ws := by
  obtain ⟨as, h1, h2, h3⟩ := h
  exact ⟨as, s _ _ h1, h2, fun i b x e1 e2 => (h3 i b x e1 e2).keepT s.keepT⟩
theorem WaysAt.snoc {H H' : Hp} {p b : Addr} {ws : List (Int × List Int)} {x : Int × List Int} (h : WaysAt H p ws) (s : Same H H') (hx : WayAt H' b x) :
    ∃ l, H' p = some (.lst l) ∧ l.length = ws.length ∧ WaysAt (upd H' p (.lst (l ++ [.ref b]))) p (ws ++ [x]) := by
  obtain ⟨as, h1, h2, h3⟩ := h.same s
  refine ⟨as.map V.ref, h1, by rw [List.length_map, h2], as ++ [b], by rw [upd_same, List.map_append]; rfl, by rw [List.length_append, List.length_append, h2]; rfl, fun i c y e1 e2 => ?_⟩
  have kt : KeepT H' (upd H' p (.lst (as.map V.ref ++ [V.ref b]))) := keepT_lst h1
  by_cases hi : i < as.length
  · rw [List.getElem?_append_left hi] at e1
    rw [List.getElem?_append_left (by omega)] at e2
    exact (h3 i c y e1 e2).keepT kt
  · have ei : i = as.length := by
      have := at_lt e1
      rw [List.length_append, List.length_singleton] at this
      omega
    subst ei
    rw [List.getElem?_concat_length] at e1
    rw [h2, List.getElem?_concat_length] at e2
    cases e1
    cases e2
    exact hx.keepT kt
/-- a list at o that was not there before may change -/
theorem _root_.L2.Same.lst {H H1 : Hp} {o : Addr} {l : List V} (s : Same H H1) (no : H o = none) : Same H (L2.upd H1 o (.lst l)) := fun b x e => by
  rw [upd_ne (ne_of_none e no)]
  exact s _ _ e
section
variable {P : Program} {w : World} {K : PySem.W.Frag} {mg : Str → Option Value} {base : Heap}
/-! ### ways_on -/
abbrev s_ways_on : Stmt := topS 17
theorem sc_ways_on : FnScope ["rules", "tail", "found", "place"] ["rules", "tail"] (defScope s_ways_on) := ⟨rfl, rfl, rfl, by decide +kernel, rfl, by decide +kernel, by decide +kernel⟩
def spWays : Sp := fun vs H Q _ => ∃ (a t : Addr) (rs : List Rule) (tail : List Int), vs = [.ref a, .ref t] ∧ RulesAt H a rs ∧ RulesOk rs ∧ H t = some (.tup (tail.map V.int)) ∧ tail.length ≤ 900 ∧
  ∀ H' p, Same H H' → H p = none → WaysAt H' p (wayList rs tail) → Q (.ref p) H'
theorem ok_ways_on (D : Df K mg "ways_on" s_ways_on ["rules", "tail"]) (c_broken_by : Cl P w K mg base 1 "broken_by" spBroken) (c_next_tail : Cl P w K mg base 1 "next_tail" spNext) (c_widest : Cl P w K mg base 1 "widest" spWidest) : Cl P w K mg base 2 "ways_on" spWays := by
  refine D.cl sc_ways_on (fun vs H Q E h => ?_) fun f cdv A outer s H vs Q E hr h => ?_
  · obtain ⟨a, t, rs, tail, rfl, _⟩ := h
    rfl
  · obtain ⟨a, t, rs, tail, rfl, hR, ho, ht, hz, q⟩ := h
    refine ⟨_, (pss_cons (ps_set (i := 2) sc_ways_on.nd rfl (Or.inl rfl) (pe_lst pa_nil))
      (pss_cons (ps_for PassesOwn.never rfl (pi_tup (pe_tup (pa_cons pe_int (pa_cons pe_int pa_nil)))) (pg_name (i := 3) sc_ways_on.nd rfl (Or.inl rfl))
        (pss_one (ps_if (pt_cmpR op_isN (pe_cl c_broken_by hr (by decide) (by rfl) (pa_cons (pv 0) (pa_cons (pv 1) (pa_cons (pv 3) pa_nil)))) pe_non (nomark _))
          (pss_one (ps_expr (pe_bm PySem.F.plainAttrs_list PySem.F.slot_list_append PySem.F.type_list_append mt_append (pv 2) (pa_cons (pe_tup (pa_cons (pv 3) (pa_cons (pe_cl c_next_tail hr (by decide) (by rfl) (pa_cons (pe_cl c_widest hr (by decide) (by rfl) (pa_cons (pv 0) pa_nil)) (pa_cons (pv 1) (pa_cons (pv 3) pa_nil)))) pa_nil))) pa_nil))))
          pss_nil)))
      (pss_one (ps_ret (pv 2))))), ?_⟩
    refine ⟨Nat.zero_le _, fun o no => ?_⟩
    refine ⟨by show 2 ≤ sizeLine; decide, fun u nu => ⟨u, rfl, ⟨_, .of upd_same⟩, ?_⟩⟩
    have s1 : Same H (upd (upd H o (.lst [])) u (.tup [.int 0, .int 1])) := Same.upd (same_upd no) nu
    have nou : o ≠ u := fun z => by
      rw [← z, upd_same] at nu
      cases nu
    have done : ∀ i, ((([0, 1] : List Int).take i).filter (wayOk rs tail)).map (fun p => (p, nextTail (wide rs) tail p)) = ((([0, 1] : List Int).take i).filter (wayOk rs tail)).map (fun p => (p, nextTail (wide rs) tail p)) := fun _ => rfl
    refine for_it (walk_tupN (n := 2) (xs := ([0, 1] : List Int).map V.int) rfl) (fun i σ H3 => Same H H3 ∧ H3 u = some (.tup [.int 0, .int 1]) ∧ WaysAt H3 o (((([0, 1] : List Int).take i).filter (wayOk rs tail)).map fun p => (p, nextTail (wide rs) tail p)) ∧ ∃ y3, σ = [some (.ref a), some (.ref t), some (.ref o), y3])
      ⟨s1, upd_same, ⟨[], by rw [upd_ne nou, upd_same]; rfl, rfl, fun i b x e => by cases e⟩, none, rfl⟩ (fun i σ H3 _ hP => .of hP.2.1) (fun i x σ H3 H4 hi hP hx => ?_) fun σ H3 hP => ?_
    · obtain ⟨s3, hu, hw, y3, rfl⟩ := hP
      obtain ⟨rfl, hx⟩ := hx
      obtain ⟨p, ep, rfl⟩ := at_map hx
      have step : (([0, 1] : List Int).take (i + 1)).filter (wayOk rs tail) = (([0, 1] : List Int).take i).filter (wayOk rs tail) ++ (if wayOk rs tail p then [p] else []) := by
        rw [List.take_add_one, ep, List.filter_append]
        by_cases z : wayOk rs tail p = true <;> simp [z]
      refine ⟨_, rfl, _, rfl, _, rfl, a, t, p, rs, tail, rfl, hR.same s3, ho.each, s3 _ _ ht, hz, fun hb H5 s5 => ?_, fun hb H5 q5 s5 => ?_⟩
      · have hw5 := hw.same s5
        refine ⟨rfl, _, rfl, iteT ?_⟩
        have nou : o ≠ u := fun z => by
          obtain ⟨as, e, _⟩ := hw
          rw [z, hu] at e
          cases e
        refine ⟨_, rfl, .inl ⟨rfl, hw5.choose.map V.ref, .of hw5.choose_spec.1⟩, _, rfl, _, rfl, a, rs, rfl, (hR.same s3).same s5, ho.ne, _, rfl, _, rfl, wide rs, t, p, tail, rfl, s5 _ _ (s3 _ _ ht), hz, fun H6 c s6 hc => ?_⟩
        refine ⟨by show 2 ≤ sizeLine; decide, fun d nd => ?_⟩
        have s7 : Same H4 (upd H6 d (.tup [.int p, .ref c])) := Same.upd (s5.trans s6) nd
        obtain ⟨l, hl, hll, hw7⟩ := hw.snoc (b := d) (x := (p, nextTail (wide rs) tail p)) s7 ⟨c, upd_same, same_upd nd _ _ hc⟩
        refine ⟨o, l, _, rfl, rfl, hl, ?_, ?_⟩
        · rw [hll, List.length_map]
          exact small1000 (Nat.le_trans (List.length_filter_le _ _) (by rw [List.length_take]; show min i 2 ≤ 1000; omega))
        · refine ⟨(s3.trans s7).lst no, ?_, ?_, _, rfl⟩
          · rw [upd_ne nou.symm]
            exact s7 _ _ hu
          · rw [step, show wayOk rs tail p = true from by unfold wayOk; rw [hb]; rfl, if_pos rfl, List.map_append]
            exact hw7
      · refine ⟨rfl, _, rfl, iteF ?_⟩
        refine ⟨s3.trans s5, s5 _ _ hu, ?_, _, rfl⟩
        rw [step, show wayOk rs tail p = false from by unfold wayOk; rw [hb]; rfl, if_neg (by decide), List.append_nil]
        exact hw.same s5
    · obtain ⟨s3, _, hw, y3, rfl⟩ := hP
      exact ⟨_, rfl, q _ _ s3 no hw⟩
end
end K5
end
section
set_option Elab.async false
set_option linter.all false
set_option maxRecDepth 100000
set_option maxHeartbeats 4000000
/-! Walks, 5: the layers; how many. -/
namespace K5
open PySem PySem.Spec PyProof.Rows L2
/-! ### a dict whose keys are just the last places that S tells, each with a positive number -/
def tk (t : List Int) : List L2.Key := t.map Sum.inl
theorem tk_kV (t : List Int) : (tk t).map kV = t.map V.int := by
  unfold tk
  rw [List.map_map]
  rfl
theorem tk_inj : ∀ {s t : List Int}, tk s = tk t → s = t
  | [], [], _ => rfl
  | [], _ :: _, e => by cases e
  | _ :: _, [], e => by cases e
  | x :: s, y :: t, e => by
    injection e with e1 e2
    injection e1 with e1
    rw [e1, tk_inj (s := s) (t := t) e2]
structure Rp (S : List Int → Prop) (kvs : List (List L2.Key × V)) : Prop where
  nd : (kvs.map (·.1)).Nodup
  all : ∀ kv ∈ kvs, ∃ (t : List Int) (c : Int), kv = (tk t, .int c) ∧ 0 < c ∧ S t
  has : ∀ t, S t → tk t ∈ kvs.map (·.1)
theorem Rp.iff {S S' : List Int → Prop} {kvs : List (List L2.Key × V)} (h : Rp S kvs) (e : ∀ t, S t ↔ S' t) : Rp S' kvs :=
  ⟨h.nd, fun kv hkv => by
    obtain ⟨t, c, h1, h2, h3⟩ := h.all kv hkv
    exact ⟨t, c, h1, h2, (e t).mp h3⟩, fun t ht => h.has t ((e t).mpr ht)⟩
theorem Rp.get {S : List Int → Prop} {kvs : List (List L2.Key × V)} (h : Rp S kvs) (k : List L2.Key) : ∃ c : Int, 0 ≤ c ∧ (valV kvs k).getD (.int 0) = .int c := by
  cases e : valV kvs k with
  | none => exact ⟨0, Int.le_refl 0, rfl⟩
  | some v =>
    unfold valV at e
    cases e2 : kvs.find? fun kv => decide (kv.1 = k) with
    | none =>
      rw [e2] at e
      cases e
    | some kv =>
      rw [e2] at e
      obtain ⟨t, c, h1, h2, _⟩ := h.all kv (List.mem_of_find?_eq_some e2)
      refine ⟨c, Int.le_of_lt h2, ?_⟩
      have e3 : kv.2 = v := Option.some.inj e
      rw [h1] at e3
      exact e3.symm
theorem Rp.put {S : List Int → Prop} {kvs : List (List L2.Key × V)} (h : Rp S kvs) (t : List Int) {c : Int} (hc : 0 < c) : Rp (fun u => S u ∨ u = t) (putK kvs (tk t) (.int c)) := by
  cases e : valV kvs (tk t) with
  | none =>
    rw [putK_new _ e]
    refine ⟨by rw [List.map_append]; exact nd_snoc h.nd (valV_not e), fun kv hkv => ?_, fun u hu => ?_⟩
    · rcases List.mem_append.mp hkv with z | z
      · obtain ⟨t', c', h1, h2, h3⟩ := h.all kv z
        exact ⟨t', c', h1, h2, .inl h3⟩
      · exact ⟨t, c, List.mem_singleton.mp z, hc, .inr rfl⟩
    · rw [List.map_append]
      rcases hu with hu | rfl
      · exact List.mem_append.mpr (.inl (h.has u hu))
      · exact List.mem_append.mpr (.inr (List.mem_singleton.mpr rfl))
  | some v =>
    have hany : (kvs.any fun kv => decide (kv.1 = tk t)) = true := by rw [valV_any, e]; rfl
    have ek : (putK kvs (tk t) (.int c)).map (·.1) = kvs.map (·.1) := by
      unfold putK
      rw [if_pos hany, List.map_map]
      refine List.map_congr_left fun kv _ => ?_
      show (if kv.1 = tk t then (kv.1, V.int c) else kv).1 = kv.1
      split <;> rfl
    refine ⟨by rw [ek]; exact h.nd, fun kv hkv => ?_, fun u hu => ?_⟩
    · unfold putK at hkv
      rw [if_pos hany] at hkv
      obtain ⟨kv0, hm, rfl⟩ := List.mem_map.mp hkv
      by_cases z : kv0.1 = tk t
      · rw [if_pos z, z]
        exact ⟨t, c, rfl, hc, .inr rfl⟩
      · rw [if_neg z]
        obtain ⟨t', c', h1, h2, h3⟩ := h.all kv0 hm
        exact ⟨t', c', h1, h2, .inl h3⟩
    · rw [ek]
      rcases hu with hu | rfl
      · exact h.has u hu
      · exact valV_in e
theorem Rp.few {S : List Int → Prop} {kvs : List (List L2.Key × V)} (h : Rp S kvs) (hs : ∀ t, S t → t ∈ fewBits) : kvs.length ≤ 255 := by
  have key : ∃ ts : List (List Int), kvs.map (·.1) = ts.map tk ∧ ∀ t ∈ ts, t ∈ fewBits := by
    have := h.all
    clear h
    induction kvs with
    | nil => exact ⟨[], rfl, fun t ht => by cases ht⟩
    | cons kv r ih =>
      obtain ⟨ts, e, hts⟩ := ih fun kv hkv => this kv (List.mem_cons_of_mem _ hkv)
      obtain ⟨t, c, h1, _, h3⟩ := this kv List.mem_cons_self
      refine ⟨t :: ts, by rw [List.map_cons, List.map_cons, e, h1], fun u hu => ?_⟩
      rcases List.mem_cons.mp hu with rfl | hu
      · exact hs _ h3
      · exact hts u hu
  obtain ⟨ts, e, hts⟩ := key
  have nd := h.nd
  rw [e] at nd
  have l1 : kvs.length = ts.length := by
    have := congrArg List.length e
    rwa [List.length_map, List.length_map] at this
  rw [l1]
  refine few_le ?_ hts
  exact (List.pairwise_map.mp nd).imp fun h e => h (by rw [e])
/-! ### the last places that come behind these -/
def tellsB (o : Option Int) (x : Int) : Bool := match o with
  | none => true
  | some i => decide (i = x)
theorem tellsB_iff {o : Option Int} {x : Int} : tellsB o x = true ↔ Tells o x := by
  cases o with
  | none => exact ⟨fun _ => .inl rfl, fun _ => rfl⟩
  | some i =>
    show decide (i = x) = true ↔ _
    rw [decide_eq_true_iff]
    refine ⟨fun e => .inr (by rw [e]), fun e => ?_⟩
    rcases e with e | e
    · cases e
    · exact Option.some.inj e
/-- out of the first k ways -/
def NxT (rs : List Rule) (o : Option Int) (t : List Int) (k : Nat) (u : List Int) : Prop := ∃ x, (x, u) ∈ (wayList rs t).take k ∧ Tells o x
theorem nxT_all {rs : List Rule} {o : Option Int} {t u : List Int} : NxT rs o t (wayList rs t).length u ↔ ∃ x, Bit x ∧ Tells o x ∧ brk rs t x = false ∧ u = nextTail (wide rs) t x := by
  unfold NxT
  rw [List.take_of_length_le (Nat.le_refl _)]
  constructor
  · rintro ⟨x, hm, ht⟩
    unfold wayList at hm
    obtain ⟨p, hp, e⟩ := List.mem_map.mp hm
    obtain ⟨h1, h2⟩ := List.mem_filter.mp hp
    obtain ⟨e1, e2⟩ := Prod.mk.inj e
    subst e1
    refine ⟨p, ?_, ht, ?_, e2.symm⟩
    · rcases List.mem_cons.mp h1 with z | z
      · exact .inl z
      · exact .inr (List.mem_singleton.mp z)
    · unfold wayOk at h2
      cases z : brk rs t p with
      | false => rfl
      | true =>
        rw [z] at h2
        cases h2
  · rintro ⟨x, hx, ht, hb, rfl⟩
    refine ⟨x, ?_, ht⟩
    unfold wayList
    refine List.mem_map.mpr ⟨x, List.mem_filter.mpr ⟨?_, by unfold wayOk; rw [hb]; rfl⟩, rfl⟩
    rcases hx with rfl | rfl
    · exact List.mem_cons_self
    · exact List.mem_cons_of_mem _ List.mem_cons_self
theorem wayList_len (rs : List Rule) (t : List Int) : (wayList rs t).length ≤ 2 := by
  unfold wayList
  rw [List.length_map]
  exact List.length_filter_le _ _
theorem nxT_some {rs : List Rule} {o : Option Int} {t : List Int} {k : Nat} {u : List Int} (h : NxT rs o t k u) : NxT rs o t (wayList rs t).length u := by
  obtain ⟨x, hm, ht⟩ := h
  exact ⟨x, by rw [List.take_of_length_le (Nat.le_refl _)]; exact List.mem_of_mem_take hm, ht⟩
theorem nxT_succ {rs : List Rule} {o : Option Int} {t : List Int} {k : Nat} {u : List Int} {wv : Int × List Int} (h : (wayList rs t)[k]? = some wv) : NxT rs o t (k + 1) u ↔ NxT rs o t k u ∨ (Tells o wv.1 ∧ u = wv.2) := by
  unfold NxT
  rw [List.take_add_one, h]
  constructor
  · rintro ⟨x, hm, ht⟩
    rcases List.mem_append.mp hm with z | z
    · exact .inl ⟨x, z, ht⟩
    · have e : (x, u) = wv := List.mem_singleton.mp z
      subst e
      exact .inr ⟨ht, rfl⟩
  · rintro (⟨x, hm, ht⟩ | ⟨ht, rfl⟩)
    · exact ⟨x, List.mem_append.mpr (.inl hm), ht⟩
    · exact ⟨wv.1, List.mem_append.mpr (.inr (List.mem_singleton.mpr rfl)), ht⟩
/-- None, or the same -/
def tTells (i j : Nat) : TT := fun σ H Q => ∃ (o : Option Int) (x : Int), σ[i]? = some (some (toV o)) ∧ σ[j]? = some (some (.int x)) ∧ Q (tellsB o x) H
theorem PT.imp {X : Cx} {e : Expr} {t t' : TT} (h : PT X e t) (i : ∀ σ H Q, t' σ H Q → t σ H Q) : PT X e t' := ⟨fun pins s σ H Q I q => h.run pins s σ H Q I (i σ H Q q)⟩
theorem tells_imp {i j : Nat} (σ : L2.St) (H : Hp) (Q : Bool → Hp → Prop) (h : tTells i j σ H Q) : L2.tOr (tTest (tOp (fun x y H Q => y = .non ∧ Q (.bl (decide (x = .non))) H) (tVar i) (tC .non))) (tTest (tOp rEq (tVar i) (tVar j))) σ H Q := by
  obtain ⟨o, x, h1, h2, q⟩ := h
  cases o with
  | none => exact ⟨_, h1, rfl, _, rfl, iteT q⟩
  | some y =>
    refine ⟨_, h1, rfl, _, rfl, iteF ⟨_, h1, _, h2, rfl, _, rfl, ?_⟩⟩
    have e : decide (V.int y = V.int x) = tellsB (some y) x := by
      show decide (V.int y = V.int x) = decide (y = x)
      by_cases z : y = x
      · rw [z, decide_eq_true rfl, decide_eq_true rfl]
      · rw [decide_eq_false z, decide_eq_false (fun e => z (V.int.inj e))]
    show Q (decide (V.int y = V.int x)) H
    rw [e]
    exact q
/-! ### heaps in which dicts change -/
def KeepD (H H' : Hp) : Prop := ∀ b x, (∀ l, x ≠ HO.dT l) → H b = some x → H' b = some x
theorem _root_.L2.Same.keepD {H H' : Hp} (s : Same H H') : KeepD H H' := fun b x _ e => s b x e
theorem KeepD.trans {H H1 H2 : Hp} (a : KeepD H H1) (b : KeepD H1 H2) : KeepD H H2 := fun c x n e => b c x n (a c x n e)
theorem keepD_dT {H : Hp} {D : Addr} {l m : List (List L2.Key × V)} (h : H D = some (.dT l)) : KeepD H (upd H D (.dT m)) := fun b x n e => by
  by_cases z : b = D
  · rw [z, h] at e
    cases e
    exact absurd rfl (n l)
  · rw [upd_ne z]
    exact e
theorem WaysAt.keepD {H H' : Hp} {p : Addr} {ws : List (Int × List Int)} (h : WaysAt H p ws) (k : KeepD H H') : WaysAt H' p ws := by
  obtain ⟨as, h1, h2, h3⟩ := h
  refine ⟨as, k _ _ (fun l z => by cases z) h1, h2, fun i b x e1 e2 => ?_⟩
  obtain ⟨c, g1, g2⟩ := h3 i b x e1 e2
  exact ⟨c, k _ _ (fun l z => by cases z) g1, k _ _ (fun l z => by cases z) g2⟩
theorem _root_.L2.Same.at {H H1 : Hp} {o : Addr} {x : HO} (s : Same H H1) (no : H o = none) : Same H (L2.upd H1 o x) := fun b y e => by
  rw [upd_ne (ne_of_none e no)]
  exact s _ _ e
theorem walk_itemsT {d : Addr} {o : Obj} {kvs : List (List L2.Key × V)} : Walk (ItiT d o kvs) kvs.length (fun H => H d = some (.frz o (.dT kvs)))
    (fun i H x H' => ∃ T k v q, kvs[i]? = some (k, v) ∧ x = .ref T ∧ H T = none ∧ H q = some (.tup (k.map kV)) ∧ H' = upd H T (.tup [.ref q, v])) :=
  ⟨fun _ _ hi q => ⟨q, hi⟩, fun _ q => ⟨q, Nat.le_refl _⟩, fun _ _ _ _ _ _ y => y⟩
section
variable {P : Program} {w : World} {K : PySem.W.Frag} {mg : Str → Option Value} {base : Heap}
/-! ### layers_of -/
abbrev s_layers_of : Stmt := topS 19
theorem sc_layers_of : FnScope ["rules", "told", "found", "place", "more", "tail", "many", "one", "there"] ["rules", "told"] (defScope s_layers_of) := ⟨rfl, rfl, rfl, by decide +kernel, rfl, by decide +kernel, by decide +kernel⟩
def spLayers : Sp := fun vs H Q _ => ∃ (a b : Addr) (rs : List Rule) (ts : List (Option Int)), vs = [.ref a, .ref b] ∧ RulesAt H a rs ∧ RulesOk rs ∧ ToldAt H b ts ∧ ToldOk ts ∧
  ∀ H' o l d kvs, Same H H' → H' o = some (.lst (l ++ [.ref d])) → H' d = some (.dT kvs) → Rp (Tails rs ts ts.length) kvs → Q (.ref o) H'
theorem ok_layers_of (B : Bu mg) (D : Df K mg "layers_of" s_layers_of ["rules", "told"]) (c_ways_on : Cl P w K mg base 2 "ways_on" spWays) : Cl P w K mg base 3 "layers_of" spLayers := by
  refine D.cl sc_layers_of (fun vs H Q E h => ?_) fun f cdv A outer s H vs Q E hr h => ?_
  · obtain ⟨a, b, rs, ts, rfl, _⟩ := h
    rfl
  · obtain ⟨a, b, rs, ts, rfl, hR, ho, hT, hto, q⟩ := h
    have hu := hu_of hr
    have hfew := hto.few
    refine ⟨_, (pss_cons (ps_set (i := 2) sc_layers_of.nd rfl (Or.inl rfl) (pe_lst (pa_cons (pe_disp1 hu (pe_tup pa_nil) pe_int) pa_nil)))
      (pss_cons (ps_for PassesOwn.never rfl (pi_tup (pv 1)) (pg_name (i := 3) sc_layers_of.nd rfl (Or.inl rfl))
        (pss_cons (ps_set (i := 4) sc_layers_of.nd rfl (Or.inl rfl) pe_dnewT)
        (pss_cons (ps_lock (ps_for PassesOwn.never rfl (pi_itemsT (pe_ix ix_list (pv 2) (pe_un un_neg pe_int) (fun _ _ => rfl))) (pg_tup rfl (pgs_cons (pg_name (i := 5) sc_layers_of.nd rfl (Or.inl rfl)) (pgs_cons (pg_name (i := 6) sc_layers_of.nd rfl (Or.inl rfl)) pgs_nil)))
          (pss_one (ps_for PassesOwn.never rfl (pi_list (pe_cl c_ways_on hr (by decide) (by rfl) (pa_cons (pv 0) (pa_cons (pv 5) pa_nil)))) (pg_tup rfl (pgs_cons (pg_name (i := 7) sc_layers_of.nd rfl (Or.inl rfl)) (pgs_cons (pg_name (i := 8) sc_layers_of.nd rfl (Or.inl rfl)) pgs_nil)))
            (pss_one (ps_if (PT.imp (t' := tTells 3 7) (PW.pt (pw_or (pt_cmpR op_isN (pv 3) pe_non (nomark _)) (pw_or1 (pt_cmpR op_eq (pv 3) (pv 7) (nomark _))))) tells_imp)
              (pss_one (ps_dput hu (pv 4) (pv 8) (pe_op op_add (pe_dget2 hu (pv 4) (pv 8) pe_int ⟨rfl, rfl, rfl, rfl⟩) (pv 6)) rfl))
              pss_nil))))))
        (pss_one (ps_expr (pe_bm PySem.F.plainAttrs_list PySem.F.slot_list_append PySem.F.type_list_append mt_append (pv 2) (pa_cons (pv 4) pa_nil)))))))
      (pss_one (ps_ret (pv 2))))), ?_⟩
    refine fun D nD => ⟨Nat.zero_le _, fun u nu => ⟨u, [], rfl, upd_same, ?_, by show 1 ≤ sizeLine; decide, fun o no => ?_⟩⟩
    · have z : D ≠ u := fun z => by
        rw [z, upd_same] at nu
        cases nu
      rw [upd_ne z, upd_same]
    have s1 := Same.upd (Same.at (x := HO.dT [([], V.int 1)]) (Same.upd (o := HO.tup []) (same_upd (o := HO.dT []) nD) nu) nD) (o := .lst [.ref D]) no
    have hno : H o = none := Same.free (Same.at (x := HO.dT [([], V.int 1)]) (Same.upd (o := HO.tup []) (same_upd (o := HO.dT []) nD) nu) nD) no
    have noD : D ≠ o := fun z => by
      rw [← z, upd_same] at no
      cases no
    refine ⟨.ref b, rfl, b, rfl, ⟨_, .of (s1 _ _ hT)⟩, ?_⟩
    refine for_it (walk_tupN (n := ts.length) (xs := ts.map toV) (by rw [List.length_map])) (fun i σ H3 => Same H H3 ∧ ∃ l d kvs, H3 o = some (.lst (l ++ [.ref d])) ∧ l.length = i ∧ H3 d = some (.dT kvs) ∧ H d = none ∧ Rp (Tails rs ts i) kvs ∧
        ∃ y3 y4 y5 y6 y7 y8, σ = [some (.ref a), some (.ref b), some (.ref o), y3, y4, y5, y6, y7, y8])
      ⟨s1, [], D, [([], .int 1)], upd_same, rfl, by rw [upd_ne noD, upd_same], nD, ⟨by simp, fun kv hkv => ⟨[], 1, List.mem_singleton.mp hkv, by decide, tails_zero.mpr rfl⟩, fun t ht => by rw [tails_zero.mp ht]; exact List.mem_singleton.mpr rfl⟩, none, none, none, none, none, none, rfl⟩
      (fun i σ H3 _ hP => .of (hP.1 _ _ hT)) (fun i x σ H3 H4 hi hP hx => ?_) fun σ H3 hP => ?_
    · obtain ⟨s3, l, d, kvs, h3o, hll, h3d, hd0, hrp, y3, y4, y5, y6, y7, y8, rfl⟩ := hP
      obtain ⟨rfl, hx⟩ := hx
      obtain ⟨oo, eo, rfl⟩ := at_map hx
      refine fun m nm => ?_
      have s4 : Same H4 (upd H4 m (.dT [])) := same_upd nm
      have nmd : d ≠ m := ne_of_none h3d nm
      have nmo : o ≠ m := ne_of_none h3o nm
      have nod : d ≠ o := ne_of h3d h3o (by intro z; cases z)
      have hm0 : H m = none := s3.free nm
      refine ⟨d, .dT kvs, s4 _ _ h3d, trivial, fun od => ?_⟩
      have s5 : Same H (upd (upd H4 m (.dT [])) d (.frz od (.dT kvs))) := Same.at (s3.trans s4) hd0
      refine ⟨_, rfl, 1, rfl, o, _, -1, .ref d, rfl, rfl, .of (by rw [upd_ne nod.symm]; exact s4 _ _ h3o), atI_last _ _, d, od, kvs, rfl, upd_same, ?_⟩
      have sub : ∀ t c, (tk t, V.int c) ∈ kvs → ∀ k u, NxT rs oo t k u → Tails rs ts (i + 1) u := fun t c hm k u hn => by
        obtain ⟨t', c', e, _, ht⟩ := hrp.all _ hm
        have et : t = t' := tk_inj (Prod.mk.inj e).1
        subst et
        obtain ⟨x, h1, h2, h3, h4⟩ := nxT_all.mp (nxT_some hn)
        exact (tails_next ho eo).mpr ⟨t, x, ht, h1, h2, h3, h4⟩
      refine for_it walk_itemsT (fun j σ H5 => Same H H5 ∧ H5 o = some (.lst (l ++ [.ref d])) ∧ H5 d = some (.frz od (.dT kvs)) ∧ ∃ kvm, H5 m = some (.dT kvm) ∧ Rp (fun u => ∃ jj t c, jj < j ∧ kvs[jj]? = some (tk t, .int c) ∧ NxT rs oo t (wayList rs t).length u) kvm ∧
          ∃ y5 y6 y7 y8, σ = [some (.ref a), some (.ref b), some (.ref o), some (toV oo), some (.ref m), y5, y6, y7, y8])
        ⟨s5, by rw [upd_ne nod.symm]; exact s4 _ _ h3o, upd_same, [], by rw [upd_ne nmd.symm, upd_same], ⟨by simp, fun kv hkv => (by cases hkv), fun t ht => by obtain ⟨jj, t, c, h, _⟩ := ht; exact absurd h (Nat.not_lt_zero _)⟩, _, _, _, _, rfl⟩
        (fun j σ H5 _ hP => hP.2.2.1) (fun j x σ H5 H6 hj hP hx => ?_) fun σ H5 hP => ?_
      · obtain ⟨s6, h6o, h6d, kvm, h6m, hrm, y5, y6, y7, y8, rfl⟩ := hP
        obtain ⟨T, k, v, q5, ekv, rfl, nT, hq5, rfl⟩ := hx
        obtain ⟨t, c, e, hc, ht⟩ := hrp.all _ (List.mem_of_getElem? ekv)
        obtain ⟨rfl, rfl⟩ := Prod.mk.inj e
        rw [tk_kV] at hq5
        have s7 : Same H5 (upd H5 T (.tup [.ref q5, .int c])) := same_upd nT
        refine ⟨T, [.ref q5, .int c], rfl, .of upd_same, rfl, _, _, rfl, _, _, rfl, rfl, ?_⟩
        refine ⟨_, rfl, _, rfl, a, q5, rs, t, rfl, hR.same (s6.trans s7), ho, s7 _ _ hq5, Nat.le_trans (tails_few ho ht).2.2 (by decide), fun H7 p s8 np hw => ?_⟩
        obtain ⟨as, hp, hal, has⟩ := hw
        have s9 : Same H5 H7 := s7.trans s8
        refine ⟨p, rfl, ⟨_, .of hp⟩, ?_⟩
        refine for_it (walk_listN (n := (wayList rs t).length) (xs := as.map V.ref) (by rw [List.length_map, hal])) (fun k σ H8 => Same H H8 ∧ KeepD H7 H8 ∧ ∃ kvm, H8 m = some (.dT kvm) ∧ Rp (fun u => (∃ jj t c, jj < j ∧ kvs[jj]? = some (tk t, .int c) ∧ NxT rs oo t (wayList rs t).length u) ∨ NxT rs oo t k u) kvm ∧
            ∃ y7 y8, σ = [some (.ref a), some (.ref b), some (.ref o), some (toV oo), some (.ref m), some (.ref q5), some (.int c), y7, y8])
          ⟨s6.trans s9, (Same.refl H7).keepD, kvm, s9 _ _ h6m, hrm.iff fun u => ⟨.inl, fun z => z.elim id fun z => by obtain ⟨x, hx, _⟩ := z; cases hx⟩, _, _, rfl⟩
          (fun k σ H8 _ hP => .of (hP.2.1 _ _ (fun l z => by cases z) hp)) (fun k x σ H8 H9 hk hP hx => ?_) fun σ H8 hP => ?_
        · obtain ⟨s10, kd, kvm, h8m, hrm, y7, y8, rfl⟩ := hP
          obtain ⟨rfl, hx⟩ := hx
          obtain ⟨bb, eb, rfl⟩ := at_map hx
          obtain ⟨wv, ew, hwm⟩ := lt_at hk
          obtain ⟨cc, g1, g2⟩ := has k bb wv eb ew
          have g1 := kd _ _ (fun l z => by cases z) g1
          have g2 := kd _ _ (fun l z => by cases z) g2
          have hc' : H9 cc = some (.tup ((tk wv.2).map kV)) := by rw [tk_kV]; exact g2
          refine ⟨bb, _, rfl, .of g1, rfl, _, _, rfl, _, _, rfl, rfl, ?_⟩
          refine ⟨oo, wv.1, rfl, rfl, ite2 (fun e => ?_) fun e => ?_⟩
          · obtain ⟨c0, hc0, ec0⟩ := hrm.get (tk wv.2)
            have hlen : kvm.length ≤ 255 := hrm.few fun u hu => by
              have hu' : Tails rs ts (i + 1) u := by
                rcases hu with ⟨jj, t', c', _, e1, e2⟩ | e2
                · exact sub t' c' (List.mem_of_getElem? e1) _ _ e2
                · exact sub t c (List.mem_of_getElem? ekv) _ _ e2
              exact (tails_few ho hu').1
            refine ⟨_, rfl, m, rfl, .inr ⟨kvm, .inl h8m⟩, _, rfl, _, .t h8m hc', _, rfl, c0, c, ec0, rfl, _, rfl, _, rfl, m, _, rfl, .t h8m hc' (small1000 (by omega)), ?_⟩
            refine ⟨s10.at hm0, kd.trans (keepD_dT h8m), _, upd_same, (hrm.put wv.2 (by omega)).iff fun u => ?_, _, _, rfl⟩
            rw [nxT_succ ew]
            have ht' := tellsB_iff.mp e
            constructor
            · rintro ((h | h) | h)
              · exact .inl h
              · exact .inr (.inl h)
              · exact .inr (.inr ⟨ht', h⟩)
            · rintro (h | h | h)
              · exact .inl (.inl h)
              · exact .inl (.inr h)
              · exact .inr h.2
          · refine ⟨s10, kd, kvm, h8m, hrm.iff fun u => ?_, _, _, rfl⟩
            rw [nxT_succ ew]
            constructor
            · rintro (h | h)
              · exact .inl h
              · exact .inr (.inl h)
            · rintro (h | h | h)
              · exact .inl h
              · exact .inr h
              · exact absurd (tellsB_iff.mpr h.1) e
        · obtain ⟨s10, kd, kvm, h8m, hrm, y7, y8, rfl⟩ := hP
          refine ⟨s10, kd _ _ (fun l z => by cases z) (s9 _ _ h6o), kd _ _ (fun l z => by cases z) (s9 _ _ h6d), kvm, h8m, hrm.iff fun u => ?_, _, _, _, _, rfl⟩
          constructor
          · rintro (⟨jj, t', c', h1, h2, h3⟩ | h)
            · exact ⟨jj, t', c', by omega, h2, h3⟩
            · exact ⟨j, t, c, by omega, ekv, h⟩
          · rintro ⟨jj, t', c', h1, h2, h3⟩
            by_cases z : jj < j
            · exact .inl ⟨jj, t', c', z, h2, h3⟩
            · have ej : jj = j := by omega
              subst ej
              rw [ekv] at h2
              have e2 := Option.some.inj h2
              obtain ⟨e3, _⟩ := Prod.mk.inj e2
              rw [← tk_inj e3] at h3
              exact .inr h3
      · obtain ⟨s6, h6o, h6d, kvm, h6m, hrm, y5, y6, y7, y8, rfl⟩ := hP
        have nmd2 : m ≠ d := nmd.symm
        refine ⟨h6d, ?_⟩
        have h7o : (upd H5 d (.dT kvs)) o = some (.lst (l ++ [.ref d])) := by rw [upd_ne nod.symm]; exact h6o
        refine ⟨_, rfl, .inl ⟨rfl, _, .of h7o⟩, _, rfl, o, _, _, rfl, rfl, h7o, ?_, ?_⟩
        · rw [List.length_append, hll]
          have := hto.few
          exact small1000 (by show i + 1 ≤ 1000; omega)
        · refine ⟨(s6.at hd0).lst hno, l ++ [.ref d], m, kvm, upd_same, by rw [List.length_append, hll]; rfl, ?_, hm0, hrm.iff fun u => ?_, _, _, _, _, _, _, rfl⟩
          · rw [upd_ne nmo.symm, upd_ne nmd.symm]
            exact h6m
          · rw [tails_next ho eo]
            constructor
            · rintro ⟨jj, t, c, _, h2, h3⟩
              obtain ⟨t', c', e, _, ht⟩ := hrp.all _ (List.mem_of_getElem? h2)
              rw [← tk_inj (Prod.mk.inj e).1] at ht
              obtain ⟨x, h4, h5, h6, h7⟩ := nxT_all.mp h3
              exact ⟨t, x, ht, h4, h5, h6, h7⟩
            · rintro ⟨t, x, ht, h4, h5, h6, h7⟩
              obtain ⟨kv, hkv, ek⟩ := List.mem_map.mp (hrp.has t ht)
              obtain ⟨jj, hj, ej⟩ := List.mem_iff_getElem.mp hkv
              obtain ⟨t', c', e, _, _⟩ := hrp.all _ hkv
              rw [e] at ek
              have et := tk_inj ek
              subst et
              exact ⟨jj, t', c', hj, by rw [List.getElem?_eq_getElem hj, ej, e], nxT_all.mpr ⟨x, h4, h5, h6, h7⟩⟩
    · obtain ⟨s3, l, d, kvs, h3o, hll, h3d, hd0, hrp, y3, y4, y5, y6, y7, y8, rfl⟩ := hP
      exact ⟨_, rfl, q _ _ _ _ _ s3 h3o h3d hrp⟩
/-! ### how_many -/
abbrev s_how_many : Stmt := topS 21
theorem sc_how_many : FnScope ["rules", "told"] ["rules", "told"] (defScope s_how_many) := ⟨rfl, rfl, rfl, by decide +kernel, rfl, by decide +kernel, by decide +kernel⟩
def spMany : Sp := fun vs H Q _ => ∃ (a b : Addr) (rs : List Rule) (ts : List (Option Int)), vs = [.ref a, .ref b] ∧ RulesAt H a rs ∧ RulesOk rs ∧ ToldAt H b ts ∧ ToldOk ts ∧
  ∀ H' n, Same H H' → (0 < n ↔ Fillable rs ts) → Q (.int n) H'
theorem ok_how_many (B : Bu mg) (D : Df K mg "how_many" s_how_many ["rules", "told"]) (c_need_both : Cl P w K mg base 5 "need_both" (spBoth .non)) (c_layers_of : Cl P w K mg base 3 "layers_of" spLayers) : Cl P w K mg base 6 "how_many" spMany := by
  refine D.cl sc_how_many (fun vs H Q E h => ?_) fun f cdv A outer s H vs Q E hr h => ?_
  · obtain ⟨a, b, rs, ts, rfl, _⟩ := h
    rfl
  · obtain ⟨a, b, rs, ts, rfl, hR, ho, hT, hto, q⟩ := h
    refine ⟨_, (pss_cons (ps_expr (pe_cl c_need_both hr (by decide) (by rfl) (pa_cons (pv 0) (pa_cons (pv 1) pa_nil))))
      (pss_one (ps_ret (pe_sumVals rfl (by rfl) B.sum (pe_ix ix_list (pe_cl c_layers_of hr (by decide) (by rfl) (pa_cons (pv 0) (pa_cons (pv 1) pa_nil))) (pe_un un_neg pe_int) (fun _ _ => rfl)))))), ?_⟩
    refine ⟨_, rfl, _, rfl, a, b, rs, ts, rfl, hR, ho, hT, hto, fun H1 s1 => ?_⟩
    refine ⟨_, rfl, _, rfl, a, b, rs, ts, rfl, hR.same s1, ho, hT.same s1, hto, fun H2 o l d kvs s2 h2o h2d hrp => ?_⟩
    have key : ∃ is : List Int, kvs.map (·.2) = is.map V.int ∧ (∀ i ∈ is, 0 < i) ∧ is.length = kvs.length := by
      have := hrp.all
      clear hrp h2d
      induction kvs with
      | nil => exact ⟨[], rfl, fun i h => (by cases h), rfl⟩
      | cons kv r ih =>
        obtain ⟨is, e1, e2, e3⟩ := ih fun kv hkv => this kv (List.mem_cons_of_mem _ hkv)
        obtain ⟨t, c, h1, h2, _⟩ := this kv List.mem_cons_self
        refine ⟨c :: is, by rw [List.map_cons, List.map_cons, e1, h1], fun i hi => ?_, by rw [List.length_cons, List.length_cons, e3]⟩
        rcases List.mem_cons.mp hi with rfl | hi
        · exact h2
        · exact e2 i hi
    obtain ⟨is, e1, e2, e3⟩ := key
    refine ⟨1, rfl, o, _, -1, .ref d, rfl, rfl, .of h2o, atI_last _ _, d, kvs, is, rfl, h2d, e1, q _ _ (s1.trans s2) ?_⟩
    rw [fill_iff ho hto]
    constructor
    · intro h
      cases kvs with
      | nil =>
        rw [List.length_eq_zero_iff.mp e3] at h
        exact absurd h (by decide)
      | cons kv r =>
        obtain ⟨t, c, _, _, ht⟩ := hrp.all kv List.mem_cons_self
        exact ⟨t, ht⟩
    · rintro ⟨t, ht⟩
      have hne : is ≠ [] := fun z => by
        rw [z] at e3
        have := hrp.has t ht
        rw [List.length_eq_zero_iff.mp e3.symm] at this
        cases this
      have nn : ∀ l : List Int, (∀ i ∈ l, 0 < i) → 0 ≤ l.sum := fun l => by
        induction l with
        | nil => exact fun _ => Int.le_refl 0
        | cons x r ih =>
          intro h
          have h1 := h x List.mem_cons_self
          have h2 := ih fun i hi => h i (List.mem_cons_of_mem _ hi)
          rw [List.sum_cons]
          omega
      cases is with
      | nil => exact absurd rfl hne
      | cons x r =>
        have h1 := e2 x List.mem_cons_self
        have h2 := nn r fun i hi => e2 i (List.mem_cons_of_mem _ hi)
        rw [List.sum_cons]
        omega
end
end K5
end
section
set_option Elab.async false
set_option linter.all false
set_option maxRecDepth 100000
set_option maxHeartbeats 4000000
/-! Walks, 6: the steps. -/
namespace K5
open PySem PySem.Spec PyProof.Rows L2
/-! ### a dict by pairs -/
theorem putK_keys (kvs : List (List L2.Key × V)) (k : List L2.Key) (v : V) : (putK kvs k v).map (·.1) = kvs.map (·.1) ∨ (valV kvs k = none ∧ (putK kvs k v).map (·.1) = kvs.map (·.1) ++ [k]) := by
  cases e : valV kvs k with
  | none => exact .inr ⟨rfl, by rw [putK_new _ e, List.map_append]; rfl⟩
  | some u =>
    have hany : (kvs.any fun kv => decide (kv.1 = k)) = true := by rw [valV_any, e]; rfl
    left
    unfold putK
    rw [if_pos hany, List.map_map]
    refine List.map_congr_left fun kv _ => ?_
    show (if kv.1 = k then (kv.1, v) else kv).1 = kv.1
    split <;> rfl
def nP (a b : Nat) : List L2.Key := kPair ((a : Int), (b : Int))
theorem nP_inj {a b c d : Nat} (e : nP a b = nP c d) : a = c ∧ b = d := by
  unfold nP kPair at e
  injection e with e1 e2
  injection e2 with e2 _
  injection e1 with e1
  injection e2 with e2
  exact ⟨Int.ofNat.inj e1, Int.ofNat.inj e2⟩
theorem nP_kV (a b : Nat) : (nP a b).map kV = [.int a, .int b] := rfl
structure Gp (G : Nat → Nat → Option Int) (m : Nat) (kvs : List (List L2.Key × V)) : Prop where
  nd : (kvs.map (·.1)).Nodup
  key : ∀ k ∈ kvs.map (·.1), ∃ a b : Nat, k = nP a b
  val : ∀ a b, valV kvs (nP a b) = (G a b).map V.int
  few : kvs.length ≤ m
theorem Gp.iff {G G' : Nat → Nat → Option Int} {m m' : Nat} {kvs : List (List L2.Key × V)} (h : Gp G m kvs) (e : ∀ a b, G a b = G' a b) (hm : m ≤ m') : Gp G' m' kvs :=
  ⟨h.nd, h.key, fun a b => by rw [h.val, e], Nat.le_trans h.few hm⟩
theorem Gp.nil : Gp (fun _ _ => none) 0 [] := ⟨by simp, fun k hk => (by cases hk), fun _ _ => rfl, Nat.le_refl 0⟩
theorem Gp.put {G : Nat → Nat → Option Int} {m : Nat} {kvs : List (List L2.Key × V)} (h : Gp G m kvs) (a b : Nat) (g : Int) : Gp (fun x y => if x = a ∧ y = b then some g else G x y) (m + 1) (putK kvs (nP a b) (.int g)) := by
  have hk := putK_keys kvs (nP a b) (.int g)
  refine ⟨?_, fun k hkm => ?_, fun x y => ?_, ?_⟩
  · rcases hk with e | ⟨e0, e⟩
    · rw [e]; exact h.nd
    · rw [e]; exact nd_snoc h.nd (valV_not e0)
  · rcases hk with e | ⟨e0, e⟩
    · rw [e] at hkm; exact h.key k hkm
    · rw [e] at hkm
      rcases List.mem_append.mp hkm with z | z
      · exact h.key k z
      · exact ⟨a, b, List.mem_singleton.mp z⟩
  · rw [valV_put]
    by_cases z : x = a ∧ y = b
    · obtain ⟨rfl, rfl⟩ := z
      rw [if_pos rfl, if_pos ⟨rfl, rfl⟩]
      rfl
    · rw [if_neg (fun e => z (nP_inj e)), if_neg z, h.val]
  · have hl : (putK kvs (nP a b) (.int g)).length = ((putK kvs (nP a b) (.int g)).map (·.1)).length := (List.length_map _).symm
    have := h.few
    rcases hk with e | ⟨e0, e⟩
    · rw [hl, e, List.length_map]; omega
    · rw [hl, e, List.length_append, List.length_map, List.length_singleton]; omega
theorem Gp.put2 {G G' : Nat → Nat → Option Int} {m : Nat} {kvs : List (List L2.Key × V)} (h : Gp G m kvs) {a b c d : Nat} {g g' : Int} (e : ∀ x y, (if x = c ∧ y = d then some g' else if x = a ∧ y = b then some g else G x y) = G' x y) : Gp G' (m + 2) (putK (putK kvs (nP a b) (.int g)) (nP c d) (.int g')) :=
  ((h.put a b g).put c d g').iff e (Nat.le_refl _)
/-! ### what the loops build -/
def baseN (ts : List (Option Int)) (i a b : Nat) : Option Int :=
  if b = a + 1 ∧ a < i then some (if ts[a]? = some (some 1) then 1 else 0)
  else if a = b + 1 ∧ b < i then some (if ts[b]? = some (some 0) then 0 else -1) else none
theorem baseN_step (ts : List (Option Int)) (i x y : Nat) : (if x = i + 1 ∧ y = i then some (if ts[i]? = some (some 0) then (0 : Int) else -1) else if x = i ∧ y = i + 1 then some (if ts[i]? = some (some 1) then 1 else 0) else baseN ts i x y) = baseN ts (i + 1) x y := by
  by_cases h1 : x = i + 1 ∧ y = i
  · obtain ⟨rfl, rfl⟩ := h1
    rw [if_pos ⟨rfl, rfl⟩]
    unfold baseN
    rw [if_neg (c := y = y + 1 + 1 ∧ y + 1 < y + 1) (by omega), if_pos (c := y + 1 = y + 1 ∧ y < y + 1) (by omega)]
  · rw [if_neg h1]
    by_cases h2 : x = i ∧ y = i + 1
    · obtain ⟨rfl, rfl⟩ := h2
      rw [if_pos ⟨rfl, rfl⟩]
      unfold baseN
      rw [if_pos (c := x + 1 = x + 1 ∧ x < x + 1) (by omega)]
    · rw [if_neg h2]
      unfold baseN
      by_cases h3 : y = x + 1 ∧ x < i
      · rw [if_pos h3, if_pos (c := y = x + 1 ∧ x < i + 1) (by omega)]
      · rw [if_neg h3, if_neg (c := y = x + 1 ∧ x < i + 1) (by omega)]
        by_cases h4 : x = y + 1 ∧ y < i
        · rw [if_pos h4, if_pos (c := x = y + 1 ∧ y < i + 1) (by omega)]
        · rw [if_neg h4, if_neg (c := x = y + 1 ∧ y < i + 1) (by omega)]
def rstepN (i : Nat) (r : Rule) (a b : Nat) : Option Int := if b = a + r.1 ∧ a < i then some (r.2.1 : Int) else if a = b + r.1 ∧ b < i then some (-(r.2.2 : Int)) else none
theorem maxO_none (z : Option Int) : maxO z none = z := by cases z <;> rfl
theorem rstepN_step {i : Nat} {r : Rule} (hr : 1 ≤ r.1) (G : Nat → Nat → Option Int) {g g' : Int} (e1 : maxO (G i (i + r.1)) (some (r.2.1 : Int)) = some g) (e2 : maxO (G (i + r.1) i) (some (-(r.2.2 : Int))) = some g') (x y : Nat) :
    (if x = i + r.1 ∧ y = i then some g' else if x = i ∧ y = i + r.1 then some g else maxO (G x y) (rstepN i r x y)) = maxO (G x y) (rstepN (i + 1) r x y) := by
  by_cases h1 : x = i + r.1 ∧ y = i
  · obtain ⟨rfl, rfl⟩ := h1
    rw [if_pos ⟨rfl, rfl⟩, ← e2]
    unfold rstepN
    rw [if_neg (by omega), if_pos (by omega)]
  · rw [if_neg h1]
    by_cases h2 : x = i ∧ y = i + r.1
    · obtain ⟨rfl, rfl⟩ := h2
      rw [if_pos ⟨rfl, rfl⟩, ← e1]
      unfold rstepN
      rw [if_pos (by omega)]
    · rw [if_neg h2]
      have : rstepN i r x y = rstepN (i + 1) r x y := by
        unfold rstepN
        by_cases h3 : y = x + r.1 ∧ x < i
        · rw [if_pos h3, if_pos (c := y = x + r.1 ∧ x < i + 1) (by omega)]
        · rw [if_neg h3, if_neg (c := y = x + r.1 ∧ x < i + 1) (by omega)]
          by_cases h4 : x = y + r.1 ∧ y < i
          · rw [if_pos h4, if_pos (c := x = y + r.1 ∧ y < i + 1) (by omega)]
          · rw [if_neg h4, if_neg (c := x = y + r.1 ∧ y < i + 1) (by omega)]
      rw [this]
theorem rstepN_off {i : Nat} {r : Rule} (hr : 1 ≤ r.1) : rstepN i r i (i + r.1) = none ∧ rstepN i r (i + r.1) i = none := by
  unfold rstepN
  constructor
  · rw [if_neg (by omega), if_neg (by omega)]
  · rw [if_neg (by omega), if_neg (by omega)]
theorem rstepN_all {n : Nat} {r : Rule} (hr : 1 ≤ r.1) (a b : Nat) : rstepN (n + 1 - r.1) r a b = rstep n r a b := by
  unfold rstepN rstep
  by_cases h3 : b = a + r.1 ∧ b ≤ n
  · rw [if_pos h3, if_pos (c := b = a + r.1 ∧ a < n + 1 - r.1) (by omega)]
  · rw [if_neg h3, if_neg (c := b = a + r.1 ∧ a < n + 1 - r.1) (by omega)]
    by_cases h4 : a = b + r.1 ∧ a ≤ n
    · rw [if_pos h4, if_pos (c := a = b + r.1 ∧ b < n + 1 - r.1) (by omega)]
    · rw [if_neg h4, if_neg (c := a = b + r.1 ∧ b < n + 1 - r.1) (by omega)]
theorem rstepN_zero (r : Rule) (a b : Nat) : rstepN 0 r a b = none := by
  unfold rstepN
  rw [if_neg (by omega), if_neg (by omega)]
/-- the greater of what is there, or this, and this -/
theorem max_get (o : Option Int) (y : Int) : ∃ g : Int, (o.map V.int).getD (.int y) = .int g ∧ maxO o (some y) = some (if y > g then y else g) := by
  cases o with
  | none => exact ⟨y, rfl, by show some y = _; rw [if_neg (by omega)]⟩
  | some x => exact ⟨x, rfl, rfl⟩
def gainFrom' (n : Nat) (z : Nat → Nat → Option Int) (rs : List Rule) (a b : Nat) : Option Int := gainFrom n (z a b) rs a b
theorem gainFrom_take {n : Nat} {z : Option Int} {rs : List Rule} {j : Nat} {r : Rule} (e : rs[j]? = some r) (a b : Nat) : gainFrom n z (rs.take (j + 1)) a b = maxO (gainFrom n z (rs.take j) a b) (rstep n r a b) := by
  unfold gainFrom
  rw [List.take_add_one, e, List.foldl_append]
  rfl
theorem toV_eq (o : Option Int) (k : Int) : decide (toV o = .int k) = decide (o = some k) := by
  cases o with
  | none => rfl
  | some z =>
    by_cases e : z = k
    · rw [e, decide_eq_true rfl]
      exact decide_eq_true rfl
    · rw [decide_eq_false (fun q => e (Option.some.inj q))]
      exact decide_eq_false (fun q => e (V.int.inj q))
theorem toV_scal (o : Option Int) (k : Int) : scal (toV o) (.int k) = true := by cases o <;> rfl
/-- int(place == k) -/
def tIntIs (i : Nat) (k : Int) : TE := fun σ H Q => ∃ o : Option Int, σ[i]? = some (some (toV o)) ∧ Q (.int (if o = some k then 1 else 0)) H
theorem intIs_imp {i : Nat} {k : Int} (σ : L2.St) (H : Hp) (Q : VK) (h : tIntIs i k σ H Q) : tCB (fun xs H Q => (∃ i, xs = [V.int i] ∧ Q (.int i) H) ∨ ∃ k, xs = [V.bl k] ∧ Q (.int (if k then 1 else 0)) H) (tCons (tOp rEq (tVar i) (tC (.int k))) tNil) σ H Q := by
  obtain ⟨o, h1, q⟩ := h
  refine ⟨_, h1, toV_scal o k, .inr ⟨_, rfl, ?_⟩⟩
  rw [toV_eq]
  by_cases e : o = some k
  · rw [decide_eq_true e, if_pos rfl]
    rw [if_pos e] at q
    exact q
  · rw [decide_eq_false e, if_neg (by decide)]
    rw [if_neg e] at q
    exact q
/-- 0 if place == 0 else -1 -/
def tNought (i : Nat) : TE := fun σ H Q => ∃ o : Option Int, σ[i]? = some (some (toV o)) ∧ Q (.int (if o = some 0 then 0 else -1)) H
theorem nought_imp {i : Nat} (σ : L2.St) (H : Hp) (Q : VK) (h : tNought i σ H Q) : tIf (tTest (tOp rEq (tVar i) (tC (.int 0)))) (tC (.int 0)) (tUn (rU fun i => .int (-i)) (tC (.int 1))) σ H Q := by
  obtain ⟨o, h1, q⟩ := h
  refine ⟨_, h1, toV_scal o 0, _, rfl, ?_⟩
  show if decide (toV o = .int 0) = true then _ else _
  rw [toV_eq]
  by_cases e : o = some 0
  · rw [if_pos e] at q
    exact teT (decide_eq_true e) q
  · rw [if_neg e] at q
    exact teF (decide_eq_false e) ⟨1, rfl, q⟩
theorem walk_rangeN {n m : Nat} (h : n = m) : Walk (Itr 0 m) n (fun _ => True) (YFn fun i => .int (i : Nat)) := by
  subst h
  refine ⟨fun _ _ hi _ => hi, fun _ _ => Nat.le_refl _, fun i H x H' _ _ y => ⟨y.1, ?_⟩⟩
  rw [y.2, Int.zero_add]
/-! ### the list of steps -/
def edV (e : Edge) : List V := [.int e.1, .int e.2.1, .int e.2.2]
def StepsAt (H : Hp) (p : Addr) (ss : List Edge) : Prop := ∃ as : List Addr, H p = some (.lst (as.map V.ref)) ∧ as.length = ss.length ∧ ∀ (i : Nat) b e, as[i]? = some b → ss[i]? = some e → H b = some (.tup (edV e))
theorem StepsAt.same {H H' : Hp} {p : Addr} {ss : List Edge} (h : StepsAt H p ss) (s : Same H H') : StepsAt H' p ss := by
  obtain ⟨as, h1, h2, h3⟩ := h
  exact ⟨as, s _ _ h1, h2, fun i b e e1 e2 => s _ _ (h3 i b e e1 e2)⟩
theorem small1000' {n : Nat} (h : n ≤ 9000) : n < sizeLine := Nat.lt_of_le_of_lt h (by decide)
theorem paired_len {A B : Type} {F : A → B → Prop} : ∀ {xs : List A} {ys : List B}, Paired F xs ys → xs.length = ys.length
  | _, _, .nil => rfl
  | _, _, .cons _ t => by rw [List.length_cons, List.length_cons, paired_len t]
theorem paired_at {A B : Type} {F : A → B → Prop} : ∀ {xs : List A} {ys : List B}, Paired F xs ys → ∀ {i : Nat} {x : A} {y : B}, xs[i]? = some x → ys[i]? = some y → F x y
  | _, _, .nil, _, _, _, e, _ => by cases e
  | _, _, .cons h t, 0, _, _, e1, e2 => by
    cases e1
    cases e2
    exact h
  | _, _, .cons h t, i + 1, _, _, e1, e2 => paired_at t (i := i) e1 e2
theorem steps_split {rs : List Rule} {ts : List (Option Int)} {ys : List (Int × Int)} {H : Hp} : ∀ {zs : List V} {k : Nat}, (∀ i y, zs[i]? = some y → ∃ (T : Addr) (x1 x2 : Nat) (g : Int), y = .ref T ∧ ys[k + i]? = some ((x1 : Int), (x2 : Int)) ∧ gainOf rs ts x1 x2 = some g ∧ H T = some (.tup [.int x1, .int x2, .int g])) →
    ∃ (cs : List Addr) (ss : List Edge), zs = cs.map V.ref ∧ cs.length = ss.length ∧ ss.length = zs.length ∧ ∀ (i : Nat) c e, cs[i]? = some c → ss[i]? = some e → ys[k + i]? = some ((e.1 : Int), (e.2.1 : Int)) ∧ gainOf rs ts e.1 e.2.1 = some e.2.2 ∧ H c = some (.tup (edV e))
  | [], k, _ => ⟨[], [], rfl, rfl, rfl, fun i c e h => (by cases h)⟩
  | z :: zs, k, h => by
    obtain ⟨cs, ss, h1, h2, h3, h4⟩ := steps_split (zs := zs) (k := k + 1) fun i y e => by
      have := h (i + 1) y e
      rw [show k + (i + 1) = k + 1 + i by omega] at this
      exact this
    obtain ⟨T, x1, x2, g, g1, g2, g3, g4⟩ := h 0 z rfl
    refine ⟨T :: cs, (x1, x2, g) :: ss, by rw [List.map_cons, ← h1, g1], by rw [List.length_cons, List.length_cons, h2], by rw [List.length_cons, List.length_cons, h3], fun i c e e1 e2 => ?_⟩
    cases i with
    | zero =>
      cases e1
      cases e2
      exact ⟨g2, g3, g4⟩
    | succ i =>
      have := h4 i c e e1 e2
      rw [show k + 1 + i = k + (i + 1) by omega] at this
      exact this
section
variable {P : Program} {w : World} {K : PySem.W.Frag} {mg : Str → Option Value} {base : Heap}
/-! ### steps_of -/
abbrev s_steps_of : Stmt := topS 23
theorem sc_steps_of : FnScope ["rules", "told", "found", "at", "place", "span", "least", "most", "one", "other"] ["rules", "told"] (defScope s_steps_of) := ⟨rfl, rfl, rfl, by decide +kernel, rfl, by decide +kernel, by decide +kernel⟩
def spSteps : Sp := fun vs H Q _ => ∃ (a b : Addr) (rs : List Rule) (ts : List (Option Int)), vs = [.ref a, .ref b] ∧ RulesAt H a rs ∧ RulesOk rs ∧ ToldAt H b ts ∧ ToldOk ts ∧
  ∀ H' p ss, Same H H' → H p = none → StepsAt H' p ss → StepsOf rs ts ss → ss.length ≤ 2000 → Q (.ref p) H'
theorem ok_steps_of (B : Bu mg) (D : Df K mg "steps_of" s_steps_of ["rules", "told"]) : Cl P w K mg base 1 "steps_of" spSteps := by
  refine D.cl sc_steps_of (fun vs H Q E h => ?_) fun f cdv A outer s H vs Q E hr h => ?_
  · obtain ⟨a, b, rs, ts, rfl, _⟩ := h
    rfl
  · obtain ⟨a, b, rs, ts, rfl, hR, ho, hT, hto, q⟩ := h
    obtain ⟨as, hl, ha, hrs⟩ := id hR
    have hu := hu_of hr
    have hfew := hto.few
    have hrf := ho.few
    refine ⟨_, (pss_cons (ps_set (i := 2) sc_steps_of.nd rfl (Or.inr rfl) pe_dnewT)
      (pss_cons (ps_for PassesOwn.never rfl (pi_enumT (by rfl) B.enumerate (pa_cons (pv 1) pa_nil)) (pg_tup rfl (pgs_cons (pg_name (i := 3) sc_steps_of.nd rfl (Or.inl rfl)) (pgs_cons (pg_name (i := 4) sc_steps_of.nd rfl (Or.inl rfl)) pgs_nil)))
        (pss_cons (ps_dput hu (pv 2) (pe_tup (pa_cons (pv 3) (pa_cons (pe_op op_add (pv 3) pe_int) pa_nil))) (PE.imp (t' := tIntIs 4 1) (pe_callTy call_int1 (by rfl) B.int (by decide +kernel) (pa_cons (pe_cmpR op_eq (pv 4) pe_int (nomark _)) pa_nil)) intIs_imp) rfl)
        (pss_one (ps_dput hu (pv 2) (pe_tup (pa_cons (pe_op op_add (pv 3) pe_int) (pa_cons (pv 3) pa_nil))) (PE.imp (t' := tNought 4) (pe_ifExp (pt_cmpR op_eq (pv 4) pe_int (nomark _)) pe_int (pe_un un_neg pe_int)) nought_imp) rfl))))
      (pss_cons (ps_for PassesOwn.never rfl (pi_tup (pv 0)) (pg_tup rfl (pgs_cons (pg_name (i := 5) sc_steps_of.nd rfl (Or.inl rfl)) (pgs_cons (pg_name (i := 6) sc_steps_of.nd rfl (Or.inl rfl)) (pgs_cons (pg_name (i := 7) sc_steps_of.nd rfl (Or.inl rfl)) pgs_nil))))
        (pss_one (ps_for PassesOwn.never rfl (pi_range1 (by rfl) B.range (pa_cons (pe_op op_sub (pe_op op_add (pe_callB call_len_seq (by rfl) B.len PySem.boot_len (pa_cons (pv 1) pa_nil)) pe_int) (pv 5)) pa_nil)) (pg_name (i := 3) sc_steps_of.nd rfl (Or.inl rfl))
          (pss_cons (ps_dput hu (pv 2) (pe_tup (pa_cons (pv 3) (pa_cons (pe_op op_add (pv 3) (pv 5)) pa_nil))) (pe_callB (call_max2 rfl) (by rfl) B.max (by decide +kernel) (pa_cons (pe_dget2 hu (pv 2) (pe_tup (pa_cons (pv 3) (pa_cons (pe_op op_add (pv 3) (pv 5)) pa_nil))) (pv 6) ⟨rfl, rfl, rfl, rfl⟩) (pa_cons (pv 6) pa_nil))) rfl)
          (pss_one (ps_dput hu (pv 2) (pe_tup (pa_cons (pe_op op_add (pv 3) (pv 5)) (pa_cons (pv 3) pa_nil))) (pe_callB (call_max2 rfl) (by rfl) B.max (by decide +kernel) (pa_cons (pe_dget2 hu (pv 2) (pe_tup (pa_cons (pe_op op_add (pv 3) (pv 5)) (pa_cons (pv 3) pa_nil))) (pe_un un_neg (pv 7)) ⟨rfl, rfl, rfl, rfl⟩) (pa_cons (pe_un un_neg (pv 7)) pa_nil))) rfl))))))
      (pss_one (ps_ret (pe_lc (own := [("one", 8), ("other", 9)]) (g := gTup K 2 (gCons (gName 8) (gCons (gName 9) gNil))) (tt := tYes) rfl sc_steps_of.nd (pi_list (pe_callB (cr_sortedDT rfl) (by rfl) B.sorted (by decide +kernel) (pa_cons (pv 2) pa_nil))) (blkOk_by (N := ["rules", "told", "found", "at", "place", "span", "least", "most", "one", "other"]) (sc := defScope s_steps_of) (by decide +kernel)) (fun _ _ _ _ _ => (pg_tup rfl (pgs_cons (pg_name (i := 8) sc_steps_of.nd rfl (.inl rfl)) (pgs_cons (pg_name (i := 9) sc_steps_of.nd rfl (.inl rfl)) pgs_nil)))) (fun _ _ _ _ _ => pts_nil) (fun _ _ _ _ _ => (pe_tup (pa_cons (pv 8) (pa_cons (pv 9) (pa_cons (pe_dget hu (pv 2) (pe_tup (pa_cons (pv 8) (pa_cons (pv 9) pa_nil))) (fun _ _ => rfl)) pa_nil))))))))))), ?_⟩
    refine fun m nm => ?_
    have s1 : Same H (upd H m (.dT [])) := same_upd nm
    refine ⟨_, rfl, b, _, rfl, .of (s1 _ _ hT), ?_⟩
    refine for_it (walk_enumT (xs := ts.map toV)) (fun i σ H3 => Same H H3 ∧ (∃ kvs, H3 m = some (.dT kvs) ∧ Gp (baseN ts i) (2 * i) kvs) ∧ ∃ y3 y4 y5 y6 y7 y8 y9, σ = [some (.ref a), some (.ref b), some (.ref m), y3, y4, y5, y6, y7, y8, y9])
      ⟨s1, ⟨[], upd_same, Gp.nil.iff (fun x y => (by unfold baseN; rw [if_neg (c := y = x + 1 ∧ x < 0) (by omega), if_neg (c := x = y + 1 ∧ y < 0) (by omega)])) (Nat.le_refl 0)⟩, _, _, _, _, _, _, _, rfl⟩ (fun i σ H3 _ hP => .of (hP.1 _ _ hT)) (fun i x σ H3 H4 hi hP hx => ?_) fun σ H3 hP => ?_
    · obtain ⟨s3, ⟨kvs, h3m, hg⟩, y3, y4, y5, y6, y7, y8, y9, rfl⟩ := hP
      obtain ⟨T, x1, x2, rfl, nT, rfl, e1, e2⟩ := hx
      cases e1
      have e2 : (ts.map toV)[i]? = some x2 := e2
      obtain ⟨oo, eo, rfl⟩ := at_map e2
      have hi : i < ts.length := at_lt eo
      have s4 : Same H3 (upd H3 T (.tup [.int (i : Nat), toV oo])) := same_upd nT
      have h4m := s4 _ _ h3m
      refine ⟨T, _, rfl, .of upd_same, rfl, _, _, rfl, _, _, rfl, rfl, ?_⟩
      refine ⟨oo, rfl, _, rfl, _, rfl, _, rfl, _, _, rfl, rfl, by show 2 ≤ sizeLine; decide, fun t1 nt1 => ?_⟩
      have s5 : Same (upd H3 T (.tup [.int (i : Nat), toV oo])) _ := same_upd (o := .tup [.int (i : Nat), .int ((i : Nat) + 1)]) nt1
      refine ⟨m, _, rfl, .t (k := nP i (i + 1)) (s5 _ _ h4m) upd_same (Nat.lt_of_le_of_lt hg.few (small1000 (by omega))), ?_⟩
      refine ⟨oo, rfl, _, rfl, _, rfl, _, _, rfl, rfl, _, rfl, by show 2 ≤ sizeLine; decide, fun t2 nt2 => ?_⟩
      have s6 := same_upd (o := .tup [.int ((i : Nat) + 1), .int (i : Nat)]) nt2
      have hg1 := hg.put i (i + 1) (if oo = some 1 then 1 else 0)
      have nm0 : H m = none := nm
      have hm6 := s6 _ _ (upd_same (H := upd (upd H3 T (.tup [.int (i : Nat), toV oo])) t1 (.tup [.int (i : Nat), .int ((i : Nat) + 1)])) (a := m) (o := .dT (putK kvs (nP i (i + 1)) (.int (if oo = some 1 then 1 else 0)))))
      refine ⟨m, _, rfl, .t (k := nP (i + 1) i) hm6 upd_same (Nat.lt_of_le_of_lt hg1.few (small1000 (by omega))), ?_⟩
      refine ⟨Same.at (Same.trans (Same.at ((s3.trans s4).trans s5) nm) s6) nm, ⟨_, upd_same, (hg.put2 (fun x y => ?_)).iff (fun _ _ => rfl) (by omega)⟩, _, _, _, _, _, _, _, rfl⟩
      rw [← baseN_step, eo]
      have o0 : (some oo = some (some (0 : Int))) = (oo = some 0) := by rw [Option.some.injEq]
      have o1 : (some oo = some (some (1 : Int))) = (oo = some 1) := by rw [Option.some.injEq]
      simp only [o0, o1]
    · obtain ⟨s3, ⟨kvs, h3m, hg⟩, y3, y4, y5, y6, y7, y8, y9, rfl⟩ := hP
      rw [List.length_map] at hg
      refine ⟨.ref a, rfl, a, rfl, ⟨_, .of (s3 _ _ ha)⟩, ?_⟩
      refine for_it (walk_tupN (n := rs.length) (xs := as.map V.ref) (by rw [List.length_map, hl])) (fun j σ H3 => Same H H3 ∧ (∃ kvs, H3 m = some (.dT kvs) ∧ Gp (gainFrom' ts.length (K5.base ts) (rs.take j)) (240 + 260 * j) kvs) ∧ ∃ y3 y4 y5 y6 y7 y8 y9, σ = [some (.ref a), some (.ref b), some (.ref m), y3, y4, y5, y6, y7, y8, y9])
        ⟨s3, ⟨kvs, h3m, hg.iff (fun x y => rfl) (by omega)⟩, _, _, _, _, _, _, _, rfl⟩ (fun i σ H3 _ hP => .of (hP.1 _ _ ha)) (fun j x σ H3 H4 hj hP hx => ?_) fun σ H3 hP => ?_
      · obtain ⟨s3, ⟨kvs, h3m, hg⟩, y3, y4, y5, y6, y7, y8, y9, rfl⟩ := hP
        obtain ⟨rfl, hx⟩ := hx
        obtain ⟨b1, r, rfl, eb, er, hm⟩ := rule_at hl hx
        have hro := ho.each r hm
        have hr1 : 1 ≤ r.1 := hro.1
        have hr8 : r.1 ≤ 8 := hro.2.1
        refine ⟨b1, ruV r, rfl, .of (s3 _ _ (hrs j b1 r eb er)), rfl, _, _, rfl, _, _, rfl, _, _, rfl, rfl, ?_⟩
        have el : (((ts.map toV).length : Nat) : Int) + 1 - (r.1 : Int) = ((ts.length : Nat) : Int) + 1 - (r.1 : Int) := by rw [List.length_map]
        refine ⟨_, rfl, b, _, rfl, .inr (.of (s3 _ _ hT)), _, _, rfl, rfl, _, rfl, _, _, rfl, rfl, _, rfl, ?_, ?_, ?_⟩
        · show -(2 ^ 62) ≤ (((ts.map toV).length : Nat) : Int) + 1 - (r.1 : Int)
          rw [el]; omega
        · show (((ts.map toV).length : Nat) : Int) + 1 - (r.1 : Int) < 2 ^ 62
          rw [el]; omega
        refine for_it (walk_rangeN (n := ts.length + 1 - r.1) (by show _ = ((((ts.map toV).length : Nat) : Int) + 1 - (r.1 : Int)).toNat; rw [el]; omega)) (fun i σ H3 => Same H H3 ∧ (∃ kvs, H3 m = some (.dT kvs) ∧ Gp (fun x y => maxO (gainFrom' ts.length (K5.base ts) (rs.take j) x y) (rstepN i r x y)) (240 + 260 * j + 2 * i) kvs) ∧
            ∃ y3 y4 y8 y9, σ = [some (.ref a), some (.ref b), some (.ref m), y3, y4, some (.int r.1), some (.int r.2.1), some (.int r.2.2), y8, y9])
          ⟨s3, ⟨kvs, h3m, hg.iff (fun x y => by rw [rstepN_zero, maxO_none]) (by omega)⟩, _, _, _, _, rfl⟩ (fun _ _ _ _ _ => trivial) (fun i x σ H5 H6 hi hP hx => ?_) fun σ H5 hP => ?_
        · obtain ⟨s5, ⟨kvs, h5m, hg⟩, y3, y4, y8, y9, rfl⟩ := hP
          obtain ⟨rfl, rfl⟩ := hx
          have nP1 : (nP i (i + r.1)).map kV = [.int (i : Nat), .int ((i : Nat) + (r.1 : Int))] := by
            rw [nP_kV, Int.natCast_add]
          have nP2 : (nP (i + r.1) i).map kV = [.int ((i : Nat) + (r.1 : Int)), .int (i : Nat)] := by
            rw [nP_kV, Int.natCast_add]
          obtain ⟨o1, o2⟩ := rstepN_off (i := i) hr1
          obtain ⟨g, eg, mg1⟩ := max_get (gainFrom' ts.length (K5.base ts) (rs.take j) i (i + r.1)) (r.2.1 : Int)
          obtain ⟨g', eg', mg2⟩ := max_get (gainFrom' ts.length (K5.base ts) (rs.take j) (i + r.1) i) (-(r.2.2 : Int))
          have v1 := hg.val i (i + r.1)
          rw [o1, maxO_none] at v1
          refine ⟨_, rfl, m, rfl, .inr ⟨kvs, .inl h5m⟩, _, rfl, _, rfl, _, rfl, _, _, rfl, rfl, by show 2 ≤ sizeLine; decide, fun t1 nt1 => ?_⟩
          have s6 := same_upd (o := .tup [.int (i : Nat), .int ((i : Nat) + (r.1 : Int))]) nt1
          refine ⟨_, rfl, _, .t (k := nP i (i + r.1)) (s6 _ _ h5m) (by rw [nP1]; exact upd_same), _, rfl, g, (r.2.1 : Int), by rw [v1, eg], ?_⟩
          refine ⟨_, rfl, _, rfl, _, rfl, _, rfl, _, _, rfl, rfl, by show 2 ≤ sizeLine; decide, fun t2 nt2 => ?_⟩
          have s7 := s6.trans (same_upd (o := .tup [.int (i : Nat), .int ((i : Nat) + (r.1 : Int))]) nt2)
          refine ⟨m, _, rfl, .t (k := nP i (i + r.1)) (s7 _ _ h5m) (by rw [nP1]; exact upd_same) (Nat.lt_of_le_of_lt hg.few (small1000' (by omega))), ?_⟩
          have hg1 := hg.put i (i + r.1) (if (r.2.1 : Int) > g then (r.2.1 : Int) else g)
          have v2 := hg1.val (i + r.1) i
          rw [if_neg (c := i + r.1 = i ∧ i = i + r.1) (by omega), o2, maxO_none] at v2
          have s8 : Same H (upd (upd (upd H6 t1 (.tup [.int (i : Nat), .int ((i : Nat) + (r.1 : Int))])) t2 (.tup [.int (i : Nat), .int ((i : Nat) + (r.1 : Int))])) m (.dT (putK kvs (nP i (i + r.1)) (.int (if (r.2.1 : Int) > g then (r.2.1 : Int) else g))))) := Same.at (s5.trans s7) nm
          refine ⟨_, rfl, m, rfl, .inr ⟨_, .inl upd_same⟩, _, rfl, _, rfl, _, _, rfl, rfl, _, rfl, by show 2 ≤ sizeLine; decide, fun t3 nt3 => ?_⟩
          have s9 := same_upd (o := .tup [.int ((i : Nat) + (r.1 : Int)), .int (i : Nat)]) nt3
          refine ⟨_, rfl, (r.2.2 : Int), rfl, _, .t (k := nP (i + r.1) i) (s9 _ _ upd_same) (by rw [nP2]; exact upd_same), _, rfl, (r.2.2 : Int), rfl, g', -(r.2.2 : Int), by show [(valV _ _).getD (.int (-(r.2.2 : Int))), V.int (-(r.2.2 : Int))] = _; rw [v2, eg'], ?_⟩
          refine ⟨_, rfl, _, rfl, _, rfl, _, _, rfl, rfl, _, rfl, by show 2 ≤ sizeLine; decide, fun t4 nt4 => ?_⟩
          have s10 := s9.trans (same_upd (o := .tup [.int ((i : Nat) + (r.1 : Int)), .int (i : Nat)]) nt4)
          refine ⟨m, _, rfl, .t (k := nP (i + r.1) i) (s10 _ _ upd_same) (by rw [nP2]; exact upd_same) (Nat.lt_of_le_of_lt hg1.few (small1000' (by omega))), ?_⟩
          refine ⟨Same.at (s8.trans s10) nm, ⟨_, upd_same, (hg.put2 fun x y => rstepN_step hr1 _ mg1 mg2 x y).iff (fun _ _ => rfl) (by omega)⟩, _, _, _, _, rfl⟩
        · obtain ⟨s5, ⟨kvs, h5m, hg⟩, y3, y4, y8, y9, rfl⟩ := hP
          refine ⟨s5, ⟨kvs, h5m, hg.iff (fun x y => ?_) (by omega)⟩, _, _, _, _, _, _, _, rfl⟩
          rw [rstepN_all hr1]
          exact (gainFrom_take er x y).symm
      · obtain ⟨s3, ⟨kvs, h3m, hg⟩, y3, y4, y5, y6, y7, y8, y9, rfl⟩ := hP
        rw [List.take_of_length_le (Nat.le_refl _)] at hg
        have hgl : kvs.length ≤ 1540 := Nat.le_trans hg.few (by omega)
        -- the keys as pairs
        obtain ⟨ps, eps⟩ : ∃ ps : List (Int × Int), kvs.map (·.1) = ps.map kPair := by
          have := hg.key
          generalize kvs.map (·.1) = ks at this
          clear hg
          induction ks with
          | nil => exact ⟨[], rfl⟩
          | cons k r ih =>
            obtain ⟨ps, e⟩ := ih fun k hk => this k (List.mem_cons_of_mem _ hk)
            obtain ⟨a, b, e2⟩ := this k List.mem_cons_self
            exact ⟨((a : Int), (b : Int)) :: ps, by rw [List.map_cons, e, e2]; rfl⟩
        refine ⟨_, rfl, m, kvs, ps, rfl, .inl h3m, eps, fun ys bs p hperm hpair np => ?_⟩
        have hbl : bs.length = ys.length := paired_len hpair
        have hyl : ys.length = kvs.length := by
          rw [hperm.length_eq]
          have := congrArg List.length eps
          rw [List.length_map, List.length_map] at this
          exact this.symm
        have s4 : Same H3 (upd H3 p (.lst (bs.map V.ref))) := same_upd np
        have hin : ∀ (i : Nat) y, ys[i]? = some y → ∃ (x1 x2 : Nat) (g : Int), y = ((x1 : Int), (x2 : Int)) ∧ gainOf rs ts x1 x2 = some g ∧ valV kvs (nP x1 x2) = some (.int g) := fun i y ey => by
          have hm : y ∈ ps := hperm.mem_iff.mp (List.mem_of_getElem? ey)
          have hk : kPair y ∈ kvs.map (·.1) := by rw [eps]; exact List.mem_map.mpr ⟨y, hm, rfl⟩
          obtain ⟨x1, x2, e⟩ := hg.key _ hk
          have hv := hg.val x1 x2
          rw [← e] at hv
          have hv2 : (valV kvs (kPair y)).isSome = true := by
            cases z : valV kvs (kPair y) with
            | none => exact absurd hk (valV_not z)
            | some v => rfl
          cases z : gainFrom' ts.length (K5.base ts) rs x1 x2 with
          | none =>
            rw [hv, z] at hv2
            cases hv2
          | some g =>
            rw [z, e] at hv
            refine ⟨x1, x2, g, ?_, z, hv⟩
            unfold nP kPair at e
            injection e with e1 e2
            injection e1 with e1
            injection e2 with e2 _
            injection e2 with e2
            exact Prod.ext e1 e2
        refine ⟨p, rfl, ⟨_, .of upd_same⟩, fun D nD => ?_⟩
        refine lc_refs (walk_listN (n := ys.length) (xs := bs.map V.ref) (by rw [List.length_map, hbl])) (fun i y H6 => ∃ (T : Addr) (x1 x2 : Nat) (g : Int), y = .ref T ∧ ys[i]? = some ((x1 : Int), (x2 : Int)) ∧ gainOf rs ts x1 x2 = some g ∧ H6 T = some (.tup [.int x1, .int x2, .int g]))
          nD (by rw [hyl]; exact Nat.le_of_lt (small1000' (by omega))) (fun H' s' => .of (s' _ _ upd_same)) (fun i y H5 H6 kt h => ?_) (fun i x H5 H6 k hi s5 hx hk => ?_) fun H5 zs s5 hD hzl hz => ?_
        · obtain ⟨T, x1, x2, g, h1, h2, h3, h4⟩ := h
          exact ⟨T, x1, x2, g, h1, h2, h3, kt _ _ (fun l z => by cases z) h4⟩
        · obtain ⟨rfl, hx⟩ := hx
          obtain ⟨bb, eb, rfl⟩ := at_map hx
          obtain ⟨y, ey, _⟩ := lt_at hi
          obtain ⟨x1, x2, g, rfl, hgg, hv⟩ := hin i y ey
          have h6m := s5 _ _ (s4 _ _ h3m)
          have hb := s5 _ _ (s4 _ _ (paired_at hpair eb ey))
          refine ⟨bb, _, rfl, .of hb, rfl, _, _, rfl, _, _, rfl, rfl, rfl, ?_⟩
          refine ⟨_, rfl, _, rfl, _, rfl, _, rfl, _, rfl, by show 2 ≤ sizeLine; decide, fun t1 nt1 => ?_⟩
          have s6 := same_upd (o := .tup [.int (x1 : Nat), .int (x2 : Nat)]) nt1
          refine ⟨m, _, rfl, ?_, by show 3 ≤ sizeLine; decide, fun t2 nt2 => hk _ _ (Same.upd s6 nt2) ⟨t2, x1, x2, g, rfl, ey, hgg, upd_same⟩⟩
          rw [← hv]
          exact .t (k := nP x1 x2) (s6 _ _ h6m) upd_same
        · have hall : ∃ (cs : List Addr) (ss : List Edge), zs = cs.map V.ref ∧ cs.length = ss.length ∧ ss.length = zs.length ∧ ∀ (i : Nat) (c : Addr) (e : Edge), cs[i]? = some c → ss[i]? = some e → ys[i]? = some ((e.1 : Int), (e.2.1 : Int)) ∧ gainOf rs ts e.1 e.2.1 = some e.2.2 ∧ H5 c = some (.tup (edV e)) := by
            obtain ⟨cs, ss, h1, h2, h3, h4⟩ := steps_split (k := 0) (ys := ys) (zs := zs) (H := H5) (rs := rs) (ts := ts) fun i y e => by
              rw [Nat.zero_add]
              exact hz i y e
            exact ⟨cs, ss, h1, h2, h3, fun i c e e1 e2 => by
              have := h4 i c e e1 e2
              rw [Nat.zero_add] at this
              exact this⟩
          obtain ⟨cs, ss, rfl, hcl, hsl, hss⟩ := hall
          have hsl2 : ss.length = ys.length := by rw [hsl, hzl]
          refine q _ D ss ((s3.trans s4).trans s5) (Same.free (s3.trans s4) nD) ⟨cs, hD, hcl, fun i c e e1 e2 => (hss i c e e1 e2).2.2⟩ (fun x1 x2 g => ⟨fun hm => ?_, fun hgg => ?_⟩) (by omega)
          · obtain ⟨i, hi, e⟩ := List.mem_iff_getElem.mp hm
            obtain ⟨c, ec, _⟩ := lt_at (show i < cs.length by omega)
            have := (hss i c _ ec (List.getElem?_eq_getElem hi)).2.1
            rw [e] at this
            exact this
          · have hv := hg.val x1 x2
            have hv' : valV kvs (nP x1 x2) = some (.int g) := by rw [hv]; show (gainOf rs ts x1 x2).map V.int = _; rw [hgg]; rfl
            have hk := valV_in hv'
            rw [eps] at hk
            obtain ⟨y, hy, ey⟩ := List.mem_map.mp hk
            have ey2 : y = ((x1 : Int), (x2 : Int)) := by
              unfold nP kPair at ey
              injection ey with e1 e2
              injection e1 with e1
              injection e2 with e2 _
              injection e2 with e2
              exact Prod.ext e1 e2
            subst ey2
            obtain ⟨i, hi, e⟩ := List.mem_iff_getElem.mp (hperm.mem_iff.mpr hy)
            obtain ⟨c, ec, _⟩ := lt_at (show i < cs.length by omega)
            obtain ⟨ed, eed, hed⟩ := lt_at (show i < ss.length by omega)
            obtain ⟨h1, h2, _⟩ := hss i c ed ec eed
            rw [List.getElem?_eq_getElem hi, e] at h1
            have h3 := Option.some.inj h1
            obtain ⟨h4, h5⟩ := Prod.mk.inj h3
            have h4 := Int.ofNat.inj h4
            have h5 := Int.ofNat.inj h5
            rw [← h4, ← h5, hgg] at h2
            have h6 := Option.some.inj h2
            rw [show (x1, x2, g) = ed from by rw [h4, h5, h6]]
            exact hed
end
end K5
end
section
set_option Elab.async false
set_option linter.all false
set_option maxRecDepth 100000
set_option maxHeartbeats 4000000
/-! Walks, 7: the rounds that look for a ring; chain. -/
namespace K5
open PySem PySem.Spec PyProof.Rows L2
/-! ### lists by seams -/
def oV : Option Nat → V
  | none => .non
  | some u => .int u
def nV (u : Nat) : V := .int u
def farL (n : Nat) (f : Nat → Int) : List V := (List.range (n + 1)).map fun v => .int (f v)
def cameL (n : Nat) (f : Nat → Option Nat) : List V := (List.range (n + 1)).map fun v => oV (f v)
theorem range_at {A : Type} {m v : Nat} (f : Nat → A) (h : v < m) : ((List.range m).map f)[v]? = some (f v) := by
  rw [List.getElem?_map, List.getElem?_range h]
  rfl
theorem range_set {A B : Type} (m b : Nat) (f : Nat → A) (F : A → B) (x : A) : ((List.range m).map fun v => F (f v)).set b (F x) = (List.range m).map fun v => F (fupd f b x v) := by
  refine List.ext_getElem? fun i => ?_
  by_cases hi : i < m
  · rw [range_at (fun v => F (fupd f b x v)) hi]
    by_cases e : i = b
    · subst e
      rw [List.getElem?_set_self (by rw [List.length_map, List.length_range]; exact hi), fupd_same]
    · rw [List.getElem?_set_ne (fun z => e z.symm), range_at (fun v => F (f v)) hi, fupd_ne _ _ e]
  · rw [List.getElem?_eq_none (by rw [List.length_set, List.length_map, List.length_range]; omega), List.getElem?_eq_none (by rw [List.length_map, List.length_range]; omega)]
theorem farL_len (n : Nat) (f : Nat → Int) : (farL n f).length = n + 1 := by
  unfold farL
  rw [List.length_map, List.length_range]
theorem cameL_len (n : Nat) (f : Nat → Option Nat) : (cameL n f).length = n + 1 := by
  unfold cameL
  rw [List.length_map, List.length_range]
theorem farL_set (n b : Nat) (f : Nat → Int) (x : Int) : (farL n f).set b (.int x) = farL n (fupd f b x) := range_set (n + 1) b f V.int x
theorem cameL_set (n b u : Nat) (f : Nat → Option Nat) : (cameL n f).set b (.int u) = cameL n (fupd f b (some u)) := range_set (n + 1) b f oV (some u)
theorem farL_at {n v : Nat} (f : Nat → Int) (h : v ≤ n) : atI (farL n f) (v : Int) = some (.int (f v)) := atI_nat (range_at (fun v => V.int (f v)) (by omega))
theorem cameL_at {n v : Nat} (f : Nat → Option Nat) (h : v ≤ n) : atI (cameL n f) (v : Int) = some (oV (f v)) := atI_nat (range_at (fun v => oV (f v)) (by omega))
theorem ixN_nat {n v : Nat} (h : v < n) : ixN n (v : Int) = some v := by
  unfold ixN
  rw [if_pos (by omega), if_pos (by omega)]
  rfl
theorem rep_range {A : Type} (m : Nat) (x : A) : (List.replicate m [x]).flatten = (List.range m).map fun _ => x := by
  refine List.ext_getElem? fun i => ?_
  rw [List.flatten_replicate_singleton]
  by_cases hi : i < m
  · rw [range_at (fun _ => x) hi, List.getElem?_replicate, if_pos hi]
  · rw [List.getElem?_replicate, if_neg hi, List.getElem?_eq_none (by rw [List.length_map, List.length_range]; omega)]
theorem upN_pre {came : Nat → Option Nat} {v h : Nat} : ∀ {j i : Nat}, upN came (i + j) v = some h → ∃ u, upN came i v = some u
  | 0, i, e => ⟨h, e⟩
  | j + 1, i, e => by
    obtain ⟨w, hw, _⟩ := upN_before (m := i + j) e
    exact upN_pre hw
theorem way_lt {came : Nat → Option Nat} {n : Nat} (lim : ∀ v u, came v = some u → u ≤ n) {v : Nat} (hv : v ≤ n) : ∀ {m u : Nat}, upN came m v = some u → u ≤ n
  | 0, u, e => by cases e; exact hv
  | m + 1, u, e => by
    obtain ⟨w, _, hc⟩ := upN_before e
    exact lim w u hc
theorem way_all {came : Nat → Option Nat} {n : Nat} (lim : ∀ v u, came v = some u → u ≤ n) {v : Nat} (hv : v ≤ n) {m u : Nat} (e : upN came m v = some u) : ∀ x ∈ way came v m, x ≤ n := fun x hx => by
  unfold way at hx
  obtain ⟨j, hj, rfl⟩ := List.mem_map.mp hx
  rw [List.mem_range] at hj
  obtain ⟨w, hw⟩ := upN_pre (i := j) (j := m - j) (came := came) (v := v) (h := u) (by rw [show j + (m - j) = m by omega]; exact e)
  rw [hw]
  exact way_lt lim hv hw
theorem ring_few {came : Nat → Option Nat} {n h q : Nat} (lim : ∀ v u, came v = some u → u ≤ n) (hh : h ≤ n) (hq : upN came q h = some h) (least : ∀ j, 1 ≤ j → j < q → upN came j h ≠ some h) : q ≤ n + 1 := by
  refine Nat.le_of_not_lt fun hlt => ?_
  have at_ : ∀ j, j ≤ q → ∃ u, upN came j h = some u ∧ u ≤ n := fun j hj => by
    obtain ⟨u, hu⟩ := upN_pre (i := j) (j := q - j) (came := came) (v := h) (h := h) (by rw [show j + (q - j) = q by omega]; exact hq)
    exact ⟨u, hu, way_lt lim hh hu⟩
  obtain ⟨i, j, hij, hj, e⟩ := pigeon (n + 1) (fun j => (upN came j h).getD 0) fun j hj => by
    obtain ⟨u, hu, hun⟩ := at_ j (by omega)
    show (upN came j h).getD 0 < n + 1
    rw [hu]
    show u < n + 1
    omega
  obtain ⟨u, hu, _⟩ := at_ i (by omega)
  obtain ⟨u', hu', _⟩ := at_ j (by omega)
  have e' : (upN came i h).getD 0 = (upN came j h).getD 0 := e
  rw [hu, hu'] at e'
  have e2 : u = u' := e'
  subst e2
  have h1 := upN_add came j (q - j) h u hu'
  rw [show j + (q - j) = q by omega, hq] at h1
  have h2 := upN_add came i (q - j) h u hu
  rw [← h1] at h2
  exact least (i + (q - j)) (by omega) (by omega) h2
theorem atI_way {l : List Nat} {u : Nat} (e : l.getLast? = some u) : atI (l.map nV) (-1) = some (.int (u : Int)) := by
  obtain ⟨init, rfl⟩ : ∃ init, l = init ++ [u] := by
    cases l with
    | nil => cases e
    | cons x r =>
      refine ⟨(x :: r).dropLast, ?_⟩
      have h := List.dropLast_concat_getLast (List.cons_ne_nil x r)
      rw [List.getLast?_eq_getLast (List.cons_ne_nil x r)] at e
      rw [Option.some.inj e] at h
      exact h.symm
  rw [List.map_append]
  exact atI_last _ _
/-- a ring that gains -/
def RingOk (rs : List Rule) (ts : List (Option Int)) (ns : List Nat) : Prop := (∃ s, gains rs ts ns = some s ∧ 0 < s) ∧ 2 ≤ ns.length ∧ ns.head? = ns.getLast? ∧ ∀ x ∈ ns, x ≤ ts.length
section
variable {P : Program} {w : World} {K : PySem.W.Frag} {mg : Str → Option Value} {base : Heap}
/-! ### led_round -/
abbrev s_led_round : Stmt := topS 24
theorem sc_led_round : FnScope ["rules", "told", "steps", "far", "came", "changed", "turn", "one", "other", "more", "here", "found"] ["rules", "told"] (defScope s_led_round) := ⟨rfl, rfl, rfl, by decide +kernel, rfl, by decide +kernel, by decide +kernel⟩
def spLed : Sp := fun vs H Q _ => ∃ (a b : Addr) (rs : List Rule) (ts : List (Option Int)), vs = [.ref a, .ref b] ∧ RulesAt H a rs ∧ RulesOk rs ∧ ToldAt H b ts ∧ ToldOk ts ∧
  (Fillable rs ts → ∀ H', Same H H' → Q .non H') ∧ ∀ H' p ns, Same H H' → H p = none → H' p = some (.lst (ns.map nV)) → RingOk rs ts ns → ns.length ≤ 200 → Q (.ref p) H'
theorem ok_led_round (B : Bu mg) (D : Df K mg "led_round" s_led_round ["rules", "told"]) (c_steps_of : Cl P w K mg base 1 "steps_of" spSteps) : Cl P w K mg base 2 "led_round" spLed := by
  refine D.cl sc_led_round (fun vs H Q E h => ?_) fun f cdv A outer s H vs Q E hr h => ?_
  · obtain ⟨a, b, rs, ts, rfl, _⟩ := h
    rfl
  · obtain ⟨a, b, rs, ts, rfl, hR, ho, hT, hto, q1, q2⟩ := h
    have hfew := hto.few
    refine ⟨_, (pss_cons (ps_set (i := 2) sc_led_round.nd rfl (Or.inl rfl) (pe_cl c_steps_of hr (by decide) (by rfl) (pa_cons (pv 0) (pa_cons (pv 1) pa_nil))))
      (pss_cons (ps_set (i := 3) sc_led_round.nd rfl (Or.inl rfl) (pe_op op_rep (pe_lst (pa_cons pe_int pa_nil)) (pe_op op_add (pe_callB call_len_seq (by rfl) B.len PySem.boot_len (pa_cons (pv 1) pa_nil)) pe_int)))
      (pss_cons (ps_set (i := 4) sc_led_round.nd rfl (Or.inl rfl) (pe_op op_rep (pe_lst (pa_cons pe_non pa_nil)) (pe_op op_add (pe_callB call_len_seq (by rfl) B.len PySem.boot_len (pa_cons (pv 1) pa_nil)) pe_int)))
      (pss_cons (ps_set (i := 5) sc_led_round.nd rfl (Or.inl rfl) pe_non)
      (pss_cons (ps_for PassesOwn.never rfl (pi_range1 (by rfl) B.range (pa_cons (pe_op op_add (pe_callB call_len_seq (by rfl) B.len PySem.boot_len (pa_cons (pv 1) pa_nil)) pe_int) pa_nil)) (pg_name (i := 6) sc_led_round.nd rfl (Or.inl rfl))
        (pss_cons (ps_set (i := 5) sc_led_round.nd rfl (Or.inl rfl) pe_non)
        (pss_cons (ps_for PassesOwn.never rfl (pi_list (pv 2)) (pg_tup rfl (pgs_cons (pg_name (i := 7) sc_led_round.nd rfl (Or.inl rfl)) (pgs_cons (pg_name (i := 8) sc_led_round.nd rfl (Or.inl rfl)) (pgs_cons (pg_name (i := 9) sc_led_round.nd rfl (Or.inl rfl)) pgs_nil))))
          (pss_one (ps_if (pt_cmpR op_gt (pe_op op_add (pe_ix ix_list (pv 3) (pv 7) (fun _ _ => rfl)) (pv 9)) (pe_ix ix_list (pv 3) (pv 8) (fun _ _ => rfl)) (nomark _))
            (pss_cons (ps_asg (pe_op op_add (pe_ix ix_list (pv 3) (pv 7) (fun _ _ => rfl)) (pv 9)) (pg_sub (pv 3) (pv 8) set_list))
            (pss_cons (ps_asg (pv 7) (pg_sub (pv 4) (pv 8) set_list))
            (pss_one (ps_set (i := 5) sc_led_round.nd rfl (Or.inl rfl) (pv 8)))))
            pss_nil)))
        (pss_one (ps_if (pt_cmpR op_isN (pv 5) pe_non (nomark _))
          (pss_one (ps_ret pe_non))
          pss_nil)))))
      (pss_cons (ps_set (i := 10) sc_led_round.nd rfl (Or.inl rfl) (pv 5))
      (pss_cons (ps_for PassesOwn.never rfl (pi_range1 (by rfl) B.range (pa_cons (pe_op op_add (pe_callB call_len_seq (by rfl) B.len PySem.boot_len (pa_cons (pv 1) pa_nil)) pe_int) pa_nil)) (pg_name (i := 6) sc_led_round.nd rfl (Or.inl rfl))
        (pss_one (ps_set (i := 10) sc_led_round.nd rfl (Or.inl rfl) (pe_ix ix_list (pv 4) (pv 10) (fun _ _ => rfl)))))
      (pss_cons (ps_set (i := 11) sc_led_round.nd rfl (Or.inl rfl) (pe_lst (pa_cons (pv 10) pa_nil)))
      (pss_cons (ps_while PassesOwn.never (pt_cmpR op_ne (pe_ix ix_list (pv 4) (pe_ix ix_list (pv 11) (pe_un un_neg pe_int) (fun _ _ => rfl)) (fun _ _ => rfl)) (pv 10) (nomark _))
        (pss_one (ps_expr (pe_bm PySem.F.plainAttrs_list PySem.F.slot_list_append PySem.F.type_list_append mt_append (pv 11) (pa_cons (pe_ix ix_list (pv 4) (pe_ix ix_list (pv 11) (pe_un un_neg pe_int) (fun _ _ => rfl)) (fun _ _ => rfl)) pa_nil)))))
      (pss_cons (ps_expr (pe_bm PySem.F.plainAttrs_list PySem.F.slot_list_append PySem.F.type_list_append mt_append (pv 11) (pa_cons (pv 10) pa_nil)))
      (pss_one (ps_ret (pe_revL (pv 11)))))))))))))), ?_⟩
    refine ⟨_, rfl, _, rfl, a, b, rs, ts, rfl, hR, ho, hT, hto, fun H1 p ss s1 np hS hso hsl => ?_⟩
    have hT1 := hT.same s1
    have hss := steps_lim ho.each hso
    refine ⟨Nat.le_of_lt (small1000 (by decide)), fun c1 nc1 => ?_⟩
    have t1 := same_upd (o := .lst [.int 0]) nc1
    refine ⟨_, rfl, b, _, rfl, .inr (.of (t1 _ _ hT1)), _, _, rfl, rfl, c1, _, [.int 0], rfl, rfl, upd_same, ?_, ?_, ?_, fun fa nfa => ?_⟩
    · show -(2 ^ 63) ≤ (((ts.map toV).length : Nat) : Int) + 1
      omega
    · show (((ts.map toV).length : Nat) : Int) + 1 < 2 ^ 63
      rw [List.length_map]; omega
    · show 1 * ((((ts.map toV).length : Nat) : Int) + 1).toNat ≤ sizeLine
      rw [List.length_map]; exact sizeL (by omega)
    have e0 : (List.replicate ((((ts.map toV).length : Nat) : Int) + 1).toNat [V.int 0]).flatten = farL ts.length (fun _ => 0) := by
      rw [List.length_map, show (((ts.length : Nat) : Int) + 1).toNat = ts.length + 1 by omega]
      exact rep_range _ _
    have e1 : (List.replicate ((((ts.map toV).length : Nat) : Int) + 1).toNat [V.non]).flatten = cameL ts.length (fun _ => none) := by
      rw [List.length_map, show (((ts.length : Nat) : Int) + 1).toNat = ts.length + 1 by omega]
      exact rep_range _ _
    have nfa1 := t1.free nfa
    have t2 := t1.trans (same_upd (o := .lst (List.replicate ((((ts.map toV).length : Nat) : Int) + 1).toNat [V.int 0]).flatten) nfa)
    refine ⟨Nat.le_of_lt (small1000 (by decide)), fun c2 nc2 => ?_⟩
    have t3 := t2.trans (same_upd (o := .lst [.non]) nc2)
    have nfc2 : fa ≠ c2 := fun z => by
      rw [← z, upd_same] at nc2
      cases nc2
    refine ⟨_, rfl, b, _, rfl, .inr (.of (t3 _ _ hT1)), _, _, rfl, rfl, c2, _, [.non], rfl, rfl, upd_same, ?_, ?_, ?_, fun ca nca => ?_⟩
    · show -(2 ^ 63) ≤ (((ts.map toV).length : Nat) : Int) + 1
      omega
    · show (((ts.map toV).length : Nat) : Int) + 1 < 2 ^ 63
      rw [List.length_map]; omega
    · show 1 * ((((ts.map toV).length : Nat) : Int) + 1).toNat ≤ sizeLine
      rw [List.length_map]; exact sizeL (by omega)
    have nca1 := t3.free nca
    have t4 := t3.trans (same_upd (o := .lst (List.replicate ((((ts.map toV).length : Nat) : Int) + 1).toNat [V.non]).flatten) nca)
    have nfc : fa ≠ ca := fun z => by
      rw [← z, upd_ne nfc2, upd_same] at nca
      cases nca
    have h4fa : (upd (upd (upd (upd H1 c1 (.lst [.int 0])) fa (.lst (List.replicate ((((ts.map toV).length : Nat) : Int) + 1).toNat [V.int 0]).flatten)) c2 (.lst [.non])) ca (.lst (List.replicate ((((ts.map toV).length : Nat) : Int) + 1).toNat [V.non]).flatten)) fa = some (.lst (farL ts.length (fun _ => 0))) := by
      rw [upd_ne nfc, upd_ne nfc2, upd_same, e0]
    have h4ca : (upd (upd (upd (upd H1 c1 (.lst [.int 0])) fa (.lst (List.replicate ((((ts.map toV).length : Nat) : Int) + 1).toNat [V.int 0]).flatten)) c2 (.lst [.non])) ca (.lst (List.replicate ((((ts.map toV).length : Nat) : Int) + 1).toNat [V.non]).flatten)) ca = some (.lst (cameL ts.length (fun _ => none))) := by
      rw [upd_same, e1]
    clear e0 e1
    generalize upd (upd (upd (upd H1 c1 (.lst [.int 0])) fa (.lst (List.replicate ((((ts.map toV).length : Nat) : Int) + 1).toNat [V.int 0]).flatten)) c2 (.lst [.non])) ca (.lst (List.replicate ((((ts.map toV).length : Nat) : Int) + 1).toNat [V.non]).flatten) = H4 at h4fa h4ca t4 ⊢
    obtain ⟨es, hp, hel, hes⟩ := hS
    refine ⟨_, rfl, b, _, rfl, .inr (.of (t4 _ _ hT1)), _, _, rfl, rfl, _, rfl, ?_, ?_, ?_⟩
    · show -(2 ^ 62) ≤ (((ts.map toV).length : Nat) : Int) + 2
      omega
    · show (((ts.map toV).length : Nat) : Int) + 2 < 2 ^ 62
      rw [List.length_map]; omega
    have ej : ts.length + 2 = ((((ts.map toV).length : Nat) : Int) + 2).toNat := by rw [List.length_map]; omega
    refine for_it (walk_rangeN ej) (fun i σ H3 => Same H1 H3 ∧ ∃ st T r now, H3 fa = some (.lst (farL ts.length st.far)) ∧ H3 ca = some (.lst (cameL ts.length st.came)) ∧ LInv ss (i + 1) [] ss { st with ch := none } T r now ∧ (i = 0 ∨ (LInv ss i ss [] st T r now ∧ st.ch ≠ none)) ∧
        ∃ y6 y7 y8 y9 y10 y11, σ = [some (.ref a), some (.ref b), some (.ref p), some (.ref fa), some (.ref ca), some (oV st.ch), y6, y7, y8, y9, y10, y11])
      ⟨t4, ⟨fun _ => 0, fun _ => none, none⟩, _, _, _, h4fa, h4ca, LInv.first ss, .inl rfl, _, _, _, _, _, _, rfl⟩ (fun _ _ _ _ _ => trivial) (fun i x σ H3 H5 hi hP hx => ?_) fun σ H3 hP => ?_
    · obtain ⟨s3, st, T, r, now, h3fa, h3ca, hI, _, y6, y7, y8, y9, y10, y11, rfl⟩ := hP
      obtain ⟨rfl, rfl⟩ := hx
      refine ⟨_, rfl, p, rfl, ⟨_, .of (s3 _ _ hp)⟩, ?_⟩
      refine for_it (walk_listN (n := ss.length) (xs := es.map V.ref) (by rw [List.length_map, hel])) (fun j σ H3 => Same H1 H3 ∧ ∃ st T r now, H3 fa = some (.lst (farL ts.length st.far)) ∧ H3 ca = some (.lst (cameL ts.length st.came)) ∧ LInv ss (i + 1) (ss.take j) (ss.drop j) st T r now ∧
          ∃ y6 y7 y8 y9 y10 y11, σ = [some (.ref a), some (.ref b), some (.ref p), some (.ref fa), some (.ref ca), some (oV st.ch), y6, y7, y8, y9, y10, y11])
        ⟨s3, { st with ch := none }, T, r, now, h3fa, h3ca, hI, _, _, _, _, _, _, rfl⟩ (fun j σ H3 _ hP => .of (hP.1 _ _ hp)) (fun j x σ H3 H4 hj hP hx => ?_) fun σ H3 hP => ?_
      · obtain ⟨s5, st, T, r, now, h5fa, h5ca, hI, y6, y7, y8, y9, y10, y11, rfl⟩ := hP
        obtain ⟨rfl, hx⟩ := hx
        obtain ⟨eb, eeb, rfl⟩ := at_map hx
        obtain ⟨e, ee, hem⟩ := lt_at hj
        obtain ⟨l1, l2, _, _⟩ := hss e hem
        have hb := s5 _ _ (hes j eb e eeb ee)
        have hdr : ss.drop j = e :: ss.drop (j + 1) := by
          rw [List.drop_eq_getElem_cons hj, (List.getElem?_eq_some_iff.mp ee).2]
        have htk : ss.take (j + 1) = ss.take j ++ [e] := by
          rw [List.take_add_one, ee]
          rfl
        rw [hdr] at hI
        obtain ⟨T', r', now', hI'⟩ := hI.relax (fun e he => (hss e he).2.2.1) hem
        rw [← htk] at hI'
        refine ⟨eb, edV e, rfl, .of hb, rfl, _, _, rfl, _, _, rfl, _, _, rfl, rfl, ?_⟩
        refine ⟨_, rfl, _, rfl, fa, _, _, _, rfl, rfl, .of h5fa, farL_at _ l1, _, rfl, _, _, rfl, rfl, _, rfl, _, rfl, fa, _, _, _, rfl, rfl, .of h5fa, farL_at _ l2, _, _, rfl, rfl, _, rfl, ite2 (fun z => ?_) fun z => ?_⟩
        · have z : st.far e.1 + e.2.2 > st.far e.2.1 := of_decide_eq_true z
          refine ⟨_, rfl, _, rfl, fa, _, _, _, rfl, rfl, .of h5fa, farL_at _ l1, _, rfl, _, _, rfl, rfl, _, rfl, _, rfl, fa, _, _, e.2.1, rfl, rfl, h5fa, by rw [farL_len]; exact ixN_nat (by omega), ?_⟩
          refine ⟨_, rfl, _, rfl, _, rfl, ca, _, _, e.2.1, rfl, rfl, by rw [upd_ne nfc.symm]; exact h5ca, by rw [cameL_len]; exact ixN_nat (by omega), ?_⟩
          refine ⟨_, rfl, ?_⟩
          rw [show relax st e = ⟨fupd st.far e.2.1 (st.far e.1 + e.2.2), fupd st.came e.2.1 (some e.1), some e.2.1⟩ from if_pos z] at hI'
          refine ⟨Same.lst (Same.lst s5 nfa1) nca1, _, T', r', now', ?_, ?_, hI', _, _, _, _, _, _, rfl⟩
          · rw [upd_ne nfc, upd_same]
            exact congrArg (fun l => some (HO.lst l)) (farL_set _ _ _ _)
          · rw [upd_same]
            exact congrArg (fun l => some (HO.lst l)) (cameL_set _ _ _ _)
        · have z : ¬ (st.far e.1 + e.2.2 > st.far e.2.1) := fun q => z (decide_eq_true q)
          rw [show relax st e = st from if_neg z] at hI'
          exact ⟨s5, st, T', r', now', h5fa, h5ca, hI', _, _, _, _, _, _, rfl⟩
      · obtain ⟨s5, st, T, r, now, h5fa, h5ca, hI, y6, y7, y8, y9, y10, y11, rfl⟩ := hP
        rw [List.take_of_length_le (Nat.le_refl _), List.drop_of_length_le (Nat.le_refl _)] at hI
        refine ⟨_, rfl, rfl, _, rfl, ?_⟩
        obtain ⟨sf, sc, sh⟩ := st
        cases sh with
        | none => exact teT (decide_eq_true rfl) (q1 ⟨_, hI.calm hso rfl⟩ _ (s1.trans s5))
        | some v =>
          refine teF (decide_eq_false (by intro z; cases z)) ?_
          exact ⟨s5, _, T, r, now, h5fa, h5ca, hI.next, .inr ⟨hI, by intro z; cases z⟩, _, _, _, _, _, _, rfl⟩
    · obtain ⟨s3, st, T, r, now, h3fa, h3ca, _, hI, y6, y7, y8, y9, y10, y11, rfl⟩ := hP
      rcases hI with hI | ⟨hI, hch⟩
      · omega
      obtain ⟨v, hv⟩ : ∃ v, st.ch = some v := by
        cases z : st.ch with
        | none => exact absurd z hch
        | some v => exact ⟨v, rfl⟩
      rw [hv]
      obtain ⟨h, pp, e1, e2, e3⟩ := hI.ring (n := ts.length) (fun e he => ⟨(hss e he).1, (hss e he).2.1⟩) rfl hv
      have lim : ∀ v u, st.came v = some u → u ≤ ts.length := fun v u z => by
        obtain ⟨g, hm, _⟩ := hI.tree v u z
        exact (hss _ hm).1
      have hvl : v ≤ ts.length := by
        cases z : st.came v with
        | none => exact absurd z (hI.chs v hv).2
        | some u =>
          obtain ⟨g, hm, _⟩ := hI.tree v u z
          exact (hss _ hm).2.1
      have hhl := way_lt lim hvl e1
      obtain ⟨q, hq1, hq2, hq3⟩ := ring_least e2 e3
      have hqn := ring_few lim hhl hq2 hq3
      refine ⟨_, rfl, _, rfl, b, _, rfl, .inr (.of (s3 _ _ hT1)), _, _, rfl, rfl, _, rfl, ?_, ?_, ?_⟩
      · show -(2 ^ 62) ≤ (((ts.map toV).length : Nat) : Int) + 2
        omega
      · show (((ts.map toV).length : Nat) : Int) + 2 < 2 ^ 62
        rw [List.length_map]; omega
      refine for_it (walk_rangeN ej) (fun i σ H5 => H5 = H3 ∧ ∃ (u : Nat) (y6 : Option V), upN st.came i v = some u ∧ σ = [some (.ref a), some (.ref b), some (.ref p), some (.ref fa), some (.ref ca), some (.int v), y6, y7, y8, y9, some (.int u), y11])
        ⟨rfl, v, _, rfl, rfl⟩ (fun _ _ _ _ _ => trivial) (fun i x σ H5 H6 hi hP hx => ?_) fun σ H5 hP => ?_
      · obtain ⟨rfl, u, y6, hu, rfl⟩ := hP
        obtain ⟨rfl, rfl⟩ := hx
        obtain ⟨w', hw'⟩ := upN_pre (i := i + 1) (j := ts.length + 2 - (i + 1)) (came := st.came) (v := v) (h := h) (by rw [show i + 1 + (ts.length + 2 - (i + 1)) = ts.length + 2 by omega]; exact e1)
        have hc : st.came u = some w' := by
          have z : (upN st.came i v).bind st.came = some w' := hw'
          rw [hu] at z
          exact z
        have ha := cameL_at st.came (way_lt lim hvl hu)
        rw [hc] at ha
        exact ⟨_, rfl, _, rfl, ca, _, _, _, rfl, rfl, .of h3ca, ha, rfl, w', _, hw', rfl⟩
      · obtain ⟨rfl, u, y6, hu, rfl⟩ := hP
        have eh : u = h := by
          rw [e1] at hu
          exact (Option.some.inj hu).symm
        subst eh
        refine ⟨_, rfl, sizeL (by show 1 ≤ 1000; decide), fun o no => ?_⟩
        have stp : ∀ m, m + 1 ≤ q → ∃ w' w, upN st.came m u = some w' ∧ st.came w' = some w ∧ upN st.came (m + 1) u = some w ∧ w' ≤ ts.length := fun m hm => by
          obtain ⟨w, hw⟩ := upN_pre (i := m + 1) (j := q - (m + 1)) (came := st.came) (v := u) (h := u) (by rw [show m + 1 + (q - (m + 1)) = q by omega]; exact hq2)
          obtain ⟨w', hw', hc⟩ := upN_before hw
          exact ⟨w', w, hw', hc, hw, way_lt lim hhl hw'⟩
        refine ⟨fun k σ H6 => ∃ m, m + 1 + k = q ∧ Same H5 H6 ∧ H6 o = some (.lst ((way st.came u m).map nV)) ∧ σ = [some (.ref a), some (.ref b), some (.ref p), some (.ref fa), some (.ref ca), some (.int v), y6, y7, y8, y9, some (.int u), some (.ref o)],
          ⟨q - 1, 0, by omega, same_upd no, upd_same, rfl⟩, fun k σ H6 hW => ?_⟩
        obtain ⟨m, hm, s6, h6o, rfl⟩ := hW
        obtain ⟨w', w2, hw', hc, hw, hwl⟩ := stp m (by omega)
        have ha := cameL_at st.came hwl
        rw [hc] at ha
        have hlast := atI_way (way_last st.came hw')
        have h6ca := s6 _ _ h3ca
        refine ⟨_, rfl, _, rfl, 1, rfl, o, _, -1, _, rfl, rfl, .of h6o, hlast, ca, _, _, _, rfl, rfl, .of h6ca, ha, _, rfl, rfl, _, rfl, ?_⟩
        have happ : (way st.came u m).map nV ++ [V.int w2] = (way st.came u (m + 1)).map nV := by
          rw [way_succ, hw, List.map_append]
          rfl
        by_cases z : w2 = u
        · subst z
          have em : m + 1 = q := by
            rcases Nat.lt_or_ge (m + 1) q with z | z
            · exact absurd hw (hq3 (m + 1) (by omega) z)
            · omega
          refine teF (by rw [show decide (oV (some w2) = V.int w2) = true from decide_eq_true rfl]; rfl) ?_
          refine ⟨_, rfl, .inl ⟨rfl, _, .of h6o⟩, _, rfl, o, _, _, rfl, rfl, h6o, by rw [List.length_map, way_length]; exact small1000 (by omega), ?_⟩
          refine ⟨_, rfl, o, _, rfl, .of upd_same, fun p' np' => ?_⟩
          rw [happ, em, ← List.map_reverse]
          have s7 : Same H1 (upd H6 o (.lst ((way st.came w2 q).map nV))) := Same.lst (s3.trans s6) (s3.free no)
          have np2 : H p' = none := (s1.trans s7).free (by rw [← em, ← happ]; exact np')
          refine q2 _ p' (way st.came w2 q).reverse ((s1.trans s7).upd (by rw [← em, ← happ]; exact np')) np2 upd_same ⟨(hI.toTree ho.each hso).ring hq1 hq2, by rw [List.length_reverse, way_length]; omega, ?_, fun x hx => way_all lim hhl hq2 x (List.mem_reverse.mp hx)⟩ (by rw [List.length_reverse, way_length]; omega)
          rw [List.head?_reverse, List.getLast?_reverse, way_head, way_last _ hq2]
        · refine teT (by rw [show decide (oV (some w2) = V.int u) = false from decide_eq_false (fun e => z (Int.ofNat.inj (V.int.inj e)))]; rfl) ?_
          have hlt : m + 1 < q := by
            rcases Nat.lt_or_ge (m + 1) q with y | y
            · exact y
            · have em : m + 1 = q := by omega
              rw [em, hq2] at hw
              exact absurd (Option.some.inj hw).symm z
          refine ⟨_, fun σ' H' hN => hN, _, rfl, .inl ⟨rfl, _, .of h6o⟩, _, rfl, _, rfl, 1, rfl, o, _, -1, _, rfl, rfl, .of h6o, hlast, ca, _, _, _, rfl, rfl, .of h6ca, ha, o, _, _, rfl, rfl, h6o, by rw [List.length_map, way_length]; exact small1000 (by omega), ?_⟩
          refine ⟨k - 1, by omega, m + 1, by omega, Same.lst s6 no, ?_, rfl⟩
          rw [upd_same]
          exact congrArg (fun l => some (HO.lst l)) happ
/-! ### chain -/
abbrev s_chain : Stmt := topS 25
theorem sc_chain : FnScope ["rules", "told"] ["rules", "told"] (defScope s_chain) := ⟨rfl, rfl, rfl, by decide +kernel, rfl, by decide +kernel, by decide +kernel⟩
theorem ok_chain (D : Df K mg "chain" s_chain ["rules", "told"]) (c_need_both : Cl P w K mg base 5 "need_both" (spBoth .non)) (c_led_round : Cl P w K mg base 2 "led_round" spLed) : Cl P w K mg base 6 "chain" spLed := by
  refine D.cl sc_chain (fun vs H Q E h => ?_) fun f cdv A outer s H vs Q E hr h => ?_
  · obtain ⟨a, b, rs, ts, rfl, _⟩ := h
    rfl
  · obtain ⟨a, b, rs, ts, rfl, hR, ho, hT, hto, q1, q2⟩ := h
    refine ⟨_, (pss_cons (ps_expr (pe_cl c_need_both hr (by decide) (by rfl) (pa_cons (pv 0) (pa_cons (pv 1) pa_nil))))
      (pss_one (ps_ret (pe_cl c_led_round hr (by decide) (by rfl) (pa_cons (pv 0) (pa_cons (pv 1) pa_nil)))))), ?_⟩
    refine ⟨_, rfl, _, rfl, a, b, rs, ts, rfl, hR, ho, hT, hto, fun H1 s1 => ?_⟩
    exact ⟨_, rfl, _, rfl, a, b, rs, ts, rfl, hR.same s1, ho, hT.same s1, hto, fun hf H' s' => q1 hf H' (s1.trans s'), fun H' p ns s' np hp hr hl => q2 H' p ns (s1.trans s') (s1.free np) hp hr hl⟩
end
end K5
end
section
set_option Elab.async false
set_option linter.all false
set_option maxRecDepth 100000
set_option maxHeartbeats 4000000
/-! Walks, 8: what a chain gains. -/
namespace K5
open PySem PySem.Spec PyProof.Rows L2
/-! ### things, and what they gain -/
/-- what may stand in a chain that is none -/
inductive Fl : V → Prop where
  | non : Fl .non
  | bl (b : Bool) : Fl (.bl b)
  | int (i : Int) : Fl (.int i)
  | str (x : Str) (h : PyData.strOk x = true) : Fl (.str x)
theorem Fl.th {H : Hp} {x : V} (f : Fl x) : ∃ U, Th H x U := by
  cases f with
  | non => exact ⟨_, .non⟩
  | bl b => exact ⟨_, .bl b⟩
  | int i => exact ⟨_, .int i⟩
  | str y _ => exact ⟨_, .str y⟩
inductive Tg (H : Hp) : V → Option (List V) → Prop where
  | no {x : V} {T : String} (h : Th H x T) (n : T ≠ "list") : Tg H x none
  | lst {c : Addr} {xs : List V} (e : H c = some (.lst xs)) (f : ∀ y ∈ xs, Fl y) (l : xs.length ≤ 900) : Tg H (.ref c) (some xs)
theorem Tg.same {H H' : Hp} {x : V} {o : Option (List V)} (t : Tg H x o) (s : Same H H') : Tg H' x o := by
  cases t with
  | no h n => exact .no (h.same s) n
  | lst e f l => exact .lst (s _ _ e) f l
theorem isK_list {H : Hp} {x : V} {T : String} (h : Th H x T) (n : T ≠ "list") : isK T "list" = false := by
  cases h <;> first | rfl | exact absurd rfl n
def chainB (n : Nat) (xs : List V) : Bool := xs.all fun x => isFrom x 0 n
def seam1 : V → Nat
  | .int i => i.toNat
  | _ => 0
def seams (xs : List V) : List Nat := xs.map seam1
def gainT (rs : List Rule) (ts : List (Option Int)) (xs : List V) : Option Int := if 2 ≤ xs.length ∧ chainB ts.length xs = true then gains rs ts (seams xs) else none
def gainO (rs : List Rule) (ts : List (Option Int)) : Option (List V) → Option Int
  | none => none
  | some xs => gainT rs ts xs
theorem isFrom_iff {x : V} {n : Nat} (h : isFrom x 0 n = true) : x = nV (seam1 x) ∧ seam1 x ≤ n := by
  cases x with
  | int i =>
    have h' : (decide ((0 : Int) ≤ i) && decide (i ≤ (n : Int))) = true := h
    rw [Bool.and_eq_true, decide_eq_true_iff, decide_eq_true_iff] at h'
    refine ⟨?_, ?_⟩
    · show V.int i = V.int ((i.toNat : Nat) : Int)
      rw [Int.toNat_of_nonneg h'.1]
    · show i.toNat ≤ n
      omega
  | _ => cases h
theorem chain_seams {n : Nat} {xs : List V} (h : chainB n xs = true) : xs = (seams xs).map nV ∧ ∀ x ∈ seams xs, x ≤ n := by
  unfold chainB at h
  rw [List.all_eq_true] at h
  constructor
  · unfold seams
    rw [List.map_map]
    conv => lhs; rw [← List.map_id xs]
    exact List.map_congr_left fun x hx => (isFrom_iff (h x hx)).1
  · intro y hy
    obtain ⟨x, hx, rfl⟩ := List.mem_map.mp hy
    exact (isFrom_iff (h x hx)).2
theorem seams_nV (ns : List Nat) : seams (ns.map nV) = ns := by
  unfold seams
  rw [List.map_map]
  conv => rhs; rw [← List.map_id ns]
  refine List.map_congr_left fun x _ => ?_
  show ((x : Int)).toNat = x
  omega
theorem chainB_nV {n : Nat} {ns : List Nat} (h : ∀ x ∈ ns, x ≤ n) : chainB n (ns.map nV) = true := by
  unfold chainB
  rw [List.all_map, List.all_eq_true]
  intro x hx
  have := h x hx
  show isFrom (.int (x : Int)) 0 (n : Int) = true
  exact isFrom_int (by omega) (by omega)
/-- the pairs of a chain -/
def prs (ns : List Nat) : List (Nat × Nat) := ns.zip (ns.drop 1)
theorem gains_zip (rs : List Rule) (ts : List (Option Int)) : ∀ (x : Nat) (ns : List Nat), gains rs ts (x :: ns) = if ((prs (x :: ns)).all fun p => (gainOf rs ts p.1 p.2).isSome) = true then some (((prs (x :: ns)).map fun p => (gainOf rs ts p.1 p.2).getD 0).sum) else none
  | x, [] => rfl
  | x, y :: ns => by
    have ih := gains_zip rs ts y ns
    have ep : prs (x :: y :: ns) = (x, y) :: prs (y :: ns) := rfl
    rw [gains, ih, ep, List.all_cons, List.map_cons, List.sum_cons]
    cases e : gainOf rs ts x y with
    | none => rfl
    | some g =>
      show (match some g, (if ((prs (y :: ns)).all fun p => (gainOf rs ts p.1 p.2).isSome) = true then some (((prs (y :: ns)).map fun p => (gainOf rs ts p.1 p.2).getD 0).sum) else none) with
        | some g, some s => some (g + s)
        | _, _ => none) = if (true && (prs (y :: ns)).all fun p => (gainOf rs ts p.1 p.2).isSome) = true then some (g + ((prs (y :: ns)).map fun p => (gainOf rs ts p.1 p.2).getD 0).sum) else none
      rw [Bool.true_and]
      by_cases z : ((prs (y :: ns)).all fun p => (gainOf rs ts p.1 p.2).isSome) = true
      · rw [if_pos z, if_pos z]
      · rw [if_neg z, if_neg z]
theorem zip_nV (ns : List Nat) : (ns.map nV).zip ((ns.map nV).drop 1) = (prs ns).map fun p => (nV p.1, nV p.2) := by
  unfold prs
  rw [← List.map_drop, List.zip_map]
  rfl
theorem prs_len (ns : List Nat) : (prs ns).length = ns.length - 1 := by
  unfold prs
  rw [List.length_zip, List.length_drop]
  omega
structure Tb (rs : List Rule) (ts : List (Option Int)) (done : List Edge) (kvs : List (List L2.Key × V)) : Prop where
  one : ∀ a b v, valV kvs (nP a b) = some v → ∃ g, v = .int g ∧ gainOf rs ts a b = some g
  has : ∀ e ∈ done, valV kvs (nP e.1 e.2.1) = some (.int e.2.2)
  few : kvs.length ≤ done.length
theorem Tb.put {rs : List Rule} {ts : List (Option Int)} {done : List Edge} {kvs : List (List L2.Key × V)} (h : Tb rs ts done kvs) {e : Edge} (he : gainOf rs ts e.1 e.2.1 = some e.2.2) (hd : ∀ e' ∈ done, gainOf rs ts e'.1 e'.2.1 = some e'.2.2) : Tb rs ts (done ++ [e]) (putK kvs (nP e.1 e.2.1) (.int e.2.2)) := by
  refine ⟨fun a b v hv => ?_, fun e' he' => ?_, ?_⟩
  · rw [valV_put] at hv
    by_cases z : nP a b = nP e.1 e.2.1
    · rw [if_pos z] at hv
      obtain ⟨rfl, rfl⟩ := nP_inj z
      exact ⟨e.2.2, (Option.some.inj hv).symm, he⟩
    · rw [if_neg z] at hv
      exact h.one a b v hv
  · rw [valV_put]
    by_cases z : nP e'.1 e'.2.1 = nP e.1 e.2.1
    · rw [if_pos z]
      obtain ⟨z1, z2⟩ := nP_inj z
      have h2 : gainOf rs ts e'.1 e'.2.1 = some e'.2.2 := by
        rcases List.mem_append.mp he' with q | q
        · exact hd e' q
        · rw [List.mem_singleton.mp q]; exact he
      rw [z1, z2, he] at h2
      rw [Option.some.inj h2]
    · rw [if_neg z]
      rcases List.mem_append.mp he' with q | q
      · exact h.has e' q
      · rw [List.mem_singleton.mp q] at z
        exact absurd rfl z
  · have hl : (putK kvs (nP e.1 e.2.1) (V.int e.2.2)).length = ((putK kvs (nP e.1 e.2.1) (V.int e.2.2)).map (·.1)).length := (List.length_map _).symm
    have := h.few
    rw [List.length_append, List.length_singleton]
    rcases putK_keys kvs (nP e.1 e.2.1) (.int e.2.2) with q | ⟨_, q⟩
    · rw [hl, q, List.length_map]; omega
    · rw [hl, q, List.length_append, List.length_map, List.length_singleton]; omega
theorem Tb.all {rs : List Rule} {ts : List (Option Int)} {ss : List Edge} {kvs : List (List L2.Key × V)} (h : Tb rs ts ss kvs) (hs : StepsOf rs ts ss) (a b : Nat) : valV kvs (nP a b) = (gainOf rs ts a b).map V.int := by
  cases e : gainOf rs ts a b with
  | some g => exact h.has (a, b, g) ((hs a b g).mpr e)
  | none =>
    cases z : valV kvs (nP a b) with
    | none => rfl
    | some v =>
      obtain ⟨g, _, hg⟩ := h.one a b v z
      rw [e] at hg
      cases hg
section
variable {P : Program} {w : World} {K : PySem.W.Frag} {mg : Str → Option Value} {base : Heap}
/-! ### gain -/
abbrev s_gain : Stmt := topS 26
theorem sc_gain : FnScope ["rules", "told", "thing", "seam", "table", "one", "other", "more", "pairs", "pair"] ["rules", "told", "thing"] (defScope s_gain) := ⟨rfl, rfl, rfl, by decide +kernel, rfl, by decide +kernel, by decide +kernel⟩
def spGain : Sp := fun vs H Q _ => ∃ (a b : Addr) (x : V) (o : Option (List V)) (rs : List Rule) (ts : List (Option Int)), vs = [.ref a, .ref b, x] ∧ RulesAt H a rs ∧ RulesOk rs ∧ ToldAt H b ts ∧ ToldOk ts ∧ Tg H x o ∧
  ∀ H', Same H H' → Q (toV (gainO rs ts o)) H'
theorem ok_gain (B : Bu mg) (D : Df K mg "gain" s_gain ["rules", "told", "thing"]) (c_need_both : Cl P w K mg base 5 "need_both" (spBoth .non)) (c_is_from : Cl P w K mg base 1 "is_from" spIsFrom) (c_steps_of : Cl P w K mg base 1 "steps_of" spSteps) : Cl P w K mg base 6 "gain" spGain := by
  refine D.cl sc_gain (fun vs H Q E h => ?_) fun f cdv A outer s H vs Q E hr h => ?_
  · obtain ⟨a, b, x, o, rs, ts, rfl, _⟩ := h
    rfl
  · obtain ⟨a, b, x, o, rs, ts, rfl, hR, ho, hT, hto, hx, q⟩ := h
    have hu := hu_of hr
    have hfew := hto.few
    refine ⟨_, (pss_cons (ps_expr (pe_cl c_need_both hr (by decide) (by rfl) (pa_cons (pv 0) (pa_cons (pv 1) pa_nil))))
      (pss_cons (ps_if (PW.pt (pw_or (pt_not (pt_val (pe_isi B (pv 2) (pe_tList B)))) (pw_or (pt_cmpR op_lt (pe_callB call_len_seq (by rfl) B.len PySem.boot_len (pa_cons (pv 2) pa_nil)) pe_int (nomark _)) (pw_or1 (pt_not (pt_val (pe_callB (cr_all rfl) (by rfl) B.all (by decide +kernel) (pa_cons (pe_lc (own := [("seam", 3)]) (g := gName 3) (tt := tYes) rfl sc_gain.nd (pi_list (pv 2)) (blkOk_by (N := ["rules", "told", "thing", "seam", "table", "one", "other", "more", "pairs", "pair"]) (sc := defScope s_gain) (by decide +kernel)) (fun _ _ _ _ _ => pg_name (i := 3) sc_gain.nd rfl (.inl rfl)) (fun _ _ _ _ _ => pts_nil) (fun _ _ _ _ _ => (pe_cl c_is_from hr (by decide) (by rfl) (pa_cons (pv 3) (pa_cons pe_int (pa_cons (pe_callB (call_len_seqK (K := K) rfl) (by rfl) B.len PySem.boot_len (pa_cons (pv 1) pa_nil)) pa_nil)))))) pa_nil))))))))
        (pss_one (ps_ret pe_non))
        pss_nil)
      (pss_cons (ps_set (i := 4) sc_gain.nd rfl (Or.inr rfl) (pe_dcT (own := [("one", 5), ("other", 6), ("more", 7)]) (g := gTup K 3 (gCons (gName 5) (gCons (gName 6) (gCons (gName 7) gNil)))) (tt := tYes) hu rfl sc_gain.nd (pi_list (pe_cl c_steps_of hr (by decide) (by rfl) (pa_cons (pv 0) (pa_cons (pv 1) pa_nil)))) (blkOk_by (N := ["rules", "told", "thing", "seam", "table", "one", "other", "more", "pairs", "pair"]) (sc := defScope s_gain) (by decide +kernel)) (fun _ _ _ _ _ => (pg_tup rfl (pgs_cons (pg_name (i := 5) sc_gain.nd rfl (.inl rfl)) (pgs_cons (pg_name (i := 6) sc_gain.nd rfl (.inl rfl)) (pgs_cons (pg_name (i := 7) sc_gain.nd rfl (.inl rfl)) pgs_nil))))) (fun _ _ _ _ _ => pts_nil) (fun _ _ _ _ _ => (pe_tup (pa_cons (pv 5) (pa_cons (pv 6) pa_nil)))) (fun _ _ _ _ _ => (pv 7))))
      (pss_cons (ps_set (i := 8) sc_gain.nd rfl (Or.inl rfl) (pe_listZip rfl (pa_cons (pv 2) (pa_cons (pe_slice sl_list (pv 2) (po_some pe_int) po_none) pa_nil)) (by rfl) B.list (by rfl) B.zip (by decide +kernel)))
      (pss_cons (ps_if (pt_not (pt_val (pe_callB (cr_all rfl) (by rfl) B.all (by decide +kernel) (pa_cons (pe_lc (own := [("pair", 9)]) (g := gName 9) (tt := tYes) rfl sc_gain.nd (pi_list (pv 8)) (blkOk_by (N := ["rules", "told", "thing", "seam", "table", "one", "other", "more", "pairs", "pair"]) (sc := defScope s_gain) (by decide +kernel)) (fun _ _ _ _ _ => pg_name (i := 9) sc_gain.nd rfl (.inl rfl)) (fun _ _ _ _ _ => pts_nil) (fun _ _ _ _ _ => (pe_cmp (pc_din hu (pv 9) (pv 4))))) pa_nil))))
        (pss_one (ps_ret pe_non))
        pss_nil)
      (pss_one (ps_ret (pe_callB (cr_sum rfl) (by rfl) B.sum (by decide +kernel) (pa_cons (pe_lc (own := [("pair", 9)]) (g := gName 9) (tt := tYes) rfl sc_gain.nd (pi_list (pv 8)) (blkOk_by (N := ["rules", "told", "thing", "seam", "table", "one", "other", "more", "pairs", "pair"]) (sc := defScope s_gain) (by decide +kernel)) (fun _ _ _ _ _ => pg_name (i := 9) sc_gain.nd rfl (.inl rfl)) (fun _ _ _ _ _ => pts_nil) (fun _ _ _ _ _ => (pe_dget hu (pv 4) (pv 9) (fun _ _ => rfl)))) pa_nil))))))))), ?_⟩
    refine ⟨_, rfl, _, rfl, a, b, rs, ts, rfl, hR, ho, hT, hto, fun H1 s1 => ?_⟩
    have hx1 := hx.same s1
    have hT1 := hT.same s1
    cases hx1 with
    | no h n =>
      refine ⟨x, rfl, x, _, "list", rfl, by decide, h, _, rfl, ?_⟩
      rw [isK_list h n]
      exact iteT (q _ s1)
    | @lst c xs hc f l =>
      refine ⟨_, rfl, _, _, "list", rfl, by decide, .lst hc, _, rfl, iteF ?_⟩
      refine ⟨_, rfl, c, _, rfl, .inl (.of hc), _, _, rfl, rfl, _, rfl, ?_⟩
      by_cases hlt : xs.length < 2
      · have eg : gainO rs ts (some xs) = none := by
          show gainT rs ts xs = none
          unfold gainT
          rw [if_neg (by omega)]
        rw [eg] at q
        exact teT (decide_eq_true (by show (xs.length : Int) < 2; omega)) (q _ s1)
      refine teF (decide_eq_false (by show ¬ (xs.length : Int) < 2; omega)) ?_
      refine ⟨_, rfl, c, rfl, ⟨_, .of hc⟩, fun D1 nD1 => ?_⟩
      refine lc_vals (walk_listN (n := xs.length) (xs := xs) rfl) (xs.map fun x => V.bl (isFrom x 0 ts.length)) nD1 (by rw [List.length_map]) (sizeL (by omega)) (fun H' s' => .of (s' _ _ hc)) (fun i x H3 H4 y k hy s3 hx hk => ?_) fun H3 s3 h3 => ?_
      · obtain ⟨rfl, hx⟩ := hx
        obtain ⟨x', ex', rfl⟩ := at_map hy
        rw [hx] at ex'
        cases ex'
        obtain ⟨U, hU⟩ := (f x (List.mem_of_getElem? hx)).th (H := H4)
        refine ⟨rfl, _, rfl, _, rfl, b, _, rfl, .inr (.of (s3 _ _ hT1)), x, U, 0, _, rfl, hU, ?_⟩
        show k (.bl (isFrom x 0 ((ts.map toV).length : Nat))) H4
        rw [List.length_map]
        exact hk H4 (Same.refl H4)
      refine ⟨D1, xs.map fun x => isFrom x 0 ts.length, rfl, .of (by rw [h3, List.map_map]; rfl), ?_⟩
      have e3 : (xs.map fun x => isFrom x 0 ts.length).all id = chainB ts.length xs := by
        unfold chainB
        rw [List.all_map]
        rfl
      rw [e3]
      have s13 := s1.trans s3
      cases hch : chainB ts.length xs with
      | false =>
        have eg : gainO rs ts (some xs) = none := by
          show gainT rs ts xs = none
          unfold gainT
          rw [hch, if_neg (by intro z; cases z.2)]
        rw [eg] at q
        exact ⟨_, rfl, iteT (q _ s13)⟩
      | true =>
        have eg : gainO rs ts (some xs) = gains rs ts (seams xs) := by
          show gainT rs ts xs = _
          unfold gainT
          rw [hch, if_pos ⟨by omega, rfl⟩]
        rw [eg] at q
        obtain ⟨exs, hlim⟩ := chain_seams hch
        generalize seams xs = ns at q exs hlim
        subst exs
        rw [List.length_map] at l hlt
        refine ⟨_, rfl, iteF ?_⟩
        -- the table
        refine ⟨_, rfl, _, rfl, a, b, rs, ts, rfl, hR.same s13, ho, hT.same s13, hto, fun H5 p ss s5 np hS hso hsl => ?_⟩
        obtain ⟨es, hp, hel, hes⟩ := hS
        refine ⟨p, rfl, ⟨_, .of hp⟩, fun m nm => ?_⟩
        refine dcT_list (xs := es.map V.ref) (fun i H6 => Same H5 H6 ∧ ∃ kvs, H6 m = some (.dT kvs) ∧ Tb rs ts (ss.take i) kvs) ⟨same_upd nm, [], upd_same, ⟨fun a b v z => (by cases z), fun e he => (by cases he), Nat.zero_le _⟩⟩ (fun i H6 _ hP => .of (hP.1 _ _ hp)) (fun i x H6 hx hP => ?_) fun H6 hP => ?_
        · obtain ⟨s6, kvs, h6m, htb⟩ := hP
          obtain ⟨eb, eeb, rfl⟩ := at_map hx
          obtain ⟨e, ee, hem⟩ := lt_at (show i < ss.length by rw [← hel]; exact at_lt eeb)
          have hb := s6 _ _ (hes i eb e eeb ee)
          refine ⟨eb, edV e, rfl, .of hb, rfl, _, _, rfl, _, _, rfl, _, _, rfl, rfl, rfl, ?_⟩
          refine ⟨_, rfl, _, rfl, by show 2 ≤ sizeLine; decide, fun t1 nt1 => ⟨_, rfl, ?_⟩⟩
          have s7 := same_upd (o := .tup [.int e.1, .int e.2.1]) nt1
          refine ⟨kvs, nP e.1 e.2.1, t1, rfl, upd_same, s7 _ _ h6m, Nat.lt_of_le_of_lt htb.few (small1000' (by rw [List.length_take]; omega)), (Same.trans s6 s7).at nm, _, upd_same, ?_⟩
          rw [List.take_add_one, ee]
          exact htb.put ((hso _ _ _).mp hem) fun e' he' => (hso _ _ _).mp (List.mem_of_mem_take he')
        obtain ⟨s6, kvs, h6m, htb⟩ := hP
        rw [List.length_map, hel, List.take_of_length_le (Nat.le_refl _)] at htb
        have hval := htb.all hso
        have h6c := s6 _ _ (s5 _ _ (s3 _ _ hc))
        -- the pairs
        refine ⟨_, rfl, _, rfl, 1, rfl, c, _, rfl, .of h6c, fun c2 nc2 => ?_⟩
        rw [cut1]
        have s7 := same_upd (o := .lst ((ns.map nV).drop 1)) nc2
        refine ⟨c, c2, _, _, rfl, .of (s7 _ _ h6c), .of upd_same, fun H8 pp qs s8 npp hpp hpair => ?_⟩
        rw [zip_nV] at hpair
        have h8m := s8 _ _ (s7 _ _ h6m)
        have hql : qs.length = (prs ns).length := by
          rw [paired_len hpair, List.length_map]
        have hpl := prs_len ns
        have hpr : ∀ (H9 : Hp), Same H8 H9 → ∀ (i : Nat) t, qs[i]? = some t → ∃ pq, (prs ns)[i]? = some pq ∧ H9 t = some (.tup ((nP pq.1 pq.2).map kV)) := fun H9 s9 i t et => by
          obtain ⟨pq, epq, _⟩ := lt_at (show i < (prs ns).length by rw [← hql]; exact at_lt et)
          exact ⟨pq, epq, s9 _ _ (paired_at hpair et (map_at epq))⟩
        refine ⟨_, rfl, pp, rfl, ⟨_, .of hpp⟩, fun D2 nD2 => ?_⟩
        refine lc_vals (walk_listN (n := (prs ns).length) (xs := qs.map V.ref) (by rw [List.length_map, hql])) ((prs ns).map fun pq => V.bl (gainOf rs ts pq.1 pq.2).isSome) nD2 (by rw [List.length_map]) (sizeL (by omega)) (fun H' s' => .of (s' _ _ hpp)) (fun i x H9 H10 y k hy s9 hx hk => ?_) fun H9 s9 h9 => ?_
        · obtain ⟨rfl, hx⟩ := hx
          obtain ⟨t, et, rfl⟩ := at_map hx
          obtain ⟨pq, epq, ht⟩ := hpr H10 s9 i t et
          obtain ⟨pq', epq', rfl⟩ := at_map hy
          rw [epq] at epq'
          cases epq'
          refine ⟨rfl, _, rfl, _, rfl, m, _, rfl, .t (s9 _ _ h8m) ht, ?_⟩
          rw [hval, Option.isSome_map]
          exact hk H10 (Same.refl H10)
        refine ⟨D2, (prs ns).map fun pq => (gainOf rs ts pq.1 pq.2).isSome, rfl, .of (by rw [h9, List.map_map]; rfl), ?_⟩
        have e4 : ((prs ns).map fun pq => (gainOf rs ts pq.1 pq.2).isSome).all id = (prs ns).all fun p => (gainOf rs ts p.1 p.2).isSome := by
          rw [List.all_map]
          rfl
        rw [e4]
        have s19 : Same H H9 := (((s13.trans s5).trans s6).trans (s7.trans s8)).trans s9
        have egz : gains rs ts ns = if ((prs ns).all fun p => (gainOf rs ts p.1 p.2).isSome) = true then some (((prs ns).map fun p => (gainOf rs ts p.1 p.2).getD 0).sum) else none := by
          cases ns with
          | nil => exact absurd (Nat.zero_lt_two) hlt
          | cons x r => exact gains_zip rs ts x r
        rw [egz] at q
        by_cases hall : ((prs ns).all fun p => (gainOf rs ts p.1 p.2).isSome) = true
        · rw [if_pos hall] at q
          refine ⟨_, rfl, teF (by rw [hall]; rfl) ?_⟩
          refine ⟨_, rfl, pp, rfl, ⟨_, .of (s9 _ _ hpp)⟩, fun D3 nD3 => ?_⟩
          refine lc_vals (walk_listN (n := (prs ns).length) (xs := qs.map V.ref) (by rw [List.length_map, hql])) ((prs ns).map fun pq => V.int ((gainOf rs ts pq.1 pq.2).getD 0)) nD3 (by rw [List.length_map]) (sizeL (by omega)) (fun H' s' => .of (s' _ _ (s9 _ _ hpp))) (fun i x H10 H11 y k hy s10 hx hk => ?_) fun H10 s10 h10 => ?_
          · obtain ⟨rfl, hx⟩ := hx
            obtain ⟨t, et, rfl⟩ := at_map hx
            obtain ⟨pq, epq, ht⟩ := hpr H11 (s9.trans s10) i t et
            obtain ⟨pq', epq', rfl⟩ := at_map hy
            rw [epq] at epq'
            cases epq'
            have hs := List.all_eq_true.mp hall pq (List.mem_of_getElem? epq)
            cases z : gainOf rs ts pq.1 pq.2 with
            | none =>
              rw [z] at hs
              cases hs
            | some g =>
              rw [z] at hk
              have hv := hval pq.1 pq.2
              rw [z] at hv
              refine ⟨rfl, _, rfl, _, rfl, m, _, rfl, ?_, hk H11 (Same.refl H11)⟩
              show DGet H11 m (.ref t) ((some g).map V.int)
              rw [← hv]
              exact .t (s10 _ _ (s9 _ _ h8m)) ht
          refine ⟨D3, (prs ns).map fun pq => (gainOf rs ts pq.1 pq.2).getD 0, rfl, .of (by rw [h10, List.map_map]; rfl), ?_⟩
          exact q _ (s19.trans s10)
        · rw [if_neg hall] at q
          exact ⟨_, rfl, teT (by rw [Bool.eq_false_iff.mpr hall]; rfl) (q _ s19)⟩
end
end K5
end
section
set_option Elab.async false
set_option linter.all false
set_option maxRecDepth 100000
set_option maxHeartbeats 4000000
/-! Walks, 9: the greatest gain from seam to seam; marks; the chains that show them. -/
namespace K5
open PySem PySem.Spec PyProof.Rows L2
/-! ### dicts by seams -/
def sK (v : Nat) : L2.Key := Sum.inl (v : Int)
theorem sK_inj {u v : Nat} (e : sK u = sK v) : u = v := Int.ofNat.inj (Sum.inl.inj e)
theorem putK_keysG {κ : Type} [DecidableEq κ] (kvs : List (κ × V)) (k : κ) (v : V) : (putK kvs k v).map (·.1) = kvs.map (·.1) ∨ (valV kvs k = none ∧ (putK kvs k v).map (·.1) = kvs.map (·.1) ++ [k]) := by
  cases e : valV kvs k with
  | none => exact .inr ⟨rfl, by rw [putK_new _ e, List.map_append]; rfl⟩
  | some u =>
    have hany : (kvs.any fun kv => decide (kv.1 = k)) = true := by rw [valV_any, e]; rfl
    left
    unfold putK
    rw [if_pos hany, List.map_map]
    refine List.map_congr_left fun kv _ => ?_
    show (if kv.1 = k then (kv.1, v) else kv).1 = kv.1
    split <;> rfl
structure Dk (n : Nat) (F : Nat → Option V) (kvs : List (L2.Key × V)) : Prop where
  nd : (kvs.map (·.1)).Nodup
  key : ∀ k ∈ kvs.map (·.1), ∃ v, v ≤ n ∧ k = sK v
  val : ∀ v, valV kvs (sK v) = F v
theorem Dk.iff {n : Nat} {F G : Nat → Option V} {kvs : List (L2.Key × V)} (h : Dk n F kvs) (e : ∀ v, F v = G v) : Dk n G kvs := ⟨h.nd, h.key, fun v => by rw [h.val, e]⟩
theorem Dk.few {n : Nat} {F : Nat → Option V} {kvs : List (L2.Key × V)} (h : Dk n F kvs) : kvs.length ≤ n + 1 := by
  have := nodup_le (kvs.map (·.1)) ((List.range (n + 1)).map sK) h.nd fun k hk => by
    obtain ⟨v, hv, rfl⟩ := h.key k hk
    exact List.mem_map.mpr ⟨v, List.mem_range.mpr (by omega), rfl⟩
  rw [List.length_map, List.length_map, List.length_range] at this
  exact this
theorem Dk.put {n : Nat} {F : Nat → Option V} {kvs : List (L2.Key × V)} (h : Dk n F kvs) {v : Nat} (hv : v ≤ n) (y : V) : Dk n (fun x => if x = v then some y else F x) (putK kvs (sK v) y) := by
  have hk := putK_keysG kvs (sK v) y
  refine ⟨?_, fun k hkm => ?_, fun x => ?_⟩
  · rcases hk with e | ⟨e0, e⟩
    · rw [e]; exact h.nd
    · rw [e]; exact nd_snoc h.nd (valV_not e0)
  · rcases hk with e | ⟨e0, e⟩
    · rw [e] at hkm; exact h.key k hkm
    · rw [e] at hkm
      rcases List.mem_append.mp hkm with z | z
      · exact h.key k z
      · exact ⟨v, hv, List.mem_singleton.mp z⟩
  · rw [valV_put]
    by_cases z : x = v
    · rw [if_pos z, if_pos (by rw [z])]
    · rw [if_neg z, if_neg (fun e => z (sK_inj e)), h.val]
theorem Dk.one {n v : Nat} (hv : v ≤ n) (y : V) : Dk n (fun x => if x = v then some y else none) [(sK v, y)] :=
  (show Dk n (fun _ => none) [] from ⟨by simp, fun k hk => (by cases hk), fun _ => rfl⟩).put hv y
def farF (st : FS) (v : Nat) : Option V := (st.far v).map V.int
def cameF (st : FS) (v : Nat) : Option V := if (st.far v).isSome then some (oV (st.came v)) else none
theorem farF_up (st : FS) (e : Edge) (x : Int) (v : Nat) : (if v = e.2.1 then some (V.int (x + e.2.2)) else farF st v) = farF (upF st e x) v := by
  unfold farF upF
  by_cases z : v = e.2.1
  · subst z
    rw [if_pos rfl]
    show _ = (fupd st.far e.2.1 (some (x + e.2.2)) e.2.1).map V.int
    rw [fupd_same]
    rfl
  · rw [if_neg z]
    show _ = (fupd st.far e.2.1 (some (x + e.2.2)) v).map V.int
    rw [fupd_ne _ _ z]
theorem cameF_up (st : FS) (e : Edge) (x : Int) (v : Nat) : (if v = e.2.1 then some (V.int e.1) else cameF st v) = cameF (upF st e x) v := by
  unfold cameF upF
  by_cases z : v = e.2.1
  · subst z
    rw [if_pos rfl]
    show _ = if (fupd st.far e.2.1 (some (x + e.2.2)) e.2.1).isSome then some (oV (fupd st.came e.2.1 (some e.1) e.2.1)) else none
    rw [fupd_same, fupd_same]
    rfl
  · rw [if_neg z]
    show _ = if (fupd st.far e.2.1 (some (x + e.2.2)) v).isSome then some (oV (fupd st.came e.2.1 (some e.1) v)) else none
    rw [fupd_ne _ _ z, fupd_ne _ _ z]
/-- whether a step leads farther -/
def goB (F : Nat → Option Int) (e : Edge) : Bool := match F e.1 with
  | none => false
  | some x => match F e.2.1 with
    | none => true
    | some y => decide (y < x + e.2.2)
def tGo (d i j k : Nat) : TT := fun σ H Q => ∃ (a : Addr) (kvs : List (L2.Key × V)) (F : Nat → Option Int) (e : Edge), σ[d]? = some (some (.ref a)) ∧ σ[i]? = some (some (.int e.1)) ∧ σ[j]? = some (some (.int e.2.1)) ∧ σ[k]? = some (some (.int e.2.2)) ∧
  H a = some (.dK kvs) ∧ (∀ v, valV kvs (sK v) = (F v).map V.int) ∧ Q (goB F e) H
theorem go_imp {d i j k : Nat} (σ : L2.St) (H : Hp) (Q : Bool → Hp → Prop) (h : tGo d i j k σ H Q) :
    L2.tAnd (tB (tDIn (tVar i) (tVar d))) (L2.tOr (tB (tDNotIn (tVar j) (tVar d))) (tTest (tOp (rI0 fun i j => .bl (decide (j < i))) (tOp (rI0 fun i j => .int (i + j)) (tDGet (tVar d) (tVar i)) (tVar k)) (tDGet (tVar d) (tVar j))))) σ H Q := by
  obtain ⟨a, kvs, F, e, h1, h2, h3, h4, ha, hv, q⟩ := h
  have g1 : DGet H a (.int e.1) ((F e.1).map V.int) := by
    rw [← hv]
    exact .k (k := sK e.1) ha
  have g2 : DGet H a (.int e.2.1) ((F e.2.1).map V.int) := by
    rw [← hv]
    exact .k (k := sK e.2.1) ha
  unfold goB at q
  refine ⟨_, h2, _, h1, a, _, rfl, g1, _, rfl, ?_⟩
  cases e1 : F e.1 with
  | none =>
    rw [e1] at q
    exact iteF q
  | some x =>
    rw [e1] at q g1
    refine iteT ⟨_, h3, _, h1, a, _, rfl, g2, _, rfl, ?_⟩
    cases e2 : F e.2.1 with
    | none =>
      rw [e2] at q
      exact iteT q
    | some y =>
      rw [e2] at q g2
      exact iteF ⟨_, h1, _, h2, a, _, rfl, g1, _, h4, _, _, rfl, rfl, _, h1, _, h3, a, _, rfl, g2, _, _, rfl, rfl, _, rfl, q⟩
theorem goB_true {F : Nat → Option Int} {e : Edge} (h : goB F e = true) : ∃ x, F e.1 = some x ∧ (F e.2.1 = none ∨ ∃ y, F e.2.1 = some y ∧ y < x + e.2.2) := by
  unfold goB at h
  cases e1 : F e.1 with
  | none =>
    rw [e1] at h
    cases h
  | some x =>
    rw [e1] at h
    refine ⟨x, rfl, ?_⟩
    cases e2 : F e.2.1 with
    | none => exact .inl rfl
    | some y =>
      rw [e2] at h
      exact .inr ⟨y, rfl, of_decide_eq_true h⟩
theorem goB_false {F : Nat → Option Int} {e : Edge} (h : ¬ goB F e = true) (x : Int) (hx : F e.1 = some x) : ∃ y, F e.2.1 = some y ∧ x + e.2.2 ≤ y := by
  unfold goB at h
  rw [hx] at h
  cases e2 : F e.2.1 with
  | none =>
    rw [e2] at h
    exact absurd rfl h
  | some y =>
    rw [e2] at h
    refine ⟨y, rfl, ?_⟩
    have : ¬ y < x + e.2.2 := fun z => h (decide_eq_true z)
    omega
theorem few_way {came : Nat → Option Nat} {T : Nat → Nat} {n : Nat} (dec : ∀ v u, came v = some u → T u < T v ∧ u ≤ n) {v : Nat} (hv : v ≤ n) {m u : Nat} (h : upN came m v = some u) : m ≤ n := by
  refine Nat.le_of_not_lt fun hlt => ?_
  have at_ : ∀ j, j ≤ m → ∃ u, upN came j v = some u ∧ u ≤ n := fun j hj => by
    obtain ⟨u', hu⟩ := upN_pre (i := j) (j := m - j) (came := came) (v := v) (h := u) (by rw [show j + (m - j) = m by omega]; exact h)
    exact ⟨u', hu, way_lt (fun v u z => (dec v u z).2) hv hu⟩
  have down : ∀ k i a b, upN came i v = some a → upN came (i + 1 + k) v = some b → T b < T a := fun k => by
    induction k with
    | zero =>
      intro i a b ha hb
      have z : (upN came i v).bind came = some b := hb
      rw [ha] at z
      exact (dec a b z).1
    | succ k ih =>
      intro i a b ha hb
      obtain ⟨w, hw, hc⟩ := upN_before (m := i + 1 + k) hb
      exact Nat.lt_trans (dec w b hc).1 (ih i a w ha hw)
  obtain ⟨i, j, hij, hj, e⟩ := pigeon (n + 1) (fun j => (upN came j v).getD 0) fun j hj => by
    obtain ⟨u, hu, hun⟩ := at_ j (by omega)
    show (upN came j v).getD 0 < n + 1
    rw [hu]
    show u < n + 1
    omega
  obtain ⟨a, ha, _⟩ := at_ i (by omega)
  obtain ⟨b, hb, _⟩ := at_ j (by omega)
  have e' : (upN came i v).getD 0 = (upN came j v).getD 0 := e
  rw [ha, hb] at e'
  have e2 : a = b := e'
  have := down (j - i - 1) i a b ha (by rw [show i + 1 + (j - i - 1) = j by omega]; exact hb)
  rw [e2] at this
  exact Nat.lt_irrefl _ this
section
variable {P : Program} {w : World} {K : PySem.W.Frag} {mg : Str → Option Value} {base : Heap}
/-! ### farthest -/
abbrev s_farthest : Stmt := topS 27
theorem sc_farthest : FnScope ["rules", "told", "begin", "end", "steps", "far", "came", "going", "one", "other", "more", "found"] ["rules", "told", "begin", "end"] (defScope s_farthest) := ⟨rfl, rfl, rfl, by decide +kernel, rfl, by decide +kernel, by decide +kernel⟩
def spFar : Sp := fun vs H Q _ => ∃ (a b : Addr) (bg en : Nat) (rs : List Rule) (ts : List (Option Int)), vs = [.ref a, .ref b, .int bg, .int en] ∧ RulesAt H a rs ∧ RulesOk rs ∧ ToldAt H b ts ∧ ToldOk ts ∧ Fillable rs ts ∧ bg ≤ ts.length ∧ en ≤ ts.length ∧
  ∀ H' t p d ns, Same H H' → H' t = some (.tup [.int d, .ref p]) → H p = none → H' p = some (.lst (ns.map nV)) → Far rs ts bg en d ns → ns.length ≤ 900 → (∀ x ∈ ns, x ≤ ts.length) → Q (.ref t) H'
theorem ok_farthest (B : Bu mg) (D : Df K mg "farthest" s_farthest ["rules", "told", "begin", "end"]) (c_steps_of : Cl P w K mg base 1 "steps_of" spSteps) : Cl P w K mg base 2 "farthest" spFar := by
  refine D.cl sc_farthest (fun vs H Q E h => ?_) fun f cdv A outer s H vs Q E hr h => ?_
  · obtain ⟨a, b, bg, en, rs, ts, rfl, _⟩ := h
    rfl
  · obtain ⟨a, b, bg, en, rs, ts, rfl, hR, ho, hT, hto, ⟨PF, hPF⟩, hbg, hen, q⟩ := h
    have hu := hu_of hr
    have hfew := hto.few
    refine ⟨_, (pss_cons (ps_set (i := 4) sc_farthest.nd rfl (Or.inl rfl) (pe_cl c_steps_of hr (by decide) (by rfl) (pa_cons (pv 0) (pa_cons (pv 1) pa_nil))))
      (pss_cons (ps_set (i := 5) sc_farthest.nd rfl (Or.inl rfl) (pe_disp (pps_cons (pv 2) pe_int pps_nil) rfl rfl (by decide) (by decide)))
      (pss_cons (ps_set (i := 6) sc_farthest.nd rfl (Or.inl rfl) (pe_disp (pps_cons (pv 2) pe_non pps_nil) rfl rfl (by decide) (by decide)))
      (pss_cons (ps_set (i := 7) sc_farthest.nd rfl (Or.inl rfl) pe_bl)
      (pss_cons (ps_while PassesOwn.never (pt_val (pv 7))
        (pss_cons (ps_set (i := 7) sc_farthest.nd rfl (Or.inl rfl) pe_bl)
        (pss_one (ps_for PassesOwn.never rfl (pi_list (pv 4)) (pg_tup rfl (pgs_cons (pg_name (i := 8) sc_farthest.nd rfl (Or.inl rfl)) (pgs_cons (pg_name (i := 9) sc_farthest.nd rfl (Or.inl rfl)) (pgs_cons (pg_name (i := 10) sc_farthest.nd rfl (Or.inl rfl)) pgs_nil))))
          (pss_one (ps_if (PT.imp (t' := tGo 5 8 9 10) (PW.pt (pw_and (pt_cmp (pc_din hu (pv 8) (pv 5))) (pw_and1 (PW.pt (pw_or (pt_cmp (pc_dnotin hu (pv 9) (pv 5))) (pw_or1 (pt_cmpR op_gt (pe_op op_add (pe_dget hu (pv 5) (pv 8) (fun _ _ => rfl)) (pv 10)) (pe_dget hu (pv 5) (pv 9) (fun _ _ => rfl)) (nomark _)))))))) go_imp)
            (pss_cons (ps_dput hu (pv 5) (pv 9) (pe_op op_add (pe_dget hu (pv 5) (pv 8) (fun _ _ => rfl)) (pv 10)) rfl)
            (pss_cons (ps_dput hu (pv 6) (pv 9) (pv 8) rfl)
            (pss_one (ps_set (i := 7) sc_farthest.nd rfl (Or.inl rfl) pe_bl))))
            pss_nil))))))
      (pss_cons (ps_set (i := 11) sc_farthest.nd rfl (Or.inl rfl) (pe_lst (pa_cons (pv 3) pa_nil)))
      (pss_cons (ps_while PassesOwn.never (pt_cmpR op_notN (pe_dget hu (pv 6) (pe_ix ix_list (pv 11) (pe_un un_neg pe_int) (fun _ _ => rfl)) (fun _ _ => rfl)) pe_non (nomark _))
        (pss_one (ps_expr (pe_bm PySem.F.plainAttrs_list PySem.F.slot_list_append PySem.F.type_list_append mt_append (pv 11) (pa_cons (pe_dget hu (pv 6) (pe_ix ix_list (pv 11) (pe_un un_neg pe_int) (fun _ _ => rfl)) (fun _ _ => rfl)) pa_nil)))))
      (pss_one (ps_ret (pe_tup (pa_cons (pe_dget hu (pv 5) (pv 3) (fun _ _ => rfl)) (pa_cons (pe_revL (pv 11)) pa_nil)))))))))))), ?_⟩
    refine ⟨_, rfl, _, rfl, a, b, rs, ts, rfl, hR, ho, hT, hto, fun H1 p ss s1 np hS hso hsl => ?_⟩
    have hT1 := hT.same s1
    have hss := steps_lim ho.each hso
    obtain ⟨es, hp, hel, hes⟩ := hS
    have hPs : ∀ e ∈ ss, PF e.1 + e.2.2 ≤ PF e.2.1 := fun e he => hPF _ _ _ ((hso _ _ _).mp he)
    have hPd : ∀ v, v ≤ ts.length → PF v - PF bg ≤ ts.length := fun v hv => pot_span hPF hbg hv
    refine fun fa nfa => ⟨_, rfl, upd_same, [(sK bg, .int 0)], rfl, by show 1 ≤ 15; decide, ?_⟩
    refine fun ca nca => ⟨_, rfl, upd_same, [(sK bg, .non)], rfl, by show 1 ≤ 15; decide, ?_⟩
    have nca1 : H1 ca = none := Same.free (Same.at (x := HO.dK (mergeK [] [(sK bg, V.int 0)])) (same_upd (o := .dK []) nfa) nfa) nca
    have nfc : fa ≠ ca := fun z => by
      rw [z, upd_same] at nca
      cases nca
    have s2 : Same H1 (upd (upd (upd (upd H1 fa (.dK [])) fa (.dK (mergeK [] [(sK bg, .int 0)]))) ca (.dK [])) ca (.dK (mergeK [] [(sK bg, .non)]))) :=
      Same.at (Same.at (Same.at (same_upd nfa) nfa) nca1) nca1
    have h2fa : (upd (upd (upd (upd H1 fa (.dK [])) fa (.dK (mergeK [] [(sK bg, .int 0)]))) ca (.dK [])) ca (.dK (mergeK [] [(sK bg, .non)]))) fa = some (.dK [(sK bg, .int 0)]) := by
      rw [upd_ne nfc, upd_ne nfc, upd_same]
      rfl
    have h2ca : (upd (upd (upd (upd H1 fa (.dK [])) fa (.dK (mergeK [] [(sK bg, .int 0)]))) ca (.dK [])) ca (.dK (mergeK [] [(sK bg, .non)]))) ca = some (.dK [(sK bg, .non)]) := by
      rw [upd_same]
      rfl
    generalize upd (upd (upd (upd H1 fa (.dK [])) fa (.dK (mergeK [] [(sK bg, .int 0)]))) ca (.dK [])) ca (.dK (mergeK [] [(sK bg, .non)])) = H2 at s2 h2fa h2ca ⊢
    refine ⟨fun k σ H3 => Same H1 H3 ∧ ∃ st T now dn m0 kf kc, H3 fa = some (.dK kf) ∧ H3 ca = some (.dK kc) ∧ Dk ts.length (farF st) kf ∧ Dk ts.length (cameF st) kc ∧ FInv ss ts.length bg PF dn m0 st T now ∧ (st.go = false → dn = ss) ∧
        k = (mu ts.length bg PF st.far).toNat + (if st.go = true then 1 else 0) ∧ ∃ y8 y9 y10 y11, σ = [some (.ref a), some (.ref b), some (.int bg), some (.int en), some (.ref p), some (.ref fa), some (.ref ca), some (.bl st.go), y8, y9, y10, y11],
      ⟨_, s2, _, _, _, _, _, _, _, h2fa, h2ca, (Dk.one hbg _).iff fun v => ?_, (Dk.one hbg _).iff fun v => ?_, FInv.first hbg PF, (fun z => by cases z), rfl, _, _, _, _, rfl⟩, fun k σ H3 hW => ?_⟩
    · show (if v = bg then some (V.int 0) else none) = (fupd (fun _ => none) bg (some (0 : Int)) v).map V.int
      by_cases z : v = bg
      · subst z
        rw [if_pos rfl, fupd_same]
        rfl
      · rw [if_neg z, fupd_ne _ _ z]
        rfl
    · show (if v = bg then some V.non else none) = if (fupd (fun _ => none) bg (some (0 : Int)) v).isSome then some V.non else none
      by_cases z : v = bg
      · subst z
        rw [if_pos rfl, fupd_same]
        rfl
      · rw [if_neg z, fupd_ne _ _ z]
        rfl
    obtain ⟨s3, st, T, now, dn, m0, kf, kc, h3f, h3c, hkf, hkc, hI, hdn, hk, y8, y9, y10, y11, rfl⟩ := hW
    refine ⟨_, rfl, _, rfl, ite2 (fun hgo => ?_) fun hgo => ?_⟩
    · refine ⟨_, fun _ _ hN => hN, ?_⟩
      refine ⟨_, rfl, p, rfl, ⟨_, .of (s3 _ _ hp)⟩, ?_⟩
      refine for_it (walk_listN (n := ss.length) (xs := es.map V.ref) (by rw [List.length_map, hel])) (fun j σ H5 => Same H1 H5 ∧ ∃ st' T now kf kc, H5 fa = some (.dK kf) ∧ H5 ca = some (.dK kc) ∧ Dk ts.length (farF st') kf ∧ Dk ts.length (cameF st') kc ∧ FInv ss ts.length bg PF (ss.take j) (mu ts.length bg PF st.far) st' T now ∧
          ∃ y8 y9 y10 y11, σ = [some (.ref a), some (.ref b), some (.int bg), some (.int en), some (.ref p), some (.ref fa), some (.ref ca), some (.bl st'.go), y8, y9, y10, y11])
        ⟨s3, { st with go := false }, _, _, kf, kc, h3f, h3c, hkf, hkc, hI.next, _, _, _, _, rfl⟩ (fun j σ H3 _ hP => .of (hP.1 _ _ hp)) (fun j x σ H3 H4 hj hP hx => ?_) fun σ H3 hP => ?_
      · obtain ⟨s5, st', T', now', kf, kc, h5f, h5c, hkf, hkc, hI, y8, y9, y10, y11, rfl⟩ := hP
        obtain ⟨rfl, hx⟩ := hx
        obtain ⟨eb, eeb, rfl⟩ := at_map hx
        obtain ⟨e, ee, hem⟩ := lt_at hj
        obtain ⟨l1, l2, _, _⟩ := hss e hem
        have hb := s5 _ _ (hes j eb e eeb ee)
        have htk : ss.take (j + 1) = ss.take j ++ [e] := by
          rw [List.take_add_one, ee]
          rfl
        refine ⟨eb, edV e, rfl, .of hb, rfl, _, _, rfl, _, _, rfl, _, _, rfl, rfl, ?_⟩
        refine ⟨fa, kf, st'.far, e, rfl, rfl, rfl, rfl, h5f, hkf.val, ite2 (fun z => ?_) fun z => ?_⟩
        · obtain ⟨x, hx1, hx2⟩ := goB_true z
          obtain ⟨T2, now2, hI2⟩ := hI.up hPs hss hPd hem hx1 hx2 (ss.take (j + 1))
          have g1 : DGet H4 fa (.int e.1) (some (.int x)) := by
            have := hkf.val e.1
            rw [show farF st' e.1 = some (.int x) by unfold farF; rw [hx1]; rfl] at this
            rw [← this]
            exact .k (k := sK e.1) h5f
          have lf := hkf.few
          have lc := hkc.few
          refine ⟨_, rfl, _, rfl, fa, _, rfl, g1, _, rfl, _, _, rfl, rfl, _, rfl, _, rfl, fa, _, rfl, .k (k := sK e.2.1) h5f (small1000 (by omega)), ?_⟩
          refine ⟨_, rfl, _, rfl, _, rfl, ca, _, rfl, .k (k := sK e.2.1) (by rw [upd_ne nfc.symm]; exact h5c) (small1000 (by omega)), ?_⟩
          refine ⟨Same.at (Same.at s5 nfa) nca1, upF st' e x, T2, now2, _, _, by rw [upd_ne nfc, upd_same], by rw [upd_same], (hkf.put l2 _).iff fun v => farF_up st' e x v, (hkc.put l2 _).iff fun v => cameF_up st' e x v, hI2, _, _, _, _, rfl⟩
        · exact ⟨s5, st', T', now', kf, kc, h5f, h5c, hkf, hkc, by rw [htk]; exact hI.keep (goB_false z), _, _, _, _, rfl⟩
      · obtain ⟨s5, st', T', now', kf, kc, h5f, h5c, hkf, hkc, hI2, y8, y9, y10, y11, rfl⟩ := hP
        rw [List.take_of_length_le (Nat.le_refl _)] at hI2
        have n1 := slack_nn hI2
        refine ⟨_, ?_, s5, st', T', now', ss, _, kf, kc, h5f, h5c, hkf, hkc, hI2, fun _ => rfl, rfl, _, _, _, _, rfl⟩
        rw [hk, if_pos hgo]
        have h1 := hI2.mle
        cases hg : st'.go with
        | true =>
          have h2 := hI2.mlt hg
          rw [if_pos rfl]
          omega
        | false =>
          rw [if_neg (by decide)]
          omega
    · have hg : st.go = false := Bool.eq_false_iff.mpr hgo
      have hdn := hdn hg
      subst hdn
      have dec : ∀ v u, st.came v = some u → T u < T v ∧ u ≤ ts.length := fun v u hc => by
        have hvb : v ≠ bg := fun z => by
          rw [z, hI.beg.2.1] at hc
          cases hc
        have hfv : st.far v ≠ none := fun z => by
          rw [hI.no v z] at hc
          cases hc
        obtain ⟨u', g, h1, h2, _, _, h5⟩ := hI.back ho.each hso hbg hg (hI.rng v hfv) hvb
        rw [hc] at h1
        rw [Option.some.inj h1]
        exact ⟨h5, h2⟩
      have lim : ∀ v u, st.came v = some u → u ≤ ts.length := fun v u z => (dec v u z).2
      have farS : ∀ v, v ≤ ts.length → ∃ x, st.far v = some x := fun v hv => by
        cases z : st.far v with
        | none => exact absurd z (hI.full hso hbg hg v hv)
        | some x => exact ⟨x, rfl⟩
      refine ⟨_, rfl, sizeL (by show 1 ≤ 1000; decide), fun o no => ?_⟩
      refine ⟨fun k σ H6 => ∃ m u, upN st.came m en = some u ∧ k = T u ∧ Same H3 H6 ∧ H6 o = some (.lst ((way st.came en m).map nV)) ∧ σ = [some (.ref a), some (.ref b), some (.int bg), some (.int en), some (.ref p), some (.ref fa), some (.ref ca), some (.bl st.go), y8, y9, y10, some (.ref o)],
        ⟨_, 0, en, rfl, rfl, same_upd no, upd_same, rfl⟩, fun k2 σ H6 hW => ?_⟩
      obtain ⟨m, u, hu, hk2, s6, h6o, rfl⟩ := hW
      have hul := way_lt lim hen hu
      have hmf := few_way dec hen hu
      have hlast := atI_way (way_last st.came hu)
      have gc : DGet H6 ca (.int u) (some (oV (st.came u))) := by
        obtain ⟨x, hx⟩ := farS u hul
        have := hkc.val u
        rw [show cameF st u = some (oV (st.came u)) by unfold cameF; rw [hx]; rfl] at this
        rw [← this]
        exact .k (k := sK u) (s6 _ _ h3c)
      refine ⟨_, rfl, _, rfl, 1, rfl, o, _, -1, _, rfl, rfl, .of h6o, hlast, ca, _, rfl, gc, rfl, _, rfl, ?_⟩
      cases hc : st.came u with
      | none =>
        refine teF (by show (!decide (V.non = V.non)) = false; rw [decide_eq_true rfl]; rfl) ?_
        have hub : u = bg := by
          by_cases z : u = bg
          · exact z
          · obtain ⟨u', g, h1, _⟩ := hI.back ho.each hso hbg hg hul z
            rw [hc] at h1
            cases h1
        subst hub
        obtain ⟨x, hx⟩ := farS en hen
        have ge : DGet H6 fa (.int en) (some (.int x)) := by
          have := hkf.val en
          rw [show farF st en = some (.int x) by unfold farF; rw [hx]; rfl] at this
          rw [← this]
          exact .k (k := sK en) (s6 _ _ h3f)
        have hF := hI.far ho.each hso hbg hg hen hu
        rw [hx] at hF
        refine ⟨_, rfl, _, rfl, fa, _, rfl, ge, _, rfl, o, _, rfl, .of h6o, fun p' np' => ⟨by show 2 ≤ sizeLine; decide, fun t nt => ?_⟩⟩
        rw [← List.map_reverse] at nt ⊢
        have s7 : Same H H6 := (s1.trans s3).trans s6
        have hne : p' ≠ t := fun z => by
          rw [← z, upd_same] at nt
          cases nt
        refine q _ t p' x _ ((s7.upd np').upd nt) upd_same (s7.free np') (by rw [upd_ne hne, upd_same]) hF (by rw [List.length_reverse, way_length]; omega) fun x hx => way_all lim hen hu x (List.mem_reverse.mp hx)
      | some w2 =>
        refine teT (by show (!decide (V.int w2 = V.non)) = true; rw [decide_eq_false (by intro z; cases z)]; rfl) ?_
        have hw : upN st.came (m + 1) en = some w2 := by
          show (upN st.came m en).bind st.came = some w2
          rw [hu]
          exact hc
        have happ : (way st.came en m).map nV ++ [V.int w2] = (way st.came en (m + 1)).map nV := by
          rw [way_succ, hw, List.map_append]
          rfl
        rw [hc] at gc
        refine ⟨_, fun σ' H' hN => hN, _, rfl, .inl ⟨rfl, _, .of h6o⟩, _, rfl, _, rfl, 1, rfl, o, _, -1, _, rfl, rfl, .of h6o, hlast, ca, _, rfl, gc, o, _, _, rfl, rfl, h6o, by rw [List.length_map, way_length]; exact small1000 (by omega), ?_⟩
        refine ⟨T w2, by rw [hk2]; exact (dec u w2 hc).1, m + 1, w2, hw, rfl, Same.lst s6 no, ?_, rfl⟩
        rw [upd_same]
        exact congrArg (fun l => some (HO.lst l)) happ
end
end K5
end
section
set_option Elab.async false
set_option linter.all false
set_option maxRecDepth 100000
set_option maxHeartbeats 4000000
/-! Walks, 10: the fewest and the most marks; the chains that show them. -/
namespace K5
open PySem PySem.Spec PyProof.Rows L2
theorem ring_not {rs : List Rule} {ts : List (Option Int)} {ns : List Nat} (h : RingOk rs ts ns) : ¬ Fillable rs ts := by
  obtain ⟨⟨s, h1, h2⟩, _, h3, _⟩ := h
  exact no_fill h1 h2 h3
section
variable {P : Program} {w : World} {K : PySem.W.Frag} {mg : Str → Option Value} {base : Heap}
/-! ### marks -/
abbrev s_marks : Stmt := topS 28
theorem sc_marks : FnScope ["rules", "told"] ["rules", "told"] (defScope s_marks) := ⟨rfl, rfl, rfl, by decide +kernel, rfl, by decide +kernel, by decide +kernel⟩
def spMarks : Sp := fun vs H Q _ => ∃ (a b : Addr) (rs : List Rule) (ts : List (Option Int)), vs = [.ref a, .ref b] ∧ RulesAt H a rs ∧ RulesOk rs ∧ ToldAt H b ts ∧ ToldOk ts ∧
  (¬ Fillable rs ts → ∀ H', Same H H' → Q .non H') ∧
  (Fillable rs ts → ∀ H' t d1 d2 n1 n2, Same H H' → H' t = some (.tup [.int d1, .int (-d2)]) → Far rs ts 0 ts.length d1 n1 → Far rs ts ts.length 0 d2 n2 → Q (.ref t) H')
theorem ok_marks (B : Bu mg) (D : Df K mg "marks" s_marks ["rules", "told"]) (c_need_both : Cl P w K mg base 5 "need_both" (spBoth .non)) (c_led_round : Cl P w K mg base 2 "led_round" spLed) (c_farthest : Cl P w K mg base 2 "farthest" spFar) : Cl P w K mg base 6 "marks" spMarks := by
  refine D.cl sc_marks (fun vs H Q E h => ?_) fun f cdv A outer s H vs Q E hr h => ?_
  · obtain ⟨a, b, rs, ts, rfl, _⟩ := h
    rfl
  · obtain ⟨a, b, rs, ts, rfl, hR, ho, hT, hto, q1, q2⟩ := h
    refine ⟨_, (pss_cons (ps_expr (pe_cl c_need_both hr (by decide) (by rfl) (pa_cons (pv 0) (pa_cons (pv 1) pa_nil))))
      (pss_cons (ps_if (pt_cmpR op_notN (pe_cl c_led_round hr (by decide) (by rfl) (pa_cons (pv 0) (pa_cons (pv 1) pa_nil))) pe_non (nomark _))
        (pss_one (ps_ret pe_non))
        pss_nil)
      (pss_one (ps_ret (pe_tup (pa_cons (pe_ix ix_tup (pe_cl c_farthest hr (by decide) (by rfl) (pa_cons (pv 0) (pa_cons (pv 1) (pa_cons pe_int (pa_cons (pe_callB call_len_seq (by rfl) B.len PySem.boot_len (pa_cons (pv 1) pa_nil)) pa_nil))))) pe_int (fun _ _ => rfl)) (pa_cons (pe_un un_neg (pe_ix ix_tup (pe_cl c_farthest hr (by decide) (by rfl) (pa_cons (pv 0) (pa_cons (pv 1) (pa_cons (pe_callB call_len_seq (by rfl) B.len PySem.boot_len (pa_cons (pv 1) pa_nil)) (pa_cons pe_int pa_nil))))) pe_int (fun _ _ => rfl))) pa_nil))))))), ?_⟩
    refine ⟨_, rfl, _, rfl, a, b, rs, ts, rfl, hR, ho, hT, hto, fun H1 s1 => ?_⟩
    refine ⟨_, rfl, _, rfl, a, b, rs, ts, rfl, hR.same s1, ho, hT.same s1, hto, fun hf H2 s2 => ?_, fun H2 p ns s2 np hp hr _ => ?_⟩
    · refine ⟨rfl, _, rfl, teF (by rw [decide_eq_true rfl]; rfl) ?_⟩
      have s12 := s1.trans s2
      have hT2 : H2 b = some (.tup (ts.map toV)) := hT.same s12
      refine ⟨_, rfl, _, rfl, _, rfl, b, _, rfl, .inr (.of hT2), a, b, 0, ts.length, rs, ts, by rw [List.length_map]; rfl, hR.same s12, ho, hT.same s12, hto, hf, Nat.zero_le _, Nat.le_refl _, fun H3 t p d ns s3 ht _ hp hF hl _ => ?_⟩
      refine ⟨t, _, 0, _, rfl, rfl, .of ht, atI_nat (j := 0) rfl, ?_⟩
      have s13 := s12.trans s3
      have hT3 : H3 b = some (.tup (ts.map toV)) := hT.same s13
      refine ⟨_, rfl, _, rfl, _, rfl, b, _, rfl, .inr (.of hT3), a, b, ts.length, 0, rs, ts, by rw [List.length_map]; rfl, hR.same s13, ho, hT.same s13, hto, hf, Nat.le_refl _, Nat.zero_le _, fun H4 t2 p2 d2 ns2 s4 ht2 _ hp2 hF2 hl2 _ => ?_⟩
      refine ⟨t2, _, 0, _, rfl, rfl, .of ht2, atI_nat (j := 0) rfl, d2, rfl, by show 2 ≤ sizeLine; decide, fun t3 nt3 => ?_⟩
      exact q2 hf _ t3 d d2 ns ns2 ((s13.trans s4).upd nt3) upd_same hF hF2
    · exact ⟨rfl, _, rfl, teT (by rw [decide_eq_false (by intro z; cases z)]; rfl) (q1 (ring_not hr) _ (s1.trans s2))⟩
/-! ### mark_chains -/
abbrev s_mark_chains : Stmt := topS 29
theorem sc_mark_chains : FnScope ["rules", "told"] ["rules", "told"] (defScope s_mark_chains) := ⟨rfl, rfl, rfl, by decide +kernel, rfl, by decide +kernel, by decide +kernel⟩
def spMC : Sp := fun vs H Q _ => ∃ (a b : Addr) (rs : List Rule) (ts : List (Option Int)), vs = [.ref a, .ref b] ∧ RulesAt H a rs ∧ RulesOk rs ∧ ToldAt H b ts ∧ ToldOk ts ∧
  (¬ Fillable rs ts → ∀ H', Same H H' → Q .non H') ∧
  (Fillable rs ts → ∀ H' t d1 d2 n1 n2 p1 p2, Same H H' → H' t = some (.tup [.ref p1, .ref p2]) → H' p1 = some (.lst (n1.map nV)) → H' p2 = some (.lst (n2.map nV)) → Far rs ts 0 ts.length d1 n1 → Far rs ts ts.length 0 d2 n2 →
    n1.length ≤ 900 → n2.length ≤ 900 → (∀ x ∈ n1, x ≤ ts.length) → (∀ x ∈ n2, x ≤ ts.length) → Q (.ref t) H')
theorem ok_mark_chains (B : Bu mg) (D : Df K mg "mark_chains" s_mark_chains ["rules", "told"]) (c_need_both : Cl P w K mg base 5 "need_both" (spBoth .non)) (c_led_round : Cl P w K mg base 2 "led_round" spLed) (c_farthest : Cl P w K mg base 2 "farthest" spFar) : Cl P w K mg base 6 "mark_chains" spMC := by
  refine D.cl sc_mark_chains (fun vs H Q E h => ?_) fun f cdv A outer s H vs Q E hr h => ?_
  · obtain ⟨a, b, rs, ts, rfl, _⟩ := h
    rfl
  · obtain ⟨a, b, rs, ts, rfl, hR, ho, hT, hto, q1, q2⟩ := h
    refine ⟨_, (pss_cons (ps_expr (pe_cl c_need_both hr (by decide) (by rfl) (pa_cons (pv 0) (pa_cons (pv 1) pa_nil))))
      (pss_cons (ps_if (pt_cmpR op_notN (pe_cl c_led_round hr (by decide) (by rfl) (pa_cons (pv 0) (pa_cons (pv 1) pa_nil))) pe_non (nomark _))
        (pss_one (ps_ret pe_non))
        pss_nil)
      (pss_one (ps_ret (pe_tup (pa_cons (pe_ix ix_tup (pe_cl c_farthest hr (by decide) (by rfl) (pa_cons (pv 0) (pa_cons (pv 1) (pa_cons pe_int (pa_cons (pe_callB call_len_seq (by rfl) B.len PySem.boot_len (pa_cons (pv 1) pa_nil)) pa_nil))))) pe_int (fun _ _ => rfl)) (pa_cons (pe_ix ix_tup (pe_cl c_farthest hr (by decide) (by rfl) (pa_cons (pv 0) (pa_cons (pv 1) (pa_cons (pe_callB call_len_seq (by rfl) B.len PySem.boot_len (pa_cons (pv 1) pa_nil)) (pa_cons pe_int pa_nil))))) pe_int (fun _ _ => rfl)) pa_nil))))))), ?_⟩
    refine ⟨_, rfl, _, rfl, a, b, rs, ts, rfl, hR, ho, hT, hto, fun H1 s1 => ?_⟩
    refine ⟨_, rfl, _, rfl, a, b, rs, ts, rfl, hR.same s1, ho, hT.same s1, hto, fun hf H2 s2 => ?_, fun H2 p ns s2 np hp hr _ => ?_⟩
    · refine ⟨rfl, _, rfl, teF (by rw [decide_eq_true rfl]; rfl) ?_⟩
      have s12 := s1.trans s2
      have hT2 : H2 b = some (.tup (ts.map toV)) := hT.same s12
      refine ⟨_, rfl, _, rfl, _, rfl, b, _, rfl, .inr (.of hT2), a, b, 0, ts.length, rs, ts, by rw [List.length_map]; rfl, hR.same s12, ho, hT.same s12, hto, hf, Nat.zero_le _, Nat.le_refl _, fun H3 t p d ns s3 ht _ hp hF hl hn => ?_⟩
      refine ⟨t, _, 1, _, rfl, rfl, .of ht, atI_nat (j := 1) rfl, ?_⟩
      have s13 := s12.trans s3
      have hT3 : H3 b = some (.tup (ts.map toV)) := hT.same s13
      refine ⟨_, rfl, _, rfl, _, rfl, b, _, rfl, .inr (.of hT3), a, b, ts.length, 0, rs, ts, by rw [List.length_map]; rfl, hR.same s13, ho, hT.same s13, hto, hf, Nat.le_refl _, Nat.zero_le _, fun H4 t2 p2 d2 ns2 s4 ht2 _ hp2 hF2 hl2 hn2 => ?_⟩
      refine ⟨t2, _, 1, _, rfl, rfl, .of ht2, atI_nat (j := 1) rfl, by show 2 ≤ sizeLine; decide, fun t3 nt3 => ?_⟩
      have s5 := same_upd (o := .tup [.ref p, .ref p2]) nt3
      exact q2 hf _ t3 d d2 ns ns2 p p2 ((s13.trans s4).trans s5) upd_same (s5 _ _ (s4 _ _ hp)) (s5 _ _ hp2) hF hF2 hl hl2 hn hn2
    · exact ⟨rfl, _, rfl, teT (by rw [decide_eq_false (by intro z; cases z)]; rfl) (q1 (ring_not hr) _ (s1.trans s2))⟩
end
end K5
end
section
set_option Elab.async false
set_option linter.all false
set_option maxRecDepth 100000
set_option maxHeartbeats 4000000
/-! Walks of the law, 1: the draws. -/
namespace K5
open PySem PySem.Spec PyProof.Rows L2
/-! ### the deck -/
def Deck (H : Hp) (d : Addr) (n : Nat) : Prop := ∃ a b c : Int, H d = some (.lst [.int a, .int b, .int c]) ∧ 0 ≤ a ∧ 0 ≤ b ∧ b < 2147483579 ∧ 0 ≤ c ∧ c ≤ n
theorem Deck.mono {H : Hp} {d : Addr} {n m : Nat} (h : Deck H d n) (e : n ≤ m) : Deck H d m := by
  obtain ⟨a, b, c, h1, h2, h3, h4, h5, h6⟩ := h
  exact ⟨a, b, c, h1, h2, h3, h4, h5, by omega⟩
theorem Deck.same {H H' : Hp} {d : Addr} {n : Nat} (h : Deck H d n) (s : Same H H') : Deck H' d n := by
  obtain ⟨a, b, c, h1, h2⟩ := h
  exact ⟨a, b, c, s _ _ h1, h2⟩
/-- all but what stands at d -/
def wo (d : Addr) (H : Hp) : Hp := fun b => if b = d then none else H b
theorem wo_same (d : Addr) (H : Hp) : Same (wo d H) H := fun b x e => by
  unfold wo at e
  by_cases z : b = d
  · rw [if_pos z] at e
    cases e
  · rw [if_neg z] at e
    exact e
theorem wo_none (d : Addr) (H : Hp) : wo d H d = none := if_pos rfl
theorem wo_at {d b : Addr} {H : Hp} (h : b ≠ d) : wo d H b = H b := if_neg h
/-- what G knows, and all else but the deck -/
theorem _root_.L2.Same.wo {G H : Hp} {d : Addr} (s : Same G H) (n : G d = none) : Same G (K5.wo d H) := fun b x e => by
  have nb : b ≠ d := ne_of_none e n
  rw [wo_at nb]
  exact s _ _ e
/-- a new thing at p that G may know from now on -/
theorem _root_.L2.Same.know {G H : Hp} {p : Addr} {o : HO} (s : Same G H) (h : H p = some o) : Same (L2.upd G p o) H := fun b x e => by
  by_cases z : b = p
  · rw [z, upd_same] at e
    rw [z, h]
    exact e
  · rw [upd_ne z] at e
    exact s _ _ e
theorem imod_lt {a : Int} {n : Nat} (h : 0 < n) : ∃ i : Nat, a % (n : Int) = (i : Int) ∧ i < n := by
  have h1 : 0 ≤ a % (n : Int) := Int.emod_nonneg _ (by omega)
  have h2 : a % (n : Int) < (n : Int) := Int.emod_lt_of_pos _ (by omega)
  exact ⟨(a % (n : Int)).toNat, by omega, by omega⟩
section
variable {P : Program} {w : World} {K : PySem.W.Frag} {mg : Str → Option Value} {base : Heap}
abbrev s_law_deck : Stmt := topS 31
theorem sc_law_deck : FnScope ["cell", "turn"] ["cell", "turn"] (defScope s_law_deck) := ⟨rfl, rfl, rfl, by decide +kernel, rfl, by decide +kernel, by decide +kernel⟩
def spDeck : Sp := fun vs H Q _ => ∃ cell : Int, vs = [.int cell, .int 5] ∧ ∀ H' p, Same H H' → H p = none → Deck H' p 5 → Q (.ref p) H'
theorem ok_law_deck (D : Df K mg "_law_deck" s_law_deck ["cell", "turn"]) : Cl P w K mg base 1 "_law_deck" spDeck := by
  refine D.cl sc_law_deck (fun vs H Q E h => ?_) fun f cdv A outer s H vs Q E hr h => ?_
  · obtain ⟨cell, rfl, _⟩ := h
    rfl
  · obtain ⟨cell, rfl, q⟩ := h
    refine ⟨_, (pss_cons (ps_if (pt_cmpR op_ge (pv 0) (pe_op op_pow pe_int pe_int) (nomark _))
        (pss_one (ps_ret (pe_lst (pa_cons (pe_op op_sub (pv 0) (pe_op op_pow pe_int pe_int)) (pa_cons (pe_op op_mod (pv 0) pe_int) (pa_cons (pv 1) pa_nil))))))
        pss_nil)
      (pss_one (ps_ret (pe_lst (pa_cons pe_int (pa_cons (pe_op op_mod (pv 0) pe_int) (pa_cons (pv 1) pa_nil))))))), ?_⟩
    have h1 : 0 ≤ cell % 2147483579 := Int.emod_nonneg _ (by decide)
    have h2 : cell % 2147483579 < 2147483579 := Int.emod_lt_of_pos _ (by decide)
    refine ⟨_, rfl, _, _, rfl, rfl, ⟨by decide, by decide, by decide⟩, _, _, rfl, rfl, _, rfl, ite2 (fun e => ?_) fun e => ?_⟩
    · have e : (10 : Int) ^ (18 : Int).toNat ≤ cell := of_decide_eq_true e
      refine ⟨_, rfl, _, _, rfl, rfl, ⟨by decide, by decide, by decide⟩, _, _, rfl, rfl, _, rfl, _, _, rfl, rfl, (by show (0 : Int) < 2147483579; decide), _, rfl, by show 3 ≤ sizeLine; decide, fun p np => ?_⟩
      exact q _ p (same_upd np) np ⟨_, _, _, upd_same, by omega, h1, h2, by decide, by decide⟩
    · refine ⟨_, rfl, _, _, rfl, rfl, (by show (0 : Int) < 2147483579; decide), _, rfl, by show 3 ≤ sizeLine; decide, fun p np => ?_⟩
      exact q _ p (same_upd np) np ⟨_, _, _, upd_same, by decide, h1, h2, by decide, by decide⟩
abbrev s_law_pick : Stmt := topS 32
theorem sc_law_pick : FnScope ["deck", "size", "found", "number"] ["deck", "size"] (defScope s_law_pick) := ⟨rfl, rfl, rfl, by decide +kernel, rfl, by decide +kernel, by decide +kernel⟩
def spPick : Sp := fun vs H Q _ => ∃ (d : Addr) (size n : Nat) (G : Hp), vs = [.ref d, .int size] ∧ Deck H d n ∧ n ≤ 1000000 ∧ 1 ≤ size ∧ size ≤ 100000 ∧ Same G H ∧ G d = none ∧
  ∀ H' (i : Nat), Same G H' → Deck H' d (n + 1) → i < size → Q (.int i) H'
theorem ok_law_pick (D : Df K mg "_law_pick" s_law_pick ["deck", "size"]) : Cl P w K mg base 1 "_law_pick" spPick := by
  refine D.cl sc_law_pick (fun vs H Q E h => ?_) fun f cdv A outer s H vs Q E hr h => ?_
  · obtain ⟨d, size, n, G, rfl, _⟩ := h
    rfl
  · obtain ⟨d, size, n, G, rfl, ⟨a, b, c, hd, ha, hb, hb2, hc, hc2⟩, hn, hs1, hs2, sG, nG, q⟩ := h
    refine ⟨_, (pss_cons (ps_if (pt_cmpR op_gt (pe_ix ix_list (pv 0) pe_int (fun _ _ => rfl)) pe_int (nomark _))
        (pss_cons (ps_set (i := 2) sc_law_pick.nd rfl (Or.inl rfl) (pe_op op_mod (pe_ix ix_list (pv 0) pe_int (fun _ _ => rfl)) (pv 1)))
        (pss_cons (ps_asg (pe_op op_fdiv (pe_ix ix_list (pv 0) pe_int (fun _ _ => rfl)) (pv 1)) (pg_sub (pv 0) pe_int set_list))
        (pss_one (ps_ret (pv 2)))))
        pss_nil)
      (pss_cons (ps_asg (pe_op op_add (pe_ix ix_list (pv 0) pe_int (fun _ _ => rfl)) pe_int) (pg_sub (pv 0) pe_int set_list))
      (pss_cons (ps_set (i := 3) sc_law_pick.nd rfl (Or.inl rfl) (pe_op op_mod (pe_op op_pow (pe_op op_add (pe_ix ix_list (pv 0) pe_int (fun _ _ => rfl)) (pe_op op_mul pe_int (pe_ix ix_list (pv 0) pe_int (fun _ _ => rfl)))) pe_int) pe_int))
      (pss_cons (ps_set (i := 2) sc_law_pick.nd rfl (Or.inl rfl) (pe_op op_fdiv (pe_op op_mod (pe_op op_pow (pe_op op_add (pv 3) (pe_op op_mul pe_int (pe_ix ix_list (pv 0) pe_int (fun _ _ => rfl)))) pe_int) pe_int) pe_int))
      (pss_one (ps_ret (pe_op op_mod (pv 2) (pv 1)))))))), ?_⟩
    refine ⟨_, rfl, d, _, 0, _, rfl, rfl, .of hd, atI_nat (j := 0) rfl, _, _, rfl, rfl, _, rfl, ite2 (fun e => ?_) fun e => ?_⟩
    · obtain ⟨i, ei, hi⟩ := imod_lt (a := a) (n := size) (by omega)
      refine ⟨_, rfl, d, _, 0, _, rfl, rfl, .of hd, atI_nat (j := 0) rfl, _, rfl, _, _, rfl, rfl, by omega, ?_⟩
      refine ⟨_, rfl, d, _, 0, _, rfl, rfl, .of hd, atI_nat (j := 0) rfl, _, rfl, _, _, rfl, rfl, ⟨by omega, by omega⟩, _, rfl, d, _, 0, 0, rfl, rfl, hd, rfl, ?_⟩
      refine ⟨_, rfl, ?_⟩
      refine qI (Q := Q) ei (q _ i (Same.at sG nG) ⟨_, _, _, upd_same, ?_, hb, hb2, hc, by omega⟩ hi)
      exact Int.ediv_nonneg ha (by omega)
    · refine ⟨_, rfl, d, _, 2, _, rfl, rfl, .of hd, atI_nat (j := 2) rfl, _, _, rfl, rfl, _, rfl, d, _, 2, 2, rfl, rfl, hd, rfl, ?_⟩
      have hd2 : (upd H d (.lst [.int a, .int b, .int (c + 1)])) d = some (.lst [.int a, .int b, .int (c + 1)]) := upd_same
      refine ⟨_, rfl, d, _, 1, _, rfl, rfl, .of hd2, atI_nat (j := 1) rfl, _, rfl, d, _, 2, _, rfl, rfl, .of hd2, atI_nat (j := 2) rfl, _, _, rfl, rfl, .inl ⟨by decide, by decide⟩, _, _, rfl, rfl, _, _, rfl, rfl, ⟨by decide, by decide, ?_⟩, _, _, rfl, rfl, (by show (0 : Int) < 2147483647; decide), ?_⟩
      · show (b + 15485867 * (c + 1)).natAbs < 2 ^ 64
        omega
      have m1 : 0 ≤ (b + 15485867 * (c + 1)) ^ (5 : Int).toNat % 2147483647 := Int.emod_nonneg _ (by decide)
      have m2 : (b + 15485867 * (c + 1)) ^ (5 : Int).toNat % 2147483647 < 2147483647 := Int.emod_lt_of_pos _ (by decide)
      refine ⟨_, rfl, _, rfl, d, _, 2, _, rfl, rfl, .of hd2, atI_nat (j := 2) rfl, _, _, rfl, rfl, .inl ⟨by decide, by decide⟩, _, _, rfl, rfl, _, _, rfl, rfl, ⟨by decide, by decide, ?_⟩, _, _, rfl, rfl, (by show (0 : Int) < 2147483629; decide), _, _, rfl, rfl, ⟨by decide, by decide⟩, ?_⟩
      · show ((b + 15485867 * (c + 1)) ^ (5 : Int).toNat % 2147483647 + 7919 * (c + 1)).natAbs < 2 ^ 64
        omega
      obtain ⟨i, ei, hi⟩ := imod_lt (a := ((b + 15485867 * (c + 1)) ^ (5 : Int).toNat % 2147483647 + 7919 * (c + 1)) ^ (3 : Int).toNat % 2147483629 / 32) (n := size) (by omega)
      refine ⟨_, rfl, _, rfl, _, _, rfl, rfl, by show (0 : Int) < (size : Int); omega, ?_⟩
      exact qI (Q := Q) ei (q _ i (Same.at sG nG) ⟨_, _, _, upd_same, ha, hb, hb2, by omega, by omega⟩ hi)
abbrev s_law_one : Stmt := topS 34
theorem sc_law_one : FnScope ["deck", "some"] ["deck", "some"] (defScope s_law_one) := ⟨rfl, rfl, rfl, by decide +kernel, rfl, by decide +kernel, by decide +kernel⟩
def spOne : Sp := fun vs H Q _ => ∃ (d t : Addr) (xs : List V) (n : Nat) (G : Hp), vs = [.ref d, .ref t] ∧ Deck H d n ∧ n ≤ 1000000 ∧ G t = some (.lst xs) ∧ 1 ≤ xs.length ∧ xs.length ≤ 1000 ∧ Same G H ∧ G d = none ∧
  ∀ H' x, Same G H' → Deck H' d (n + 1) → x ∈ xs → Q x H'
theorem ok_law_one (B : Bu mg) (D : Df K mg "_law_one" s_law_one ["deck", "some"]) (c_law_pick : Cl P w K mg base 1 "_law_pick" spPick) : Cl P w K mg base 2 "_law_one" spOne := by
  refine D.cl sc_law_one (fun vs H Q E h => ?_) fun f cdv A outer s H vs Q E hr h => ?_
  · obtain ⟨d, t, xs, n, G, rfl, _⟩ := h
    rfl
  · obtain ⟨d, t, xs, n, G, rfl, hd, hn, ht, h1, h2, sG, nG, q⟩ := h
    refine ⟨_, (pss_one (ps_ret (pe_ix ix_list (pv 1) (pe_cl c_law_pick hr (by decide) (by rfl) (pa_cons (pv 0) (pa_cons (pe_callB call_len_seq (by rfl) B.len PySem.boot_len (pa_cons (pv 1) pa_nil)) pa_nil))) (fun _ _ => rfl)))), ?_⟩
    refine ⟨_, rfl, _, rfl, _, rfl, t, _, rfl, .inl (.of (sG _ _ ht)), d, xs.length, n, G, rfl, hd, hn, h1, by omega, sG, nG, fun H' i s' hd' hi => ?_⟩
    obtain ⟨x, ex, hx⟩ := lt_at hi
    exact ⟨t, xs, (i : Int), x, rfl, rfl, .of (s' _ _ ht), atI_nat ex, q H' x s' hd' hx⟩
abbrev s_law_whole : Stmt := topS 33
theorem sc_law_whole : FnScope ["thing"] ["thing"] (defScope s_law_whole) := ⟨rfl, rfl, rfl, by decide +kernel, rfl, by decide +kernel, by decide +kernel⟩
def isWhole : V → Bool
  | .int _ => true
  | _ => false
def spWhole : Sp := fun vs H Q _ => ∃ (x : V) (T : String), vs = [x] ∧ Th H x T ∧ Q (.bl (isWhole x)) H
theorem ok_law_whole (B : Bu mg) (D : Df K mg "_law_whole" s_law_whole ["thing"]) : Cl P w K mg base 1 "_law_whole" spWhole := by
  refine D.cl sc_law_whole (fun vs H Q E h => ?_) fun f cdv A outer s H vs Q E hr h => ?_
  · obtain ⟨x, T, rfl, _⟩ := h
    rfl
  · obtain ⟨x, T, rfl, hx, q⟩ := h
    refine ⟨_, (pss_one (ps_ret (pe_and (pe_isi B (pv 0) (pe_tInt B)) (pe_one (pe_not (pe_isi B (pv 0) (pe_tBool B))))))), ?_⟩
    refine ⟨x, rfl, x, T, "int", rfl, by decide, hx, _, rfl, ?_⟩
    cases hx with
    | int i => exact iteT ⟨.int i, rfl, .int i, "int", "bool", rfl, by decide, .int i, _, rfl, q⟩
    | non => exact iteF q
    | bl b => exact iteT ⟨.bl b, rfl, .bl b, "bool", "bool", rfl, by decide, .bl b, _, rfl, q⟩
    | str y => exact iteF q
    | lst e => exact iteF q
    | tup e => exact iteF q
abbrev s_law_sort : Stmt := topS 35
theorem sc_law_sort : FnScope ["thing"] ["thing"] (defScope s_law_sort) := ⟨rfl, rfl, rfl, by decide +kernel, rfl, by decide +kernel, by decide +kernel⟩
def sortN : String → Int := fun T => if T = "bool" then 1 else if T = "int" then 2 else if T = "str" then 3 else if T = "list" then 4 else if T = "tuple" then 5 else 6
def spSort : Sp := fun vs H Q _ => ∃ (x : V) (T : String), vs = [x] ∧ Th H x T ∧ Q (.int (sortN T)) H
theorem ok_law_sort (B : Bu mg) (D : Df K mg "_law_sort" s_law_sort ["thing"]) : Cl P w K mg base 1 "_law_sort" spSort := by
  refine D.cl sc_law_sort (fun vs H Q E h => ?_) fun f cdv A outer s H vs Q E hr h => ?_
  · obtain ⟨x, T, rfl, _⟩ := h
    rfl
  · obtain ⟨x, T, rfl, hx, q⟩ := h
    refine ⟨_, (pss_cons (ps_if (pt_val (pe_isi B (pv 0) (pe_tBool B)))
        (pss_one (ps_ret pe_int))
        pss_nil)
      (pss_cons (ps_if (pt_val (pe_isi B (pv 0) (pe_tInt B)))
        (pss_one (ps_ret pe_int))
        pss_nil)
      (pss_cons (ps_if (pt_val (pe_isi B (pv 0) (pe_tStr B)))
        (pss_one (ps_ret pe_int))
        pss_nil)
      (pss_cons (ps_if (pt_val (pe_isi B (pv 0) (pe_tList B)))
        (pss_one (ps_ret pe_int))
        pss_nil)
      (pss_one (ps_ret (pe_ifExp (pt_val (pe_isi B (pv 0) (pe_tTuple B))) pe_int pe_int))))))), ?_⟩
    refine ⟨x, rfl, x, T, "bool", rfl, by decide, hx, _, rfl, ?_⟩
    cases hx with
    | bl b => exact iteT q
    | int i => exact iteF ⟨_, rfl, _, _, "int", rfl, by decide, .int i, _, rfl, iteT q⟩
    | str y => exact iteF ⟨_, rfl, _, _, "int", rfl, by decide, .str y, _, rfl, iteF ⟨_, rfl, _, _, "str", rfl, by decide, .str y, _, rfl, iteT q⟩⟩
    | lst e => exact iteF ⟨_, rfl, _, _, "int", rfl, by decide, .lst e, _, rfl, iteF ⟨_, rfl, _, _, "str", rfl, by decide, .lst e, _, rfl, iteF ⟨_, rfl, _, _, "list", rfl, by decide, .lst e, _, rfl, iteT q⟩⟩⟩
    | tup e => exact iteF ⟨_, rfl, _, _, "int", rfl, by decide, .tup e, _, rfl, iteF ⟨_, rfl, _, _, "str", rfl, by decide, .tup e, _, rfl, iteF ⟨_, rfl, _, _, "list", rfl, by decide, .tup e, _, rfl, iteF ⟨_, rfl, _, _, "tuple", rfl, by decide, .tup e, _, rfl, iteT q⟩⟩⟩⟩
    | non => exact iteF ⟨_, rfl, _, _, "int", rfl, by decide, .non, _, rfl, iteF ⟨_, rfl, _, _, "str", rfl, by decide, .non, _, rfl, iteF ⟨_, rfl, _, _, "list", rfl, by decide, .non, _, rfl, iteF ⟨_, rfl, _, _, "tuple", rfl, by decide, .non, _, rfl, iteF q⟩⟩⟩⟩
abbrev s_law_same : Stmt := topS 36
theorem sc_law_same : FnScope ["told", "due", "k", "part"] ["told", "due"] (defScope s_law_same) := ⟨rfl, rfl, rfl, by decide +kernel, rfl, by decide +kernel, by decide +kernel⟩
def spSame : Sp := fun vs H Q _ => ∃ o : Option Int, vs = [toV o, toV o] ∧ Q (.bl true) H
theorem ok_law_same (B : Bu mg) (D : Df K mg "_law_same" s_law_same ["told", "due"]) (c_law_sort : Cl P w K mg base 1 "_law_sort" spSort) : Cl P w K mg base 2 "_law_same" spSame := by
  refine D.cl sc_law_same (fun vs H Q E h => ?_) fun f cdv A outer s H vs Q E hr h => ?_
  · obtain ⟨o, rfl, _⟩ := h
    rfl
  · obtain ⟨o, rfl, q⟩ := h
    have tt : Th H (toV o) (match o with | none => "NoneType" | some _ => "int") := by
      cases o with
      | none => exact .non
      | some i => exact .int i
    refine ⟨_, (pss_cons (ps_if (pt_cmpR op_ne (pe_cl c_law_sort hr (by decide) (by rfl) (pa_cons (pv 0) pa_nil)) (pe_cl c_law_sort hr (by decide) (by rfl) (pa_cons (pv 1) pa_nil)) (nomark _))
        (pss_one (ps_ret pe_bl))
        pss_nil)
      (pss_cons (ps_if (PW.pt (pw_and (pt_cmpR op_gt (pe_cl c_law_sort hr (by decide) (by rfl) (pa_cons (pv 0) pa_nil)) pe_int (nomark _)) (pw_and1 (pt_cmpR op_lt (pe_cl c_law_sort hr (by decide) (by rfl) (pa_cons (pv 0) pa_nil)) pe_int (nomark _)))))
        pss_never
        pss_nil)
      (pss_one (ps_ret (pe_cmpR op_eq (pv 0) (pv 1) (nomark _)))))), ?_⟩
    refine ⟨_, rfl, _, _, rfl, tt, _, rfl, _, _, rfl, tt, rfl, _, rfl, teF (by rw [decide_eq_true rfl]; rfl) ?_⟩
    refine ⟨_, rfl, _, _, rfl, tt, _, _, rfl, rfl, _, rfl, ?_⟩
    cases o with
    | none =>
      refine teT (decide_eq_true (by decide)) ⟨_, rfl, _, _, rfl, tt, _, _, rfl, rfl, _, rfl, teF (decide_eq_false (by decide)) ?_⟩
      exact ⟨_, rfl, _, rfl, rfl, qT (Q := Q) (decide_eq_true rfl) q⟩
    | some i =>
      refine teF (decide_eq_false (by show ¬ (3 : Int) < 2; decide)) ?_
      exact ⟨_, rfl, _, rfl, rfl, qT (Q := Q) (decide_eq_true rfl) q⟩
end
end K5
end
section
set_option Elab.async false
set_option linter.all false
set_option maxRecDepth 100000
set_option maxHeartbeats 4000000
/-! Walks of the law, 2: odd things, spoilt things. -/
namespace K5
open PySem PySem.Spec PyProof.Rows L2
/-! ### what is known beside the deck -/
structure View (d : Addr) (G H : Hp) (n : Nat) : Prop where
  same : Same G H
  no : G d = none
  deck : Deck H d n
theorem View.ne {d p : Addr} {G H : Hp} {n : Nat} (v : View d G H n) (np : H p = none) : p ≠ d := fun z => by
  obtain ⟨a, b, c, h, _⟩ := v.deck
  rw [← z, np] at h
  cases h
theorem View.new {d p : Addr} {G H : Hp} {n : Nat} {o : HO} (v : View d G H n) (np : H p = none) : View d (upd G p o) (upd H p o) n := by
  have ne := v.ne np
  refine ⟨fun b x e => ?_, by rw [upd_ne ne.symm]; exact v.no, v.deck.same (same_upd np)⟩
  by_cases z : b = p
  · rw [z, upd_same] at e ⊢
    exact e
  · rw [upd_ne z] at e ⊢
    exact v.same _ _ e
theorem View.step {d p : Addr} {G H : Hp} {n : Nat} {o : HO} (v : View d G H n) (np : H p = none) : Same G (upd G p o) := same_upd (v.same.free np)
theorem View.go {d : Addr} {G H H' : Hp} {n m : Nat} (v : View d G H n) (s : Same G H') (dk : Deck H' d m) : View d G H' m := ⟨s, v.no, dk⟩
theorem View.put {d r : Addr} {G H : Hp} {n : Nat} {o : HO} (v : View d G H n) (nr : G r = none) (ne : r ≠ d) : View d G (upd H r o) n := by
  refine ⟨v.same.at nr, v.no, ?_⟩
  obtain ⟨a, b, c, h, q⟩ := v.deck
  exact ⟨a, b, c, by rw [upd_ne ne.symm]; exact h, q⟩
theorem strOk_of (s : String) : PyData.strOk (Str.ofString s) = true := by
  unfold PyData.strOk
  rw [Str.ofString_eq_toList, Array.all_eq_true]
  intro i hi
  have hi' : i < (s.toList.map Char.toNat).length := by simpa using hi
  show decide ((s.toList.map Char.toNat).toArray[i] < 0x110000) = true
  rw [decide_eq_true_iff, List.getElem_toArray, List.getElem_map]
  generalize s.toList[i]'(by simpa using hi') = c
  have h := c.valid
  unfold UInt32.isValidChar Nat.isValidChar at h
  show c.val.toNat < 0x110000
  omega
section
variable {P : Program} {w : World} {K : PySem.W.Frag} {mg : Str → Option Value} {base : Heap}
abbrev s_law_odd : Stmt := topS 37
theorem sc_law_odd : FnScope ["deck", "some"] ["deck"] (defScope s_law_odd) := ⟨rfl, rfl, rfl, by decide +kernel, rfl, by decide +kernel, by decide +kernel⟩
def spOdd : Sp := fun vs H Q _ => ∃ (d : Addr) (n : Nat) (G : Hp), vs = [.ref d] ∧ View d G H n ∧ n ≤ 1000000 ∧ ∀ H' x o, View d G H' (n + 1) → Tg (K5.wo d H') x o → Q x H'
theorem ok_law_odd (B : Bu mg) (D : Df K mg "_law_odd" s_law_odd ["deck"]) (c_law_one : Cl P w K mg base 2 "_law_one" spOne) : Cl P w K mg base 3 "_law_odd" spOdd := by
  refine D.cl sc_law_odd (fun vs H Q E h => ?_) fun f cdv A outer s H vs Q E hr h => ?_
  · obtain ⟨d, n, G, rfl, _⟩ := h
    rfl
  · obtain ⟨d, n, G, rfl, v, hn, q⟩ := h
    refine ⟨_, (pss_cons (ps_set (i := 1) sc_law_odd.nd rfl (Or.inl rfl) (pe_lst (pa_cons pe_non (pa_cons pe_bl (pa_cons pe_str (pa_cons pe_str (pa_cons (pe_tup pa_nil) (pa_cons (pe_lst pa_nil) (pa_cons (pe_tup (pa_cons (pe_tup pa_nil) pa_nil)) (pa_cons pe_int (pa_cons (pe_un un_neg pe_int) (pa_cons (pe_op op_pow pe_int pe_int) (pa_cons (pe_tup (pa_cons pe_int (pa_cons pe_int pa_nil))) (pa_cons (pe_tup (pa_cons (pe_tup (pa_cons pe_int (pa_cons pe_int (pa_cons pe_int pa_nil)))) pa_nil)) (pa_cons (pe_tup (pa_cons pe_int (pa_cons pe_int pa_nil))) (pa_cons (pe_lst (pa_cons pe_int (pa_cons pe_int pa_nil))) (pa_cons (pe_tup (pa_cons pe_int (pa_cons pe_int pa_nil))) pa_nil)))))))))))))))))
      (pss_one (ps_ret (pe_cl c_law_one hr (by decide) (by rfl) (pa_cons (pv 0) (pa_cons (pv 1) pa_nil)))))), ?_⟩
    refine ⟨Nat.zero_le _, fun t1 n1 => ⟨Nat.zero_le _, fun l1 n2 => ⟨Nat.zero_le _, fun t2 n3 => ⟨by show 1 ≤ sizeLine; decide, fun t3 n4 => ?_⟩⟩⟩⟩
    have v1 := v.new (o := .tup []) n1
    have v2 := v1.new (o := .lst []) n2
    have v3 := v2.new (o := .tup []) n3
    have v4 := v3.new (o := .tup [.ref t2]) n4
    have k1 := v1.step (o := .lst []) n2
    have k2 := v2.step (o := .tup []) n3
    have k3 := v3.step (o := .tup [.ref t2]) n4
    refine ⟨1, rfl, _, _, rfl, rfl, ⟨by decide, by decide, by decide⟩, by show 2 ≤ sizeLine; decide, fun t4 n5 => ⟨by show 3 ≤ sizeLine; decide, fun t5 n6 => ⟨by show 1 ≤ sizeLine; decide, fun t6 n7 => ⟨by show 2 ≤ sizeLine; decide, fun t7 n8 => ⟨by show 2 ≤ sizeLine; decide, fun l2 n9 => ⟨by show 2 ≤ sizeLine; decide, fun t8 n10 => ⟨by show 15 ≤ sizeLine; decide, fun l3 n11 => ?_⟩⟩⟩⟩⟩⟩⟩
    have v5 := v4.new (o := .tup [.int 1, .int 2]) n5
    have v6 := v5.new (o := .tup [.int 3, .int 1, .int 2]) n6
    have v7 := v6.new (o := .tup [.ref t5]) n7
    have v8 := v7.new (o := .tup [.int 0, .int 1]) n8
    have v9 := v8.new (o := .lst [.int 0, .int 1]) n9
    have v10 := v9.new (o := .tup [.int 2, .int 4]) n10
    have v11 := v10.new (o := .lst [.non, .bl true, .str "", .str "a", .ref t1, .ref l1, .ref t3, .int 7, .int (-1), .int (10 ^ 30), .ref t4, .ref t6, .ref t7, .ref l2, .ref t8]) n11
    have k4 := v4.step (o := .tup [.int 1, .int 2]) n5
    have k5 := v5.step (o := .tup [.int 3, .int 1, .int 2]) n6
    have k6 := v6.step (o := .tup [.ref t5]) n7
    have k7 := v7.step (o := .tup [.int 0, .int 1]) n8
    have k8 := v8.step (o := .lst [.int 0, .int 1]) n9
    have k9 := v9.step (o := .tup [.int 2, .int 4]) n10
    have k10 := v10.step (o := .lst [.non, .bl true, .str "", .str "a", .ref t1, .ref l1, .ref t3, .int 7, .int (-1), .int (10 ^ 30), .ref t4, .ref t6, .ref t7, .ref l2, .ref t8]) n11
    have j9 := k9.trans k10
    have j8 := k8.trans j9
    have j7 := k7.trans j8
    have j6 := k6.trans j7
    have j5 := k5.trans j6
    have j4 := k4.trans j5
    have j3 := k3.trans j4
    have j2 := k2.trans j3
    have j1 := k1.trans j2
    have j0 := (v.step (o := .tup []) n1).trans j1
    refine ⟨_, rfl, _, rfl, d, l3, _, n, _, rfl, v11.deck, hn, upd_same, by show 1 ≤ 15; decide, by show 15 ≤ 1000; decide, v11.same, v11.no, fun H' x s' hd' hx => ?_⟩
    have sw := s'.wo v11.no
    have fin : ∃ o, Tg (K5.wo d H') x o := by
      simp only [List.mem_cons, List.not_mem_nil, or_false] at hx
      rcases hx with rfl | rfl | rfl | rfl | rfl | rfl | rfl | rfl | rfl | rfl | rfl | rfl | rfl | rfl | rfl
      · exact ⟨_, .no .non (by decide)⟩
      · exact ⟨_, .no (.bl _) (by decide)⟩
      · exact ⟨_, .no (.str _) (by decide)⟩
      · exact ⟨_, .no (.str _) (by decide)⟩
      · exact ⟨_, .no (.tup (sw _ _ (j1 _ _ upd_same))) (by decide)⟩
      · exact ⟨_, .lst (sw _ _ (j2 _ _ upd_same)) (fun y hy => (by cases hy)) (Nat.zero_le _)⟩
      · exact ⟨_, .no (.tup (sw _ _ (j4 _ _ upd_same))) (by decide)⟩
      · exact ⟨_, .no (.int _) (by decide)⟩
      · exact ⟨_, .no (.int _) (by decide)⟩
      · exact ⟨_, .no (.int _) (by decide)⟩
      · exact ⟨_, .no (.tup (sw _ _ (j5 _ _ upd_same))) (by decide)⟩
      · exact ⟨_, .no (.tup (sw _ _ (j7 _ _ upd_same))) (by decide)⟩
      · exact ⟨_, .no (.tup (sw _ _ (j8 _ _ upd_same))) (by decide)⟩
      · refine ⟨_, .lst (sw _ _ (j9 _ _ upd_same)) (fun y hy => ?_) (by show 2 ≤ 900; decide)⟩
        rcases List.mem_cons.mp hy with rfl | hy
        · exact .int _
        · rw [List.mem_singleton.mp hy]
          exact .int _
      · exact ⟨_, .no (.tup (sw _ _ (k10 _ _ upd_same))) (by decide)⟩
    obtain ⟨o, ho⟩ := fin
    exact q H' x o ⟨j0.trans s', v.no, hd'⟩ ho
abbrev s_law_spoilt : Stmt := topS 38
theorem sc_law_spoilt : FnScope ["deck", "thing", "rows", "at", "other"] ["deck", "thing"] (defScope s_law_spoilt) := ⟨rfl, rfl, rfl, by decide +kernel, rfl, by decide +kernel, by decide +kernel⟩
def spSp0 : Sp := fun vs H Q _ => ∃ (d : Addr) (i : Int) (n : Nat) (G : Hp), vs = [.ref d, .int i] ∧ i.natAbs.log2 < 1920 ∧ View d G H n ∧ n ≤ 1000000 ∧ ∀ H' x, View d G H' (n + 1) → Fl x → Q x H'
theorem ok_spoilt0 (B : Bu mg) (D : Df K mg "_law_spoilt" s_law_spoilt ["deck", "thing"]) (c_law_pick : Cl P w K mg base 1 "_law_pick" spPick) : Cl P w K mg base 2 "_law_spoilt" spSp0 := by
  refine D.cl sc_law_spoilt (fun vs H Q E h => ?_) fun f cdv A outer s H vs Q E hr h => ?_
  · obtain ⟨d, i, n, G, rfl, _⟩ := h
    rfl
  · obtain ⟨d, i, n, G, rfl, hi, v, hn, q⟩ := h
    refine ⟨_, (pss_cons (ps_if (PW.pt (pw_and (pt_val (pe_isi2 B (pv 1) (pe_tup (pa_cons (pe_tTuple B) (pa_cons (pe_tList B) pa_nil))))) (pw_and (pt_cmpR op_gt (pe_callB call_len_seq (by rfl) B.len PySem.boot_len (pa_cons (pv 1) pa_nil)) pe_int (nomark _)) (pw_and1 (pt_cmpR op_gt (pe_cl c_law_pick hr (by decide) (by rfl) (pa_cons (pv 0) (pa_cons pe_int pa_nil))) pe_int (nomark _))))))
        pss_never
        pss_nil)
      (pss_cons (ps_if (pt_val (pe_isi2 B (pv 1) (pe_tup (pa_cons (pe_tTuple B) (pa_cons (pe_tList B) pa_nil)))))
        pss_never
        pss_nil)
      (pss_cons (ps_if (pt_val (pe_isi B (pv 1) (pe_tInt B)))
        (pss_one (ps_ret (pe_ix ix_list (pe_lst (pa_cons (pe_op op_add (pv 1) pe_int) (pa_cons (pe_op op_sub (pv 1) pe_int) (pa_cons pe_bl (pa_cons pe_non (pa_cons pe_int (pa_cons pe_int (pa_cons (pe_callTy call_str_int (by rfl) B.str (by decide +kernel) (pa_cons (pv 1) pa_nil)) pa_nil)))))))) (pe_cl c_law_pick hr (by decide) (by rfl) (pa_cons (pv 0) (pa_cons pe_int pa_nil))) (fun _ _ => rfl))))
        pss_nil)
      (pss_one (ps_ret (pe_ix ix_list (pe_lst (pa_cons pe_non (pa_cons pe_int (pa_cons pe_str (pa_cons pe_str (pa_cons pe_str (pa_cons pe_str (pa_cons pe_str (pa_cons pe_str pa_nil))))))))) (pe_cl c_law_pick hr (by decide) (by rfl) (pa_cons (pv 0) (pa_cons pe_int pa_nil))) (fun _ _ => rfl))))))), ?_⟩
    refine ⟨_, rfl, by show 2 ≤ sizeLine; decide, fun u1 n1 => ⟨_, _, u1, rfl, upd_same, .int i, _, rfl, iteF ?_⟩⟩
    refine ⟨_, rfl, by show 2 ≤ sizeLine; decide, fun u2 n2 => ⟨_, _, u2, rfl, upd_same, .int i, _, rfl, iteF ?_⟩⟩
    have v1 := v.new (o := .tup [.ty "tuple", .ty "list"]) n1
    have v2 := v1.new (o := .tup [.ty "tuple", .ty "list"]) n2
    refine ⟨_, rfl, _, _, "int", rfl, by decide, .int i, _, rfl, iteT ?_⟩
    refine ⟨_, rfl, _, _, rfl, rfl, _, rfl, _, _, rfl, rfl, _, rfl, i, rfl, hi, by show 7 ≤ sizeLine; decide, fun l nl => ?_⟩
    have v3 := v2.new (o := .lst [.int (i + 1), .int (i - 1), .bl true, .non, .int 0, .int 8, .str (toString i)]) nl
    have j := ((v.step (o := .tup [.ty "tuple", .ty "list"]) n1).trans (v1.step (o := .tup [.ty "tuple", .ty "list"]) n2)).trans (v2.step (o := .lst [.int (i + 1), .int (i - 1), .bl true, .non, .int 0, .int 8, .str (toString i)]) nl)
    refine ⟨_, rfl, d, 7, n, _, rfl, v3.deck, hn, by decide, by decide, v3.same, v3.no, fun H' k s' hd' hk => ?_⟩
    obtain ⟨x, ex, hx⟩ := lt_at (l := [V.int (i + 1), .int (i - 1), .bl true, .non, .int 0, .int 8, .str (toString i)]) hk
    refine ⟨l, _, (k : Int), x, rfl, rfl, .of (s' _ _ upd_same), atI_nat ex, q H' x ⟨j.trans s', v.no, hd'⟩ ?_⟩
    simp only [List.mem_cons, List.not_mem_nil, or_false] at hx
    rcases hx with rfl | rfl | rfl | rfl | rfl | rfl | rfl
    · exact .int _
    · exact .int _
    · exact .bl _
    · exact .non
    · exact .int _
    · exact .int _
    · exact .str _ (strOk_of _)
/-- of a list: one place spoilt, or the whole -/
def spSp1 : Sp := fun vs H Q _ => ∃ (d t : Addr) (ns : List Nat) (n : Nat) (G : Hp), vs = [.ref d, .ref t] ∧ G t = some (.lst (ns.map nV)) ∧ 1 ≤ ns.length ∧ ns.length ≤ 400 ∧ (∀ x ∈ ns, x ≤ 1000) ∧ View d G H n ∧ n ≤ 900000 ∧ ∀ H' x o, View d G H' (n + 3) → Tg (K5.wo d H') x o → Q x H'
theorem nat_log {x : Nat} (h : x ≤ 1000) : ((x : Int)).natAbs.log2 < 1920 := by
  have h1 : ((x : Int)).natAbs = x := Int.natAbs_natCast x
  rw [h1]
  exact Nat.lt_of_le_of_lt (Nat.log2_le_self x) (by omega)
theorem fl_nV {ns : List Nat} : ∀ y ∈ ns.map nV, Fl y := fun y hy => by
  obtain ⟨x, _, rfl⟩ := List.mem_map.mp hy
  exact .int _
theorem mem_cut {xs : List V} {lo hi : Option Int} {y : V} (h : y ∈ cutV xs lo hi) : y ∈ xs := by
  unfold cutV at h
  exact List.mem_of_mem_drop (List.mem_of_mem_take h)
theorem ok_spoilt1 (B : Bu mg) (D : Df K mg "_law_spoilt" s_law_spoilt ["deck", "thing"]) (c_law_pick : Cl P w K mg base 1 "_law_pick" spPick) (c_law_spoilt : Cl P w K mg base 2 "_law_spoilt" spSp0) : Cl P w K mg base 3 "_law_spoilt" spSp1 := by
  refine D.cl sc_law_spoilt (fun vs H Q E h => ?_) fun f cdv A outer s H vs Q E hr h => ?_
  · obtain ⟨d, t, ns, n, G, rfl, _⟩ := h
    rfl
  · obtain ⟨d, t, ns, n, G, rfl, ht, hl1, hl2, hns, v, hn, q⟩ := h
    refine ⟨_, (pss_cons (ps_if (PW.pt (pw_and (pt_val (pe_isi2 B (pv 1) (pe_tup (pa_cons (pe_tTuple B) (pa_cons (pe_tList B) pa_nil))))) (pw_and (pt_cmpR op_gt (pe_callB call_len_seq (by rfl) B.len PySem.boot_len (pa_cons (pv 1) pa_nil)) pe_int (nomark _)) (pw_and1 (pt_cmpR op_gt (pe_cl c_law_pick hr (by decide) (by rfl) (pa_cons (pv 0) (pa_cons pe_int pa_nil))) pe_int (nomark _))))))
        (pss_cons (ps_set (i := 2) sc_law_spoilt.nd rfl (Or.inl rfl) (pe_callTy call_list_of (by rfl) B.list (by decide +kernel) (pa_cons (pv 1) pa_nil)))
        (pss_cons (ps_set (i := 3) sc_law_spoilt.nd rfl (Or.inl rfl) (pe_cl c_law_pick hr (by decide) (by rfl) (pa_cons (pv 0) (pa_cons (pe_callB call_len_seq (by rfl) B.len PySem.boot_len (pa_cons (pv 2) pa_nil)) pa_nil))))
        (pss_cons (ps_asg (pe_cl c_law_spoilt hr (by decide) (by rfl) (pa_cons (pv 0) (pa_cons (pe_ix ix_list (pv 2) (pv 3) (fun _ _ => rfl)) pa_nil))) (pg_sub (pv 2) (pv 3) set_list))
        (pss_one (ps_ret (pe_ifExp (pt_val (pe_isi B (pv 1) (pe_tTuple B))) (pe_callTy call_tuple_of (by rfl) B.tuple (by decide +kernel) (pa_cons (pv 2) pa_nil)) (pv 2)))))))
        pss_nil)
      (pss_cons (ps_if (pt_val (pe_isi2 B (pv 1) (pe_tup (pa_cons (pe_tTuple B) (pa_cons (pe_tList B) pa_nil)))))
        (pss_cons (ps_set (i := 4) sc_law_spoilt.nd rfl (Or.inl rfl) (pe_ifExp (pt_val (pe_isi B (pv 1) (pe_tTuple B))) (pe_callTy call_list_of (by rfl) B.list (by decide +kernel) (pa_cons (pv 1) pa_nil)) (pe_callTy call_tuple_of (by rfl) B.tuple (by decide +kernel) (pa_cons (pv 1) pa_nil))))
        (pss_one (ps_ret (pe_ix ix_list (pe_lst (pa_cons (pv 4) (pa_cons (pe_op op_catS (pv 1) (pe_slice sl_list (pv 1) po_none (po_some pe_int))) (pa_cons (pe_slice sl_list (pv 1) (po_some pe_int) po_none) (pa_cons (pe_revL (pv 1)) (pa_cons pe_non pa_nil)))))) (pe_cl c_law_pick hr (by decide) (by rfl) (pa_cons (pv 0) (pa_cons pe_int pa_nil))) (fun _ _ => rfl)))))
        pss_nil)
      (pss_cons (ps_if (pt_val (pe_isi B (pv 1) (pe_tInt B)))
        (pss_one (ps_ret (pe_ix ix_list (pe_lst (pa_cons (pe_op op_add (pv 1) pe_int) (pa_cons (pe_op op_sub (pv 1) pe_int) (pa_cons pe_bl (pa_cons pe_non (pa_cons pe_int (pa_cons pe_int (pa_cons (pe_callTy call_str_int (by rfl) B.str (by decide +kernel) (pa_cons (pv 1) pa_nil)) pa_nil)))))))) (pe_cl c_law_pick hr (by decide) (by rfl) (pa_cons (pv 0) (pa_cons pe_int pa_nil))) (fun _ _ => rfl))))
        pss_nil)
      (pss_one (ps_ret (pe_ix ix_list (pe_lst (pa_cons pe_non (pa_cons pe_int (pa_cons pe_str (pa_cons pe_str (pa_cons pe_str (pa_cons pe_str (pa_cons pe_str (pa_cons pe_str pa_nil))))))))) (pe_cl c_law_pick hr (by decide) (by rfl) (pa_cons (pv 0) (pa_cons pe_int pa_nil))) (fun _ _ => rfl))))))), ?_⟩
    refine ⟨_, rfl, by show 2 ≤ sizeLine; decide, fun u1 n1 => ⟨_, _, u1, rfl, upd_same, .lst (same_upd n1 _ _ (v.same _ _ ht)), _, rfl, iteT ?_⟩⟩
    have v1 := v.new (o := .tup [.ty "tuple", .ty "list"]) n1
    have k1 := v.step (o := .tup [.ty "tuple", .ty "list"]) n1
    have h1t := k1 _ _ ht
    refine ⟨_, rfl, t, _, rfl, .inl (.of (v1.same _ _ h1t)), _, _, rfl, rfl, _, rfl, teT (decide_eq_true (by show (0 : Int) < (((ns.map nV).length : Nat) : Int); rw [List.length_map]; omega)) ?_⟩
    refine ⟨_, rfl, d, 5, n, _, rfl, v1.deck, by omega, by decide, by decide, v1.same, v1.no, fun H2 k s2 hd2 hk => ⟨_, _, rfl, rfl, _, rfl, ite2 (fun _ => ?_) fun _ => ?_⟩⟩
    · have v2 := v1.go s2 hd2
      refine ⟨_, rfl, t, _, rfl, .inl (.of (v2.same _ _ h1t)), fun r nr => ?_⟩
      have v3 := v2.new (o := .lst (ns.map nV)) nr
      have k3 := v2.step (o := .lst (ns.map nV)) nr
      have nrd := v2.ne nr
      refine ⟨_, rfl, _, rfl, r, _, rfl, .inl (.of upd_same), d, ns.length, n + 1, _, by rw [List.length_map]; rfl, v3.deck, by omega, hl1, by omega, v3.same, v3.no, fun H4 i s4 hd4 hi => ?_⟩
      have v4 := v3.go s4 hd4
      have g4r : H4 r = some (.lst (ns.map nV)) := s4 _ _ upd_same
      obtain ⟨x, ex, hx⟩ := lt_at hi
      have ex' : (ns.map nV)[i]? = some (nV x) := map_at ex
      refine ⟨_, rfl, _, rfl, _, rfl, r, _, (i : Int), nV x, rfl, rfl, .of g4r, atI_nat ex', d, (x : Int), n + 2, _, rfl, nat_log (hns x hx), v4, by omega, fun H5 y v5 hy => ?_⟩
      have g5r : H5 r = some (.lst (ns.map nV)) := v5.same _ _ upd_same
      refine ⟨_, rfl, _, rfl, r, _, (i : Int), i, rfl, rfl, g5r, by rw [List.length_map]; exact ixN_nat hi, ?_⟩
      have nrG : (upd G u1 (.tup [.ty "tuple", .ty "list"])) r = none := v2.same.free nr
      have v6 : View d (upd G u1 (.tup [.ty "tuple", .ty "list"])) (upd H5 r (.lst ((ns.map nV).set i y))) (n + 3) :=
        View.put ⟨k3.trans v5.same, v2.no, v5.deck⟩ nrG nrd
      refine ⟨_, rfl, _, _, "tuple", rfl, by decide, .lst (v6.same _ _ h1t), _, rfl, iteF ⟨_, rfl, ?_⟩⟩
      refine q _ _ _ ⟨k1.trans v6.same, v.no, v6.deck⟩ (.lst (by rw [wo_at nrd]; exact upd_same) (fun z hz => ?_) (by rw [List.length_set, List.length_map]; omega))
      rcases List.mem_or_eq_of_mem_set hz with hz | rfl
      · exact fl_nV z hz
      · exact hy
    · have v2 := v1.go s2 hd2
      have h2t := v2.same _ _ h1t
      refine ⟨_, rfl, by show 2 ≤ sizeLine; decide, fun u2 n2 => ⟨_, _, u2, rfl, upd_same, .lst (same_upd n2 _ _ h2t), _, rfl, iteT ?_⟩⟩
      have v3 := v2.new (o := .tup [.ty "tuple", .ty "list"]) n2
      have k3 := v2.step (o := .tup [.ty "tuple", .ty "list"]) n2
      have h3t := k3 _ _ h1t
      refine ⟨_, rfl, _, _, "tuple", rfl, by decide, .lst (v3.same _ _ h3t), _, rfl, iteF ⟨_, rfl, t, _, rfl, .inl ⟨.of (v3.same _ _ h3t), fun p1 np1 => ?_⟩⟩⟩
      have v4 := v3.new (o := .tup (ns.map nV)) np1
      have k4 := v3.step (o := .tup (ns.map nV)) np1
      have h4t := k4 _ _ h3t
      refine ⟨_, rfl, _, rfl, _, rfl, 1, rfl, t, _, rfl, .of (v4.same _ _ h4t), fun c1 nc1 => ?_⟩
      have v5 := v4.new (o := .lst (cutV (ns.map nV) none (some 1))) nc1
      have k5 := v4.step (o := .lst (cutV (ns.map nV) none (some 1))) nc1
      have h5t := k5 _ _ h4t
      have hcl := cutV_length (ns.map nV) none (some 1)
      rw [List.length_map] at hcl
      refine ⟨t, c1, _, _, rfl, rfl, .of (v5.same _ _ h5t), .of upd_same, sizeL (by rw [List.length_map]; omega), fun p2 np2 => ?_⟩
      have v6 := v5.new (o := .lst (ns.map nV ++ cutV (ns.map nV) none (some 1))) np2
      have k6 := v5.step (o := .lst (ns.map nV ++ cutV (ns.map nV) none (some 1))) np2
      have h6t := k6 _ _ h5t
      refine ⟨_, rfl, 1, rfl, t, _, rfl, .of (v6.same _ _ h6t), fun p3 np3 => ?_⟩
      have v7 := v6.new (o := .lst (cutV (ns.map nV) (some 1) none)) np3
      have k7 := v6.step (o := .lst (cutV (ns.map nV) (some 1) none)) np3
      have h7t := k7 _ _ h6t
      refine ⟨_, rfl, t, _, rfl, .of (v7.same _ _ h7t), fun p4 np4 => ?_⟩
      have v8 := v7.new (o := .lst (ns.map nV).reverse) np4
      have k8 := v7.step (o := .lst (ns.map nV).reverse) np4
      refine ⟨by show 5 ≤ sizeLine; decide, fun l nl => ?_⟩
      have v9 := v8.new (o := .lst [.ref p1, .ref p2, .ref p3, .ref p4, .non]) nl
      have k9 := v8.step (o := .lst [.ref p1, .ref p2, .ref p3, .ref p4, .non]) nl
      refine ⟨_, rfl, d, 5, n + 1, _, rfl, v9.deck, by omega, by decide, by decide, v9.same, v9.no, fun H' k s' hd' hk => ?_⟩
      obtain ⟨x, ex, hx⟩ := lt_at (l := [V.ref p1, .ref p2, .ref p3, .ref p4, .non]) hk
      have fin : ∃ o, Tg (K5.wo d H') x o := by
        have j8 := k9.trans (s'.wo v9.no)
        have j7 := k8.trans j8
        have j6 := k7.trans j7
        have j5 := k6.trans j6
        have j4 := k5.trans j5
        simp only [List.mem_cons, List.not_mem_nil, or_false] at hx
        rcases hx with rfl | rfl | rfl | rfl | rfl
        · exact ⟨_, .no (.tup (j4 _ _ upd_same)) (by decide)⟩
        · refine ⟨_, .lst (j6 _ _ upd_same) (fun y hy => ?_) (by rw [List.length_append, List.length_map]; omega)⟩
          rcases List.mem_append.mp hy with hy | hy
          · exact fl_nV y hy
          · exact fl_nV y (mem_cut hy)
        · refine ⟨_, .lst (j7 _ _ upd_same) (fun y hy => fl_nV y (mem_cut hy)) ?_⟩
          have := cutV_length (ns.map nV) (some 1) none
          rw [List.length_map] at this
          omega
        · exact ⟨_, .lst (j8 _ _ upd_same) (fun y hy => fl_nV y (List.mem_reverse.mp hy)) (by rw [List.length_reverse, List.length_map]; omega)⟩
        · exact ⟨_, .no .non (by decide)⟩
      obtain ⟨o, ho⟩ := fin
      refine ⟨l, _, (k : Int), x, rfl, rfl, .of (s' _ _ upd_same), atI_nat ex, q H' x o ⟨k1.trans (((((((k3.trans k4).trans k5).trans k6).trans k7).trans k8).trans k9).trans s'), v.no, hd'.mono (by omega)⟩ ho⟩
end
end K5
end
section
set_option Elab.async false
set_option linter.all false
set_option maxRecDepth 100000
set_option maxHeartbeats 4000000
/-! Walks of the law, 3: rows and told rows. -/
namespace K5
open PySem PySem.Spec PyProof.Rows L2
theorem View.wo {d : Addr} {G H : Hp} {n : Nat} (v : View d G H n) : View d (K5.wo d H) H n := ⟨wo_same d H, wo_none d H, v.deck⟩
theorem View.sub {d : Addr} {G H : Hp} {n : Nat} (v : View d G H n) : Same G (K5.wo d H) := v.same.wo v.no
theorem View.back {d : Addr} {G H H' : Hp} {n m : Nat} (v : View d G H n) (w : View d (K5.wo d H) H' m) : View d G H' m := ⟨v.sub.trans w.same, v.no, w.deck⟩
theorem View.tup {d t : Addr} {G H : Hp} {n : Nat} {xs : List V} (v : View d G H n) (h : H t = some (.tup xs)) : K5.wo d H t = some (.tup xs) := by
  rw [wo_at]
  · exact h
  · intro z
    obtain ⟨a, b, c, e, _⟩ := v.deck
    rw [← z, h] at e
    cases e
theorem View.lst {d t : Addr} {G H : Hp} {n : Nat} {xs : List V} (h : H t = some (.lst xs)) (ne : t ≠ d) : K5.wo d H t = some (.lst xs) := by
  rw [wo_at ne]
  exact h
theorem View.know {d t : Addr} {G H : Hp} {n : Nat} {o : HO} (v : View d G H n) (h : H t = some o) (ne : t ≠ d) : View d (upd G t o) H n := ⟨v.same.know h, by rw [upd_ne ne.symm]; exact v.no, v.deck⟩
theorem View.mono {d : Addr} {G H : Hp} {n m : Nat} (v : View d G H n) (h : n ≤ m) : View d G H m := ⟨v.same, v.no, v.deck.mono h⟩
theorem View.all {d : Addr} {G H H' : Hp} {n : Nat} (v : View d G H n) (s : Same H H') : View d G H' n := ⟨v.same.trans s, v.no, v.deck.same s⟩
/-! ### rows of ints as data -/
theorem dp_ints {K : PySem.W.Frag} {H : Hp} : ∀ ns : List Int, DpAll K H (ns.map V.int) (ns.map PyData.int)
  | [] => .nil
  | _ :: ns => .cons (.int _) (dp_ints ns)
theorem lay_ints : ∀ ns : List Int, PyData.canLayAll0 (ns.map PyData.int) = true ∧ PyData.depthAll (ns.map PyData.int) = 0
  | [] => ⟨rfl, rfl⟩
  | n :: ns => by
    obtain ⟨h1, h2⟩ := lay_ints ns
    refine ⟨?_, ?_⟩
    · show (PyData.canLay0 (.int n) && PyData.canLayAll0 (ns.map PyData.int)) = true
      rw [h1]
      rfl
    · show max (PyData.depth (.int n)) (PyData.depthAll (ns.map PyData.int)) = 0
      rw [h2]
      rfl
theorem dp_rows {K : PySem.W.Frag} {H : Hp} : ∀ ys : List V, (∀ y ∈ ys, ∃ T, ∃ ns : List Int, y = .ref T ∧ H T = some (.tup (ns.map V.int))) → ∃ ds, DpAll K H ys ds ∧ ds.length = ys.length ∧ PyData.canLayAll0 ds = true ∧ PyData.depthAll ds ≤ 1
  | [], _ => ⟨[], .nil, rfl, rfl, Nat.zero_le _⟩
  | y :: ys, h => by
    obtain ⟨ds, h1, h2, h3, h4⟩ := dp_rows ys fun z hz => h z (List.mem_cons_of_mem _ hz)
    obtain ⟨T, ns, rfl, hT⟩ := h y List.mem_cons_self
    obtain ⟨l1, l2⟩ := lay_ints ns
    refine ⟨.tuple (ns.map PyData.int) :: ds, .cons (.tup (.of hT) (dp_ints ns)) h1, by rw [List.length_cons, List.length_cons, h2], ?_, ?_⟩
    · show (PyData.canLayAll0 (ns.map PyData.int) && PyData.canLayAll0 ds) = true
      rw [l1, h3]
      rfl
    · show max (PyData.depthAll (ns.map PyData.int) + 1) (PyData.depthAll ds) ≤ 1
      rw [l2]
      omega
theorem shaped_list {ds : List PyData} (h1 : PyData.canLayAll0 ds = true) (h2 : PyData.depthAll ds ≤ 60) : SeqAt.shaped (.list ds) = true := by
  show (PyData.canLayAll0 ds && decide (PyData.depthAll ds + 1 ≤ 64)) = true
  rw [h1, decide_eq_true (by omega)]
  rfl
theorem eqv_nil (ds : List PyData) : PyData.eqv (.list ds) (.list []) = decide (ds.length = 0) := by
  cases ds with
  | nil => rfl
  | cons d ds => rfl
section
variable {P : Program} {w : World} {K : PySem.W.Frag} {mg : Str → Option Value} {base : Heap}
abbrev s_law_fits : Stmt := topS 40
theorem sc_law_fits : FnScope ["rules", "row", "span", "least", "most"] ["rules", "row"] (defScope s_law_fits) := ⟨rfl, rfl, rfl, by decide +kernel, rfl, by decide +kernel, by decide +kernel⟩
def spFits : Sp := fun vs H Q _ => ∃ (a t : Addr) (rs : List Rule) (row : List Int), vs = [.ref a, .ref t] ∧ RulesAt H a rs ∧ H t = some (.tup (row.map V.int)) ∧ ∀ H' b, Same H H' → Q (.bl b) H'
theorem ok_law_fits (B : Bu mg) (D : Df K mg "_law_fits" s_law_fits ["rules", "row"]) : Cl P w K mg base 1 "_law_fits" spFits := by
  refine D.cl sc_law_fits (fun vs H Q E h => ?_) fun f cdv A outer s H vs Q E hr h => ?_
  · obtain ⟨a, t, rs, row, rfl, _⟩ := h
    rfl
  · obtain ⟨a, t, rs, row, rfl, ⟨as, hl, ha, hrs⟩, ht, q⟩ := h
    refine ⟨_, (pss_cons (ps_for PassesOwn.never rfl (pi_tup (pv 0)) (pg_tup rfl (pgs_cons (pg_name (i := 2) sc_law_fits.nd rfl (Or.inl rfl)) (pgs_cons (pg_name (i := 3) sc_law_fits.nd rfl (Or.inl rfl)) (pgs_cons (pg_name (i := 4) sc_law_fits.nd rfl (Or.inl rfl)) pgs_nil))))
        (pss_one (ps_if (PW.pt (pw_and (pt_cmpR op_ge (pe_callB call_len_seq (by rfl) B.len PySem.boot_len (pa_cons (pv 1) pa_nil)) (pv 2) (nomark _)) (pw_and1 (pt_not (pt_chain op_le op_le (pv 3) (pe_callB (cr_sumT rfl) (by rfl) B.sum (by decide +kernel) (pa_cons (pe_slice sl_tupA (pv 1) (po_some (pe_op op_sub (pe_callB call_len_seq (by rfl) B.len PySem.boot_len (pa_cons (pv 1) pa_nil)) (pv 2))) po_none) pa_nil)) (pv 4))))))
          (pss_one (ps_ret pe_bl))
          pss_nil)))
      (pss_one (ps_ret pe_bl))), ?_⟩
    refine ⟨.ref a, rfl, a, rfl, ⟨_, .of ha⟩, ?_⟩
    refine for_it (walk_tupN (n := rs.length) (xs := as.map V.ref) (by rw [List.length_map, hl])) (fun i σ H3 => Same H H3 ∧ ∃ y2 y3 y4, σ = [some (.ref a), some (.ref t), y2, y3, y4])
      ⟨Same.refl H, none, none, none, rfl⟩ (fun i σ H3 _ hP => .of (hP.1 _ _ ha)) (fun i x σ H3 H4 hi hP hx => ?_) fun σ H3 hP => ?_
    · obtain ⟨s3, y2, y3, y4, rfl⟩ := hP
      obtain ⟨rfl, hx⟩ := hx
      obtain ⟨b, r, rfl, eb, er, hm⟩ := rule_at hl hx
      have gb := s3 _ _ (hrs i b r eb er)
      have gt := s3 _ _ ht
      refine ⟨b, ruV r, rfl, .of gb, rfl, _, _, rfl, _, _, rfl, _, _, rfl, rfl, ?_⟩
      refine ⟨_, rfl, t, _, rfl, .inr (.of gt), _, rfl, _, _, rfl, rfl, _, rfl, ite2 (fun e => ?_) fun e => ?_⟩
      · have e0 : (r.1 : Int) ≤ (((row.map V.int).length : Nat) : Int) := of_decide_eq_true e
        have hlt : (((row.map V.int).length : Nat) : Int) - (r.1 : Int) = ((row.length - r.1 : Nat) : Int) := by
          rw [List.length_map] at e0 ⊢
          omega
        refine ⟨_, rfl, _, rfl, _, rfl, t, _, rfl, .inr (.of gt), _, rfl, _, _, rfl, rfl, _, rfl, slA (row.length - r.1) hlt gt fun c H5 s5 hc => ?_⟩
        rw [← List.map_drop] at hc
        refine ⟨c, _, rfl, .of hc, _, _, rfl, rfl, _, rfl, ite2 (fun e1 => ?_) fun e1 => ?_⟩
        · refine ⟨_, rfl, _, _, rfl, rfl, _, rfl, ?_⟩
          by_cases e2 : (row.drop (row.length - r.1)).sum ≤ (r.2.2 : Int)
          · refine teF (by rw [decide_eq_true e2]; rfl) ?_
            exact ⟨s3.trans s5, _, _, _, rfl⟩
          · refine teT (by rw [decide_eq_false e2]; rfl) ?_
            exact q _ _ (s3.trans s5)
        · exact ⟨_, rfl, iteT (q _ _ (s3.trans s5))⟩
      · exact ⟨s3, _, _, _, rfl⟩
    · exact q _ _ hP.1
abbrev s_law_walk : Stmt := topS 41
theorem sc_law_walk : FnScope ["deck", "rules", "many", "row", "turn", "some", "place"] ["deck", "rules", "many"] (defScope s_law_walk) := ⟨rfl, rfl, rfl, by decide +kernel, rfl, by decide +kernel, by decide +kernel⟩
def spWalk : Sp := fun vs H Q _ => ∃ (d a : Addr) (many n : Nat) (rs : List Rule) (G : Hp), vs = [.ref d, .ref a, .int many] ∧ RulesAt G a rs ∧ View d G H n ∧ many ≤ 40 ∧ n ≤ 900000 ∧
  ∀ H' t (row : List Int), View d G H' (n + many) → H' t = some (.tup (row.map V.int)) → (∀ x ∈ row, Bit x) → row.length ≤ many → Q (.ref t) H'
theorem ok_law_walk (B : Bu mg) (D : Df K mg "_law_walk" s_law_walk ["deck", "rules", "many"]) (c_law_fits : Cl P w K mg base 1 "_law_fits" spFits) (c_law_one : Cl P w K mg base 2 "_law_one" spOne) : Cl P w K mg base 3 "_law_walk" spWalk := by
  refine D.cl sc_law_walk (fun vs H Q E h => ?_) fun f cdv A outer s H vs Q E hr h => ?_
  · obtain ⟨d, a, many, n, rs, G, rfl, _⟩ := h
    rfl
  · obtain ⟨d, a, many, n, rs, G, rfl, hR, v, hmany, hn, q⟩ := h
    refine ⟨_, (pss_cons (ps_set (i := 3) sc_law_walk.nd rfl (Or.inr rfl) (pe_tup pa_nil))
      (pss_cons (ps_for PassesOwn.never rfl (pi_range1 (by rfl) B.range (pa_cons (pv 2) pa_nil)) (pg_name (i := 4) sc_law_walk.nd rfl (Or.inl rfl))
        (pss_cons (ps_setLc (i := 5) (own := [("place", 6)]) (g := gName 6) rfl sc_law_walk.nd rfl rfl (sw_true rfl rfl rfl (by decide +kernel)) (pi_tup (pe_tup (pa_cons pe_int (pa_cons pe_int pa_nil)))) (blkOk_by (N := ["deck", "rules", "many", "row", "turn", "some", "place"]) (sc := defScope s_law_walk) (by decide +kernel)) (fun _ _ _ _ _ => pg_name (i := 6) sc_law_walk.nd rfl (.inl rfl)) (fun _ _ _ _ _ => pts_one (pt_val (pe_cl c_law_fits hr (by decide) (by rfl) (pa_cons (pv 1) (pa_cons (pe_op (op_catAK (K := K) rfl) (pv 3) (pe_tup (pa_cons (pv 6) pa_nil))) pa_nil))))) (fun _ _ _ _ _ => (pe_op (op_catAK (K := K) rfl) (pv 3) (pe_tup (pa_cons (pv 6) pa_nil)))))
        (pss_cons (ps_if (pt_cmpR (op_eqD hr.units) (pv 5) (pe_lst pa_nil) (nomark _))
          (pss_one (ps_ret (pv 3)))
          pss_nil)
        (pss_one (ps_set (i := 3) sc_law_walk.nd rfl (Or.inr rfl) (pe_cl c_law_one hr (by decide) (by rfl) (pa_cons (pv 0) (pa_cons (pv 5) pa_nil))))))))
      (pss_one (ps_ret (pv 3))))), ?_⟩
    refine ⟨Nat.zero_le _, fun t0 nt0 => ?_⟩
    have v0 := v.all (same_upd (o := .tup []) nt0)
    refine ⟨_, rfl, _, rfl, ?_, ?_, ?_⟩
    · show -(2 ^ 62) ≤ (many : Int)
      omega
    · show (many : Int) < 2 ^ 62
      omega
    refine for_it (walk_rangeN (n := many) (by omega)) (fun i σ H3 => View d G H3 (n + i) ∧ ∃ (t : Addr) (row : List Int), H3 t = some (.tup (row.map V.int)) ∧ (∀ x ∈ row, Bit x) ∧ row.length ≤ i ∧ ∃ y4 y5 y6, σ = [some (.ref d), some (.ref a), some (.int many), some (.ref t), y4, y5, y6])
      ⟨v0, t0, [], upd_same, fun x hx => (by cases hx), Nat.le_refl 0, _, _, _, rfl⟩ (fun _ _ _ _ _ => trivial) (fun i x σ H3 H4 hi hP hx => ?_) fun σ H3 hP => ?_
    · obtain ⟨v3, t, row, h3t, hbit, hrl, y4, y5, y6, rfl⟩ := hP
      obtain ⟨rfl, rfl⟩ := hx
      refine ⟨by show 2 ≤ sizeLine; decide, fun u nu => ⟨u, rfl, ⟨_, .of upd_same⟩, fun D nD => ?_⟩⟩
      have s4 := same_upd (o := .tup [.int 0, .int 1]) nu
      refine lc_it (walk_tupN (n := 2) (xs := ([0, 1] : List Int).map V.int) rfl) (fun k H5 => Same (upd H4 u (.tup [.int 0, .int 1])) H5 ∧ ∃ ys, H5 D = some (.lst ys) ∧ ys.length ≤ k ∧ ∀ y ∈ ys, ∃ T p, y = .ref T ∧ Bit p ∧ H5 T = some (.tup ((row ++ [p]).map V.int)))
        ⟨same_upd nD, [], upd_same, Nat.le_refl 0, fun y hy => (by cases hy)⟩ (fun k H5 _ hP => .of (hP.1 _ _ upd_same)) (fun k x H5 H6 hk hP hx => ?_) fun H5 hP => ?_
      · obtain ⟨s5, ys, h5D, hyl, hys⟩ := hP
        obtain ⟨rfl, hx⟩ := hx
        obtain ⟨p, ep, rfl⟩ := at_map hx
        have hp : Bit p := by
          rcases List.mem_cons.mp (List.mem_of_getElem? ep) with rfl | hp
          · exact .inl rfl
          · exact .inr (List.mem_singleton.mp hp)
        have s45 := s4.trans s5
        refine ⟨rfl, _, rfl, _, rfl, _, rfl, by show 1 ≤ sizeLine; decide, fun w1 nw1 => ?_⟩
        have s6 := same_upd (o := .tup [.int p]) nw1
        refine catA (s6 _ _ (s45 _ _ h3t)) upd_same (sizeL (by rw [List.length_map]; show _ + 1 ≤ _; omega)) fun c H7 s7 hc => ?_
        have hc' : H7 c = some (.tup ((row ++ [p]).map V.int)) := by rw [hc, List.map_append]; rfl
        have s57 := s6.trans s7
        refine ⟨a, c, rs, _, rfl, hR.same ((v3.same.trans s45).trans s57), hc', fun H8 bb s8 => ⟨_, rfl, ?_⟩⟩
        have s58 := s57.trans s8
        have ks : ∀ H9, Same H6 H9 → ∀ y ∈ ys, ∃ T p, y = .ref T ∧ Bit p ∧ H9 T = some (.tup ((row ++ [p]).map V.int)) := fun H9 s9 y hy => by
          obtain ⟨T, p, e1, e2, e3⟩ := hys y hy
          exact ⟨T, p, e1, e2, s9 _ _ e3⟩
        refine ite2 (fun _ => ?_) fun _ => ?_
        · refine ⟨_, rfl, _, rfl, by show 1 ≤ sizeLine; decide, fun w2 nw2 => ?_⟩
          have s9 := same_upd (o := .tup [.int p]) nw2
          refine catA (s9 _ _ (s58 _ _ (s45 _ _ h3t))) upd_same (sizeL (by rw [List.length_map]; show _ + 1 ≤ _; omega)) fun c2 H10 s10 hc2 => ?_
          have hc2' : H10 c2 = some (.tup ((row ++ [p]).map V.int)) := by rw [hc2, List.map_append]; rfl
          have sX := (s58.trans s9).trans s10
          have h10D := sX _ _ h5D
          refine ⟨ys, h10D, small1000 (by omega), Same.lst (s5.trans sX) nD, ys ++ [.ref c2], upd_same, by rw [List.length_append]; show _ + 1 ≤ _; omega, fun y hy => ?_⟩
          rcases List.mem_append.mp hy with hy | hy
          · obtain ⟨T, p, e1, e2, e3⟩ := ks H10 sX y hy
            exact ⟨T, p, e1, e2, keepT_lst h10D _ _ (fun l z => by cases z) e3⟩
          · exact ⟨c2, p, List.mem_singleton.mp hy, hp, keepT_lst h10D _ _ (fun l z => by cases z) hc2'⟩
        · exact ⟨s5.trans s58, ys, s58 _ _ h5D, by omega, ks H8 s58⟩
      · obtain ⟨s5, ys, h5D, hyl, hys⟩ := hP
        have s45 := s4.trans s5
        have v5 := v3.all s45
        refine ⟨_, rfl, Nat.zero_le _, fun e ne => ?_⟩
        have s6 := same_upd (o := .lst []) ne
        obtain ⟨ds, hd1, hd2, hd3, hd4⟩ := dp_rows (K := K) (H := upd H5 e (.lst [])) ys fun y hy => by
          obtain ⟨T, p, e1, e2, e3⟩ := hys y hy
          exact ⟨T, row ++ [p], e1, s6 _ _ e3⟩
        refine ⟨.list ds, .list [], .lst (.of (s6 _ _ h5D)) hd1, .lst (.of upd_same) .nil, shaped_list hd3 (by omega), rfl, _, rfl, ?_⟩
        rw [eqv_nil, hd2]
        have v6 := v5.all s6
        refine ite2 (fun z => ?_) fun z => ?_
        · exact ⟨_, rfl, q _ t row (v6.mono (by omega)) (s6 _ _ (s45 _ _ h3t)) hbit (by omega)⟩
        · have hne : ys.length ≠ 0 := fun q => z (decide_eq_true q)
          have nDd : D ≠ d := (v3.all s4).ne nD
          refine ⟨_, rfl, _, rfl, d, D, ys, n + i, K5.wo d _, rfl, v6.deck, by omega, View.lst (G := G) (n := n + i) (s6 _ _ h5D) nDd, by omega, by omega, wo_same _ _, wo_none _ _, fun H7 y s7 hd7 hy => ?_⟩
          obtain ⟨T, p, rfl, hp, hT⟩ := hys y hy
          refine ⟨v6.back ⟨s7, wo_none _ _, hd7⟩, T, row ++ [p], s7 _ _ (v6.tup (s6 _ _ hT)), fun x hx => ?_, by rw [List.length_append]; show _ + 1 ≤ _; omega, _, _, _, rfl⟩
          rcases List.mem_append.mp hx with hx | hx
          · exact hbit x hx
          · rw [List.mem_singleton.mp hx]
            exact hp
    · obtain ⟨v3, t, row, h3t, hbit, hrl, y4, y5, y6, rfl⟩ := hP
      exact ⟨_, rfl, q _ t row v3 h3t hbit hrl⟩
end
end K5
end
section
set_option Elab.async false
set_option linter.all false
set_option maxRecDepth 100000
set_option maxHeartbeats 4000000
/-! Walks of the law, 4: even rows, told rows. -/
namespace K5
open PySem PySem.Spec PyProof.Rows L2
theorem even_bit {p : Int} (h0 : 0 ≤ p) (h6 : p ≤ 6) (i : Nat) : Bit ((((i : Nat) : Int) + 1) * p / 6 - ((i : Nat) : Int) * p / 6) := by
  rw [Int.add_mul, Int.one_mul]
  generalize ((i : Nat) : Int) * p = x
  show _ = 0 ∨ _ = 1
  omega
theorem told_of : ∀ l : List V, (∀ x ∈ l, x = .non ∨ ∃ p, x = .int p ∧ Bit p) → ∃ ts : List (Option Int), l = ts.map toV ∧ ∀ o ∈ ts, o = none ∨ o = some 0 ∨ o = some 1
  | [], _ => ⟨[], rfl, fun o h => (by cases h)⟩
  | x :: l, h => by
    obtain ⟨ts, e, ht⟩ := told_of l fun y hy => h y (List.mem_cons_of_mem _ hy)
    rcases h x List.mem_cons_self with rfl | ⟨p, rfl, hp⟩
    · refine ⟨none :: ts, by rw [List.map_cons, ← e]; rfl, fun o ho => ?_⟩
      rcases List.mem_cons.mp ho with rfl | ho
      · exact .inl rfl
      · exact ht o ho
    · refine ⟨some p :: ts, by rw [List.map_cons, ← e]; rfl, fun o ho => ?_⟩
      rcases List.mem_cons.mp ho with rfl | ho
      · rcases hp with rfl | rfl
        · exact .inr (.inl rfl)
        · exact .inr (.inr rfl)
      · exact ht o ho
theorem PS.imp {X : Cx} {st : Stmt} {t t' : TS} (h : PS X st t) (i : ∀ D σ H, t' D σ H → t D σ H) : PS X st t' := ⟨fun pins s σ H D I q => h.run pins s σ H D I (i D σ H q)⟩
/-- the row filled up to its length -/
def tFill : TS := fun D σ H => ∃ (d a r : Addr) (many n : Nat) (row : List Int) (G : Hp) (y4 y5 : Option V), σ = [some (.ref d), some (.ref a), some (.int many), some (.ref r), y4, y5] ∧ View d G H n ∧ H r = some (.lst (row.map V.int)) ∧ G r = none ∧ r ≠ d ∧ (∀ x ∈ row, Bit x) ∧ row.length ≤ many ∧ many ≤ 40 ∧ n ≤ 850000 ∧
  ∀ H2 r2 (row2 : List Int), View d G H2 (n + 1) → H2 r2 = some (.lst (row2.map V.int)) → G r2 = none → r2 ≠ d → (∀ x ∈ row2, Bit x) → row2.length = many → D.nx [some (.ref d), some (.ref a), some (.int many), some (.ref r2), y4, y5] H2
section
variable {P : Program} {w : World} {K : PySem.W.Frag} {mg : Str → Option Value} {base : Heap}
abbrev s_law_even : Stmt := topS 42
theorem sc_law_even : FnScope ["part", "many", "found", "at"] ["part", "many"] (defScope s_law_even) := ⟨rfl, rfl, rfl, by decide +kernel, rfl, by decide +kernel, by decide +kernel⟩
def spEven : Sp := fun vs H Q _ => ∃ (t : Addr) (p : Int) (many : Nat), vs = [.ref t, .int many] ∧ H t = some (.tup [.int p, .int 6]) ∧ 0 ≤ p ∧ p ≤ 6 ∧ many ≤ 40 ∧
  ∀ H' u (row : List Int), Same H H' → H' u = some (.tup (row.map V.int)) → (∀ x ∈ row, Bit x) → row.length = many → Q (.ref u) H'
theorem ok_law_even (B : Bu mg) (D : Df K mg "_law_even" s_law_even ["part", "many"]) : Cl P w K mg base 1 "_law_even" spEven := by
  refine D.cl sc_law_even (fun vs H Q E h => ?_) fun f cdv A outer s H vs Q E hr h => ?_
  · obtain ⟨t, p, many, rfl, _⟩ := h
    rfl
  · obtain ⟨t, p, many, rfl, ht, h0, h6, hmany, q⟩ := h
    refine ⟨_, (pss_cons (ps_set (i := 2) sc_law_even.nd rfl (Or.inl rfl) (pe_lst pa_nil))
      (pss_cons (ps_for PassesOwn.never rfl (pi_range1 (by rfl) B.range (pa_cons (pv 1) pa_nil)) (pg_name (i := 3) sc_law_even.nd rfl (Or.inl rfl))
        (pss_one (ps_expr (pe_bm PySem.F.plainAttrs_list PySem.F.slot_list_append PySem.F.type_list_append mt_append (pv 2) (pa_cons (pe_op op_sub (pe_op op_fdiv (pe_op op_mul (pe_op op_add (pv 3) pe_int) (pe_ix ix_tup (pv 0) pe_int (fun _ _ => rfl))) (pe_ix ix_tup (pv 0) pe_int (fun _ _ => rfl))) (pe_op op_fdiv (pe_op op_mul (pv 3) (pe_ix ix_tup (pv 0) pe_int (fun _ _ => rfl))) (pe_ix ix_tup (pv 0) pe_int (fun _ _ => rfl)))) pa_nil)))))
      (pss_one (ps_ret (pe_callTy call_tuple_of (by rfl) B.tuple (by decide +kernel) (pa_cons (pv 2) pa_nil)))))), ?_⟩
    refine ⟨Nat.zero_le _, fun o no => ?_⟩
    refine ⟨_, rfl, _, rfl, ?_, ?_, ?_⟩
    · show -(2 ^ 62) ≤ (many : Int)
      omega
    · show (many : Int) < 2 ^ 62
      omega
    refine for_it (walk_rangeN (n := many) (by omega)) (fun i σ H3 => Same H H3 ∧ ∃ row : List Int, H3 o = some (.lst (row.map V.int)) ∧ (∀ x ∈ row, Bit x) ∧ row.length = i ∧ ∃ y3, σ = [some (.ref t), some (.int many), some (.ref o), y3])
      ⟨same_upd no, [], upd_same, fun x hx => (by cases hx), rfl, _, rfl⟩ (fun _ _ _ _ _ => trivial) (fun i x σ H3 H4 hi hP hx => ?_) fun σ H3 hP => ?_
    · obtain ⟨s3, row, h3o, hbit, hrl, y3, rfl⟩ := hP
      obtain ⟨rfl, rfl⟩ := hx
      have gt := s3 _ _ ht
      refine ⟨_, rfl, .inl ⟨rfl, _, .of h3o⟩, ?_⟩
      refine ⟨_, rfl, _, _, rfl, rfl, _, rfl, t, _, 0, _, rfl, rfl, .of gt, atI_nat (j := 0) rfl, _, _, rfl, rfl, .inl ⟨?_, ?_⟩, _, rfl, t, _, 1, _, rfl, rfl, .of gt, atI_nat (j := 1) rfl, _, _, rfl, rfl, ⟨by decide, by decide⟩, ?_⟩
      · show -(2 ^ 64) < ((i : Nat) : Int) + 1
        omega
      · show ((i : Nat) : Int) + 1 < 2 ^ 64
        omega
      refine ⟨_, rfl, _, rfl, t, _, 0, _, rfl, rfl, .of gt, atI_nat (j := 0) rfl, _, _, rfl, rfl, .inl ⟨?_, ?_⟩, _, rfl, t, _, 1, _, rfl, rfl, .of gt, atI_nat (j := 1) rfl, _, _, rfl, rfl, ⟨by decide, by decide⟩, _, _, rfl, rfl, ?_⟩
      · show -(2 ^ 64) < ((i : Nat) : Int)
        omega
      · show ((i : Nat) : Int) < 2 ^ 64
        omega
      refine ⟨o, _, _, rfl, rfl, h3o, by rw [List.length_map]; exact small1000 (by omega), Same.lst s3 no, row ++ [(((i : Nat) : Int) + 1) * p / 6 - ((i : Nat) : Int) * p / 6], by rw [upd_same, List.map_append]; rfl, fun x hx => ?_, by rw [List.length_append, hrl]; rfl, _, rfl⟩
      rcases List.mem_append.mp hx with hx | hx
      · exact hbit x hx
      · rw [List.mem_singleton.mp hx]
        exact even_bit h0 h6 i
    · obtain ⟨s3, row, h3o, hbit, hrl, y3, rfl⟩ := hP
      exact ⟨_, rfl, o, _, rfl, .inl ⟨.of h3o, fun l nl => q _ l row (s3.upd nl) upd_same hbit hrl⟩⟩
abbrev s_law_told : Stmt := topS 43
theorem sc_law_told : FnScope ["deck", "rules", "many", "row", "hidden", "at"] ["deck", "rules", "many"] (defScope s_law_told) := ⟨rfl, rfl, rfl, by decide +kernel, rfl, by decide +kernel, by decide +kernel⟩
def spLTold : Sp := fun vs H Q _ => ∃ (d a : Addr) (many n : Nat) (rs : List Rule) (G : Hp), vs = [.ref d, .ref a, .int many] ∧ RulesAt G a rs ∧ View d G H n ∧ many ≤ 40 ∧ n ≤ 800000 ∧
  ∀ H' b ts, View d G H' (n + 130) → ToldAt H' b ts → ToldOk ts → ts.length = many → Q (.ref b) H'
theorem ok_law_told (B : Bu mg) (D : Df K mg "_law_told" s_law_told ["deck", "rules", "many"]) (c_law_walk : Cl P w K mg base 3 "_law_walk" spWalk) (c_law_even : Cl P w K mg base 1 "_law_even" spEven) (c_law_one : Cl P w K mg base 2 "_law_one" spOne) (c_law_pick : Cl P w K mg base 1 "_law_pick" spPick) : Cl P w K mg base 4 "_law_told" spLTold := by
  refine D.cl sc_law_told (fun vs H Q E h => ?_) fun f cdv A outer s H vs Q E hr h => ?_
  · obtain ⟨d, a, many, n, rs, G, rfl, _⟩ := h
    rfl
  · obtain ⟨d, a, many, n, rs, G, rfl, hR, v, hmany, hn, q⟩ := h
    refine ⟨_, (pss_cons (ps_set (i := 3) sc_law_told.nd rfl (Or.inl rfl) (pe_callTy call_list_of (by rfl) B.list (by decide +kernel) (pa_cons (pe_cl c_law_walk hr (by decide) (by rfl) (pa_cons (pv 0) (pa_cons (pv 1) (pa_cons (pv 2) pa_nil)))) pa_nil)))
      (pss_cons (PS.imp (t' := tFill) (ps_if (pt_cmpR op_lt (pe_callB call_len_seq (by rfl) B.len PySem.boot_len (pa_cons (pv 3) pa_nil)) (pv 2) (nomark _))
        (pss_one (ps_set (i := 3) sc_law_told.nd rfl (Or.inl rfl) (pe_callTy call_list_of (by rfl) B.list (by decide +kernel) (pa_cons (pe_cl c_law_even hr (by decide) (by rfl) (pa_cons (pe_tup (pa_cons (pe_cl c_law_pick hr (by decide) (by rfl) (pa_cons (pv 0) (pa_cons pe_int pa_nil))) (pa_cons pe_int pa_nil))) (pa_cons (pv 2) pa_nil))) pa_nil))))
        pss_nil) ?fill)
      (pss_cons (ps_set (i := 4) sc_law_told.nd rfl (Or.inl rfl) (pe_cl c_law_one hr (by decide) (by rfl) (pa_cons (pv 0) (pa_cons (pe_lst (pa_cons pe_int (pa_cons pe_int (pa_cons pe_int pa_nil)))) pa_nil))))
      (pss_cons (ps_for PassesOwn.never rfl (pi_range1 (by rfl) B.range (pa_cons (pv 2) pa_nil)) (pg_name (i := 5) sc_law_told.nd rfl (Or.inl rfl))
        (pss_one (ps_if (pt_cmpR op_gt (pe_cl c_law_pick hr (by decide) (by rfl) (pa_cons (pv 0) (pa_cons (pv 4) pa_nil))) pe_int (nomark _))
          (pss_one (ps_asg pe_non (pg_sub (pv 3) (pv 5) set_list)))
          (pss_one (ps_if (pt_cmpR op_eq (pe_cl c_law_pick hr (by decide) (by rfl) (pa_cons (pv 0) (pa_cons pe_int pa_nil))) pe_int (nomark _))
            (pss_one (ps_asg (pe_op op_sub pe_int (pe_ix ix_list (pv 3) (pv 5) (fun _ _ => rfl))) (pg_sub (pv 3) (pv 5) set_list)))
            pss_nil)))))
      (pss_one (ps_ret (pe_callTy call_tuple_of (by rfl) B.tuple (by decide +kernel) (pa_cons (pv 3) pa_nil)))))))), ?_⟩
    case fill =>
      intro D σ H1 ⟨d, a, r, many, n, row, G, y4, y5, e, v, hr0, nr, nrd, hbit, hrl, hmany, hn, k⟩
      subst e
      refine ⟨_, rfl, r, _, rfl, .inl (.of hr0), _, rfl, _, _, rfl, rfl, _, rfl, ite2 (fun z => ?_) fun z => ?_⟩
      · refine ⟨_, rfl, d, 7, n, G, rfl, v.deck, by omega, by decide, by decide, v.same, v.no, fun H2 i s2 hd2 hi => ?_⟩
        have v2 := v.go s2 hd2
        refine ⟨by show 2 ≤ sizeLine; decide, fun u nu => ⟨_, rfl, u, (i : Int), many, rfl, upd_same, by omega, by omega, hmany, fun H3 w row3 s3 hw hb3 hl3 => ?_⟩⟩
        have v3 := (v2.all (same_upd nu)).all s3
        refine ⟨w, _, rfl, .inr (.of hw), fun r2 nr2 => ?_⟩
        exact k _ r2 row3 (v3.all (same_upd nr2)) upd_same (v3.same.free nr2) (v3.ne nr2) hb3 hl3
      · have z : ¬ (((row.map V.int).length : Nat) : Int) < (many : Int) := fun q => z (decide_eq_true q)
        rw [List.length_map] at z
        exact k H1 r row (v.mono (by omega)) hr0 nr nrd hbit (by omega)
    refine ⟨_, rfl, _, rfl, _, rfl, d, a, many, n, rs, G, rfl, hR, v, hmany, by omega, fun H1 t row v1 ht hbit hrl => ?_⟩
    refine ⟨t, _, rfl, .inr (.of ht), fun r1 nr1 => ?_⟩
    have s1 := same_upd (o := .lst (row.map V.int)) nr1
    refine ⟨d, a, r1, many, n + many, row, G, _, _, rfl, v1.all s1, upd_same, v1.same.free nr1, v1.ne nr1, hbit, hrl, hmany, by omega, fun H2 r row2 v2 hr2 nr nrd hbit2 hrl2 => ?_⟩
    refine ⟨_, rfl, by show 3 ≤ sizeLine; decide, fun l3 nl3 => ?_⟩
    have v3 := (v2.all (same_upd (o := .lst [.int 2, .int 4, .int 10]) nl3))
    have l3d := v2.ne nl3
    have g3 : K5.wo d (upd H2 l3 (.lst [.int 2, .int 4, .int 10])) l3 = some (.lst [.int 2, .int 4, .int 10]) := View.lst (G := G) (n := n) upd_same l3d
    refine ⟨d, l3, [.int 2, .int 4, .int 10], n + many + 1, _, rfl, v3.deck, by omega, g3, by show 1 ≤ 3; decide, by show 3 ≤ 1000; decide, wo_same _ _, wo_none _ _, fun H4 x s4 hd4 hx => ?_⟩
    have hid : ∃ hn : Nat, x = .int (hn : Int) ∧ 1 ≤ hn ∧ hn ≤ 10 := by
      simp only [List.mem_cons, List.not_mem_nil, or_false] at hx
      rcases hx with rfl | rfl | rfl
      · exact ⟨2, rfl, by decide, by decide⟩
      · exact ⟨4, rfl, by decide, by decide⟩
      · exact ⟨10, rfl, by decide, by decide⟩
    obtain ⟨hn', rfl, hh1, hh2⟩ := hid
    have v4 := v3.back ⟨s4, wo_none _ _, hd4⟩
    have h4r : H4 r = some (.lst (row2.map V.int)) := s4 _ _ (View.lst (G := G) (n := n) (same_upd nl3 _ _ hr2) nrd)
    refine ⟨_, rfl, _, rfl, ?_, ?_, ?_⟩
    · show -(2 ^ 62) ≤ (many : Int)
      omega
    · show (many : Int) < 2 ^ 62
      omega
    refine for_it (walk_rangeN (n := many) (by omega)) (fun i σ H5 => View d G H5 (n + many + 2 + 2 * i) ∧ ∃ l : List V, H5 r = some (.lst l) ∧ l.length = many ∧ (∀ j x, l[j]? = some x → (x = .non ∧ j < i) ∨ ∃ p, x = .int p ∧ Bit p) ∧
        ∃ y5, σ = [some (.ref d), some (.ref a), some (.int many), some (.ref r), some (.int hn'), y5])
      ⟨v4, _, h4r, by rw [List.length_map, hrl2], fun j x hx => .inr ?_, _, rfl⟩ (fun _ _ _ _ _ => trivial) (fun i x σ H5 H6 hi hP hx => ?_) fun σ H5 hP => ?_
    · obtain ⟨p, ep, rfl⟩ := at_map hx
      exact ⟨p, rfl, hbit2 p (List.mem_of_getElem? ep)⟩
    · obtain ⟨v5, l, h5r, hll, hl, y5, rfl⟩ := hP
      obtain ⟨rfl, rfl⟩ := hx
      have v5k := v5.know h5r nrd
      refine ⟨_, rfl, _, rfl, d, hn', n + many + 2 + 2 * i, _, rfl, v5k.deck, by omega, hh1, by omega, v5k.same, v5k.no, fun H7 k s7 hd7 hk => ⟨_, _, rfl, rfl, _, rfl, ?_⟩⟩
      have v7 : View d G H7 (n + many + 2 + 2 * i + 1) := ⟨(same_upd nr).trans s7, v5.no, hd7⟩
      have h7r : H7 r = some (.lst l) := s7 _ _ upd_same
      have setok : ∀ (H9 : Hp) (m : Nat) (y : V), View d G H9 m → m ≤ n + many + 2 + 2 * (i + 1) → ((y = .non) ∨ ∃ p, y = .int p ∧ Bit p) → View d G (upd H9 r (.lst (l.set i y))) (n + many + 2 + 2 * (i + 1)) ∧ ∃ l' : List V, (upd H9 r (.lst (l.set i y))) r = some (.lst l') ∧ l'.length = many ∧ (∀ j x, l'[j]? = some x → (x = .non ∧ j < i + 1) ∨ ∃ p, x = .int p ∧ Bit p) :=
        fun H9 m y v9 hm hy => by
          refine ⟨(v9.mono hm).put nr nrd, _, upd_same, by rw [List.length_set, hll], fun j x hx => ?_⟩
          by_cases e : j = i
          · subst e
            rw [List.getElem?_set_self (by omega)] at hx
            have ex : y = x := Option.some.inj hx
            subst ex
            rcases hy with hy | hy
            · exact .inl ⟨hy, by omega⟩
            · exact .inr hy
          · rw [List.getElem?_set_ne (fun z => e z.symm)] at hx
            rcases hl j x hx with ⟨h1, h2⟩ | h
            · exact .inl ⟨h1, by omega⟩
            · exact .inr h
      refine ite2 (fun _ => ?_) fun _ => ?_
      · refine ⟨_, rfl, _, rfl, r, _, (i : Int), i, rfl, rfl, h7r, by rw [hll]; exact ixN_nat hi, ?_⟩
        obtain ⟨w1, l', w2, w3, w4⟩ := setok H7 _ .non v7 (by omega) (.inl rfl)
        exact ⟨w1, l', w2, w3, w4, _, rfl⟩
      · have v7k := v7.know h7r nrd
        refine ⟨_, rfl, d, 12, n + many + 2 + 2 * i + 1, _, rfl, v7k.deck, by omega, by decide, by decide, v7k.same, v7k.no, fun H8 k2 s8 hd8 hk2 => ⟨rfl, _, rfl, ?_⟩⟩
        have v8 : View d G H8 (n + many + 2 + 2 * i + 1 + 1) := ⟨(same_upd nr).trans s8, v7.no, hd8⟩
        have h8r : H8 r = some (.lst l) := s8 _ _ upd_same
        refine ite2 (fun _ => ?_) fun _ => ?_
        · obtain ⟨x, ex, hx⟩ := lt_at (show i < l.length by omega)
          obtain ⟨p, rfl, hp⟩ : ∃ p, x = .int p ∧ Bit p := by
            rcases hl i x ex with ⟨_, h⟩ | h
            · exact absurd h (Nat.lt_irrefl _)
            · exact h
          refine ⟨_, rfl, _, rfl, r, _, (i : Int), _, rfl, rfl, .of h8r, atI_nat ex, _, _, rfl, rfl, _, rfl, _, rfl, r, _, (i : Int), i, rfl, rfl, h8r, by rw [hll]; exact ixN_nat hi, ?_⟩
          obtain ⟨w1, l', w2, w3, w4⟩ := setok H8 _ (.int (1 - p)) v8 (by omega) (.inr ⟨_, rfl, by rcases hp with rfl | rfl; exact .inr rfl; exact .inl rfl⟩)
          exact ⟨w1, l', w2, w3, w4, _, rfl⟩
        · refine ⟨v8.mono (by omega), l, h8r, hll, fun j x hx => ?_, _, rfl⟩
          rcases hl j x hx with ⟨h1, h2⟩ | h
          · exact .inl ⟨h1, by omega⟩
          · exact .inr h
    · obtain ⟨v5, l, h5r, hll, hl, y5, rfl⟩ := hP
      obtain ⟨ts, rfl, hts⟩ := told_of l fun x hx => by
        obtain ⟨j, hj, ej⟩ := List.mem_iff_getElem.mp hx
        rcases hl j x (by rw [List.getElem?_eq_getElem hj, ej]) with ⟨h, _⟩ | h
        · exact .inl h
        · exact .inr h
      rw [List.length_map] at hll
      refine ⟨_, rfl, r, _, rfl, .inl ⟨.of h5r, fun b nb => ?_⟩⟩
      exact q _ b ts ((v5.all (same_upd nb)).mono (by omega)) upd_same ⟨by omega, hts⟩ hll
end
end K5
end
section
set_option Elab.async false
set_option linter.all false
set_option maxRecDepth 100000
set_option maxHeartbeats 4000000
/-! Walks of the law, 5: the drawn rules. -/
namespace K5
open PySem PySem.Spec PyProof.Rows L2
/-- what the dict of drawn rules holds -/
def RuAt (H : Hp) (v : Nat) (b : Addr) : Prop := ∃ r : Rule, r.1 = v ∧ RuleOk r ∧ H b = some (.tup (ruV r))
theorem RuAt.same {H H' : Hp} {v : Nat} {b : Addr} (h : RuAt H v b) (s : Same H H') : RuAt H' v b := by
  obtain ⟨r, h1, h2, h3⟩ := h
  exact ⟨r, h1, h2, s _ _ h3⟩
theorem RuAt.wo {H : Hp} {v : Nat} {b d : Addr} {n : Nat} {G : Hp} (h : RuAt H v b) (w : View d G H n) : RuAt (K5.wo d H) v b := by
  obtain ⟨r, h1, h2, h3⟩ := h
  exact ⟨r, h1, h2, w.tup h3⟩
theorem RuAt.dK {H : Hp} {v : Nat} {b m : Addr} {k k' : List (L2.Key × V)} (h : RuAt H v b) (hm : H m = some (.dK k)) : RuAt (upd H m (.dK k')) v b := by
  obtain ⟨r, h1, h2, h3⟩ := h
  refine ⟨r, h1, h2, ?_⟩
  rw [upd_ne (ne_of h3 hm (by intro z; cases z))]
  exact h3
theorem rules_split {ys : List Int} {H : Hp} : ∀ {zs : List V} {k : Nat}, (∀ i y, zs[i]? = some y → ∃ (b : Addr) (v : Nat), y = .ref b ∧ ys[k + i]? = some (v : Int) ∧ RuAt H v b) →
    ∃ (as : List Addr) (rs : List Rule), zs = as.map V.ref ∧ as.length = rs.length ∧ rs.length = zs.length ∧ ∀ (i : Nat) (b : Addr) (r : Rule), as[i]? = some b → rs[i]? = some r → ys[k + i]? = some ((r.1 : Nat) : Int) ∧ RuleOk r ∧ H b = some (.tup (ruV r))
  | [], k, _ => ⟨[], [], rfl, rfl, rfl, fun i c e h => (by cases h)⟩
  | z :: zs, k, h => by
    obtain ⟨as, rs, h1, h2, h3, h4⟩ := rules_split (zs := zs) (k := k + 1) fun i y e => by
      have := h (i + 1) y e
      rw [show k + (i + 1) = k + 1 + i by omega] at this
      exact this
    obtain ⟨b, v, g1, g2, r, g3, g4, g5⟩ := h 0 z rfl
    refine ⟨b :: as, r :: rs, by rw [List.map_cons, ← h1, g1], by rw [List.length_cons, List.length_cons, h2], by rw [List.length_cons, List.length_cons, h3], fun i c e e1 e2 => ?_⟩
    cases i with
    | zero =>
      cases e1
      cases e2
      rw [g3]
      exact ⟨g2, g4, g5⟩
    | succ i =>
      have := h4 i c e e1 e2
      rw [show k + 1 + i = k + (i + 1) by omega] at this
      exact this
theorem wo_get {d t : Addr} {H : Hp} {o : HO} (h : H t = some o) (ne : t ≠ d) : K5.wo d H t = some o := by
  rw [wo_at ne]
  exact h
/-- 1 + a draw -/
def tSpan : TE := fun σ H Q => ∃ (d : Addr) (spans n : Nat) (G : Hp), σ[0]? = some (some (.ref d)) ∧ σ[1]? = some (some (.int spans)) ∧ View d G H n ∧ n ≤ 900000 ∧ 1 ≤ spans ∧ spans ≤ 8 ∧ ∀ H' (s : Nat), View d G H' (n + 1) → 1 ≤ s → s ≤ spans → Q (.int s) H'
/-- now and then other bounds -/
def tLow : TS := fun D σ H => ∃ (d m : Addr) (spans close top n s : Nat) (l h : Int) (G : Hp) (y5 y9 y10 : Option V), σ = [some (.ref d), some (.int spans), some (.int close), some (.int top), some (.ref m), y5, some (.int s), some (.int l), some (.int h), y9, y10] ∧
  View d G H n ∧ n ≤ 900000 ∧ 1 ≤ close ∧ close ≤ 100 ∧ s ≤ 8 ∧ 0 ≤ l ∧ l ≤ h ∧ h ≤ s ∧
  ∀ H2 (l2 h2 : Int), View d G H2 (n + 3) → 0 ≤ l2 → l2 ≤ h2 → h2 ≤ s → D.nx [some (.ref d), some (.int spans), some (.int close), some (.int top), some (.ref m), y5, some (.int s), some (.int l2), some (.int h2), y9, y10] H2
theorem low_high {s t : Nat} (ht : t < 13) : 0 ≤ (s : Int) * (t : Int) / 12 ∧ (s : Int) * (t : Int) / 12 ≤ ((s : Int) * (t : Int) + 11) / 12 ∧ ((s : Int) * (t : Int) + 11) / 12 ≤ s := by
  have h1 : (s : Int) * (t : Int) ≤ (s : Int) * 12 := Int.mul_le_mul_of_nonneg_left (by omega) (by omega)
  have h2 : 0 ≤ (s : Int) * (t : Int) := Int.mul_nonneg (by omega) (by omega)
  generalize (s : Int) * (t : Int) = x at h1 h2
  omega
theorem four_in {x : V} (h : x ∈ [V.int 0, .int 0, .int 1, .int 2]) : ∃ i : Int, x = .int i ∧ 0 ≤ i ∧ i ≤ 2 := by
  simp only [List.mem_cons, List.not_mem_nil, or_false] at h
  rcases h with rfl | rfl | rfl | rfl
  · exact ⟨0, rfl, by decide, by decide⟩
  · exact ⟨0, rfl, by decide, by decide⟩
  · exact ⟨1, rfl, by decide, by decide⟩
  · exact ⟨2, rfl, by decide, by decide⟩
theorem keys_nat {n : Nat} {F : Nat → Option V} {kvs : List (L2.Key × V)} (h : Dk n F kvs) : ∃ vs : List Nat, kvs.map (·.1) = vs.map sK ∧ vs.Nodup ∧ ∀ v ∈ vs, v ≤ n := by
  have key := h.key
  have nd := h.nd
  generalize kvs.map (·.1) = ks at key nd
  clear h
  induction ks with
  | nil => exact ⟨[], rfl, by simp, fun v hv => (by cases hv)⟩
  | cons k r ih =>
    rw [List.nodup_cons] at nd
    obtain ⟨vs, e, hn, hv⟩ := ih (fun k hk => key k (List.mem_cons_of_mem _ hk)) nd.2
    obtain ⟨v, hvn, e2⟩ := key k List.mem_cons_self
    refine ⟨v :: vs, by rw [List.map_cons, e, e2], ?_, fun u hu => ?_⟩
    · rw [List.nodup_cons]
      refine ⟨fun hm => nd.1 ?_, hn⟩
      rw [e, e2]
      exact List.mem_map.mpr ⟨v, hm, rfl⟩
    · rcases List.mem_cons.mp hu with rfl | hu
      · exact hvn
      · exact hv u hu
section
variable {P : Program} {w : World} {K : PySem.W.Frag} {mg : Str → Option Value} {base : Heap}
abbrev s_law_rules : Stmt := topS 39
theorem sc_law_rules : FnScope ["deck", "spans_so", "close", "top", "found", "turn", "span", "low", "high", "more", "less"] ["deck", "spans_so", "close"] (defScope s_law_rules) := ⟨rfl, rfl, rfl, by decide +kernel, rfl, by decide +kernel, by decide +kernel⟩
def spLR : Sp := fun vs H Q _ => ∃ (d : Addr) (spans close n : Nat) (G : Hp), vs = [.ref d, .int spans, .int close] ∧ 1 ≤ spans ∧ spans ≤ 8 ∧ 1 ≤ close ∧ close ≤ 100 ∧ View d G H n ∧ n ≤ 800000 ∧
  ∀ H' a rs, View d G H' (n + 30) → RulesAt H' a rs → RulesOk rs → Q (.ref a) H'
theorem ok_law_rules (B : Bu mg) (D : Df K mg "_law_rules" s_law_rules ["deck", "spans_so", "close"]) (c_law_one : Cl P w K mg base 2 "_law_one" spOne) (c_law_pick : Cl P w K mg base 1 "_law_pick" spPick) : Cl P w K mg base 3 "_law_rules" spLR := by
  refine D.cl sc_law_rules (fun vs H Q E h => ?_) fun f cdv A outer s H vs Q E hr h => ?_
  · obtain ⟨d, spans, close, n, G, rfl, _⟩ := h
    rfl
  · obtain ⟨d, spans, close, n, G, rfl, hs1, hs2, hc1, hc2, v, hn, q⟩ := h
    have hu := hu_of hr
    refine ⟨_, (pss_cons (ps_asg (pe_tup (pa_cons (pe_cl c_law_pick hr (by decide) (by rfl) (pa_cons (pv 0) (pa_cons pe_int pa_nil))) (pa_cons pe_dnewK pa_nil))) (pg_tup rfl (pgs_cons (pg_name (i := 3) sc_law_rules.nd rfl (Or.inl rfl)) (pgs_cons (pg_name (i := 4) sc_law_rules.nd rfl (Or.inr rfl)) pgs_nil))))
      (pss_cons (ps_for PassesOwn.never rfl (pi_range1 (by rfl) B.range (pa_cons (pe_op op_add pe_int (pe_cl c_law_pick hr (by decide) (by rfl) (pa_cons (pv 0) (pa_cons pe_int pa_nil)))) pa_nil)) (pg_name (i := 5) sc_law_rules.nd rfl (Or.inl rfl))
        (pss_cons (ps_set (i := 6) sc_law_rules.nd rfl (Or.inl rfl) (PE.imp (t' := tSpan) (pe_op op_add pe_int (pe_cl c_law_pick hr (by decide) (by rfl) (pa_cons (pv 0) (pa_cons (pv 1) pa_nil)))) ?span))
        (pss_cons (ps_par (i := 7) (j := 8) rfl sc_law_rules.nd rfl rfl (by decide) rfl rfl (pa_cons (pe_op op_fdiv (pe_op op_mul (pv 6) (pv 3)) pe_int) (pa_cons (pe_op op_fdiv (pe_op op_add (pe_op op_mul (pv 6) (pv 3)) pe_int) pe_int) pa_nil)) rfl)
        (pss_cons (PS.imp (t' := tLow) (ps_if (pt_cmpR op_eq (pe_cl c_law_pick hr (by decide) (by rfl) (pa_cons (pv 0) (pa_cons (pv 2) pa_nil))) pe_int (nomark _))
          (pss_cons (ps_set (i := 7) sc_law_rules.nd rfl (Or.inl rfl) (pe_cl c_law_pick hr (by decide) (by rfl) (pa_cons (pv 0) (pa_cons (pe_op op_add (pv 6) pe_int) pa_nil))))
          (pss_one (ps_set (i := 8) sc_law_rules.nd rfl (Or.inl rfl) (pe_op op_add (pv 7) (pe_cl c_law_pick hr (by decide) (by rfl) (pa_cons (pv 0) (pa_cons (pe_op op_sub (pe_op op_add (pv 6) pe_int) (pv 7)) pa_nil)))))))
          pss_nil) ?low)
        (pss_cons (ps_par (i := 9) (j := 10) rfl sc_law_rules.nd rfl rfl (by decide) rfl rfl (pa_cons (pe_cl c_law_one hr (by decide) (by rfl) (pa_cons (pv 0) (pa_cons (pe_lst (pa_cons pe_int (pa_cons pe_int (pa_cons pe_int (pa_cons pe_int pa_nil))))) pa_nil))) (pa_cons (pe_cl c_law_one hr (by decide) (by rfl) (pa_cons (pv 0) (pa_cons (pe_lst (pa_cons pe_int (pa_cons pe_int (pa_cons pe_int (pa_cons pe_int pa_nil))))) pa_nil))) pa_nil)) rfl)
        (pss_one (ps_dput hu (pv 4) (pv 6) (pe_tup (pa_cons (pv 6) (pa_cons (pe_callB (call_max2 rfl) (by rfl) B.max (by decide +kernel) (pa_cons pe_int (pa_cons (pe_op op_sub (pv 7) (pv 10)) pa_nil))) (pa_cons (pe_callB (call_min2 rfl) (by rfl) B.min (by decide +kernel) (pa_cons (pv 6) (pa_cons (pe_op op_add (pv 8) (pv 9)) pa_nil))) pa_nil)))) rfl)))))))
      (pss_one (ps_ret (pe_callTy call_tuple_of (by rfl) B.tuple (by decide +kernel) (pa_cons (pe_lc (own := [("span", 6)]) (g := gName 6) (tt := tYes) rfl sc_law_rules.nd (pi_list (pe_callB (call_sortedDI rfl) (by rfl) B.sorted (by decide +kernel) (pa_cons (pv 4) pa_nil))) (blkOk_by (N := ["deck", "spans_so", "close", "top", "found", "turn", "span", "low", "high", "more", "less"]) (sc := defScope s_law_rules) (by decide +kernel)) (fun _ _ _ _ _ => pg_name (i := 6) sc_law_rules.nd rfl (.inl rfl)) (fun _ _ _ _ _ => pts_nil) (fun _ _ _ _ _ => (pe_dget hu (pv 4) (pv 6) (fun _ _ => rfl)))) pa_nil)))))), ?_⟩
    case span =>
      intro σ H Q ⟨d, spans, n, G, e0, e1, v, hn, h1, h2, k⟩
      refine ⟨_, e0, _, e1, d, spans, n, G, rfl, v.deck, by omega, h1, by omega, v.same, v.no, fun H' i s' hd' hi => ⟨_, _, rfl, rfl, ?_⟩⟩
      exact qI (Q := Q) (j := ((i + 1 : Nat) : Int)) (by omega) (k H' (i + 1) (v.go s' hd') (by omega) (by omega))
    case low =>
      intro D σ H ⟨d, m, spans, close, top, n, s, l, h, G, y5, y9, y10, e, v, hn, hc1, hc2, hs8, hl0, hlh, hhs, k⟩
      subst e
      refine ⟨_, rfl, _, rfl, d, close, n, G, rfl, v.deck, by omega, hc1, by omega, v.same, v.no, fun H2 i s2 hd2 hi => ⟨rfl, _, rfl, ite2 (fun _ => ?_) fun _ => ?_⟩⟩
      · have v2 := v.go s2 hd2
        refine ⟨_, rfl, _, rfl, _, _, rfl, rfl, d, s + 1, n + 1, G, rfl, v2.deck, by omega, by omega, by omega, v2.same, v2.no, fun H3 l3 s3 hd3 hl3 => ?_⟩
        have v3 := v2.go s3 hd3
        refine ⟨_, rfl, _, rfl, _, rfl, _, _, rfl, rfl, _, rfl, _, _, rfl, rfl, d, s + 1 - l3, n + 2, G, ?_, v3.deck, by omega, by omega, by omega, v3.same, v3.no, fun H4 h4 s4 hd4 hh4 => ⟨_, _, rfl, rfl, ?_⟩⟩
        · show [V.ref d, V.int ((s : Int) + 1 - (l3 : Int))] = [V.ref d, V.int (((s + 1 - l3 : Nat)) : Int)]
          rw [show (s : Int) + 1 - (l3 : Int) = ((s + 1 - l3 : Nat) : Int) by omega]
        · exact k H4 (l3 : Int) ((l3 : Int) + (h4 : Int)) (v3.go s4 hd4) (by omega) (by omega) (by omega)
      · exact k H2 l h ((v.go s2 hd2).mono (by omega)) hl0 hlh hhs
    refine ⟨_, rfl, d, 13, n, G, rfl, v.deck, by omega, by decide, by decide, v.same, v.no, fun H1 top s1 hd1 htop => ?_⟩
    have v1 := v.go s1 hd1
    refine fun m nm => ⟨by show 2 ≤ sizeLine; decide, fun u nu => ⟨u, _, rfl, .of upd_same, rfl, _, _, rfl, _, _, rfl, rfl, ?_⟩⟩
    have nmG := v1.same.free nm
    have nmd := v1.ne nm
    have s2 := (same_upd (o := .dK []) nm).trans (same_upd (o := .tup [.int top, .ref m]) nu)
    have v2 := v1.all s2
    have h2m : (upd (upd H1 m (.dK [])) u (.tup [.int top, .ref m])) m = some (.dK []) := same_upd nu _ _ upd_same
    refine ⟨_, rfl, d, 4, n + 1, K5.wo d _, rfl, v2.deck, by omega, by decide, by decide, wo_same _ _, wo_none _ _, fun H3 kk s3 hd3 hkk => ⟨_, _, rfl, rfl, _, rfl, ?_, ?_, ?_⟩⟩
    · show -(2 ^ 62) ≤ (1 : Int) + (kk : Int)
      omega
    · show (1 : Int) + (kk : Int) < 2 ^ 62
      omega
    have v3 := v2.back ⟨s3, wo_none _ _, hd3⟩
    have h3m : H3 m = some (.dK []) := s3 _ _ (wo_get h2m nmd)
    refine for_it (walk_rangeN (n := 1 + kk) (by show 1 + kk = ((1 : Int) + (kk : Int)).toNat; omega)) (fun i σ H5 => View d G H5 (n + 2 + 7 * i) ∧ ∃ (kvs : List (L2.Key × V)) (F : Nat → Option Addr), H5 m = some (.dK kvs) ∧ Dk 8 (fun v => (F v).map V.ref) kvs ∧ (∀ v b, F v = some b → RuAt H5 v b) ∧ kvs.length ≤ i ∧ (0 < i → kvs ≠ []) ∧
        ∃ y5 y6 y7 y8 y9 y10, σ = [some (.ref d), some (.int spans), some (.int close), some (.int top), some (.ref m), y5, y6, y7, y8, y9, y10])
      ⟨v3, [], fun _ => none, h3m, ⟨by simp, fun k hk => (by cases hk), fun _ => rfl⟩, fun v b h => (by cases h), Nat.le_refl 0, fun h => absurd h (Nat.lt_irrefl 0), _, _, _, _, _, _, rfl⟩ (fun _ _ _ _ _ => trivial) (fun i x σ H5 H6 hi hP hx => ?_) fun σ H5 hP => ?_
    · obtain ⟨v5, kvs, F, h5m, hdk, hF, hkl, _, y5, y6, y7, y8, y9, y10, rfl⟩ := hP
      obtain ⟨rfl, rfl⟩ := hx
      refine ⟨d, spans, n + 2 + 7 * i, K5.wo d H6, rfl, rfl, v5.wo, by omega, hs1, hs2, fun H7 sp v7 hsp1 hsp2 => ?_⟩
      have v57 := v5.back v7
      have h7m : H7 m = some (.dK kvs) := v7.same _ _ (wo_get h5m nmd)
      have h7F : ∀ v b, F v = some b → RuAt H7 v b := fun v b e => ((hF v b e).wo v5).same v7.same
      obtain ⟨lh1, lh2, lh3⟩ := low_high (s := sp) htop
      refine ⟨_, rfl, _, rfl, _, _, rfl, rfl, .inl ⟨?_, ?_⟩, _, _, rfl, rfl, ⟨by decide, by decide⟩, _, rfl, _, rfl, _, _, rfl, rfl, .inl ⟨?_, ?_⟩, _, _, rfl, rfl, _, _, rfl, rfl, ⟨by decide, by decide⟩, _, _, rfl, ?_⟩
      · show -(2 ^ 64) < (sp : Int)
        omega
      · show (sp : Int) < 2 ^ 64
        omega
      · show -(2 ^ 64) < (sp : Int)
        omega
      · show (sp : Int) < 2 ^ 64
        omega
      refine ⟨d, m, spans, close, top, n + 2 + 7 * i + 1, sp, _, _, K5.wo d H7, _, _, _, rfl, v57.wo, by omega, hc1, hc2, by omega, lh1, lh2, lh3, fun H8 l h v8 hl0 hlh hhs => ?_⟩
      have v78 := v57.back v8
      have h8m : H8 m = some (.dK kvs) := v8.same _ _ (wo_get h7m nmd)
      have h8F : ∀ v b, F v = some b → RuAt H8 v b := fun v b e => ((h7F v b e).wo v57).same v8.same
      -- more, less
      refine ⟨_, rfl, by show 4 ≤ sizeLine; decide, fun l1 nl1 => ?_⟩
      have v9 := v78.all (same_upd (o := .lst [.int 0, .int 0, .int 1, .int 2]) nl1)
      have l1d := v78.ne nl1
      refine ⟨d, l1, [.int 0, .int 0, .int 1, .int 2], _, K5.wo d _, rfl, v9.deck, by omega, wo_get upd_same l1d, by show 1 ≤ 4; decide, by show 4 ≤ 1000; decide, wo_same _ _, wo_none _ _, fun H10 x1 s10 hd10 hx1 => ?_⟩
      have v10 := v9.back ⟨s10, wo_none _ _, hd10⟩
      have h10m : H10 m = some (.dK kvs) := s10 _ _ (wo_get (same_upd nl1 _ _ h8m) nmd)
      have h10F : ∀ v b, F v = some b → RuAt H10 v b := fun v b e => (((h8F v b e).same (same_upd nl1)).wo v9).same s10
      refine ⟨_, rfl, by show 4 ≤ sizeLine; decide, fun l2 nl2 => ?_⟩
      have v11 := v10.all (same_upd (o := .lst [.int 0, .int 0, .int 1, .int 2]) nl2)
      have l2d := v10.ne nl2
      refine ⟨d, l2, [.int 0, .int 0, .int 1, .int 2], _, K5.wo d _, rfl, v11.deck, by omega, wo_get upd_same l2d, by show 1 ≤ 4; decide, by show 4 ≤ 1000; decide, wo_same _ _, wo_none _ _, fun H12 x2 s12 hd12 hx2 => ?_⟩
      have v12 := v11.back ⟨s12, wo_none _ _, hd12⟩
      have h12m : H12 m = some (.dK kvs) := s12 _ _ (wo_get (same_upd nl2 _ _ h10m) nmd)
      have h12F : ∀ v b, F v = some b → RuAt H12 v b := fun v b e => (((h10F v b e).same (same_upd nl2)).wo v11).same s12
      obtain ⟨mo, rfl, mo1, mo2⟩ := four_in hx1
      obtain ⟨le, rfl, le1, le2⟩ := four_in hx2
      refine ⟨_, _, rfl, ?_⟩
      refine ⟨_, rfl, _, rfl, _, rfl, _, _, rfl, rfl, _, _, rfl, _, rfl, _, rfl, _, rfl, _, _, rfl, rfl, _, _, rfl, by show 3 ≤ sizeLine; decide, fun t nt => ?_⟩
      have s13 := same_upd (o := .tup [.int sp, .int (if l - le > 0 then l - le else 0), .int (if h + mo < sp then h + mo else sp)]) nt
      have v13 := v12.all s13
      have hfw := hdk.few
      refine ⟨_, rfl, _, rfl, m, _, rfl, .k (k := sK sp) (s13 _ _ h12m) (small1000 (by omega)), ?_⟩
      have hput := hdk.put (v := sp) (by omega) (.ref t)
      have hne : putK kvs (sK sp) (.ref t) ≠ [] := fun z => by
        have := hput.val sp
        rw [z, if_pos rfl] at this
        cases this
      have hlen : (putK kvs (sK sp) (V.ref t)).length ≤ i + 1 := by
        have hl : (putK kvs (sK sp) (V.ref t)).length = ((putK kvs (sK sp) (V.ref t)).map (·.1)).length := (List.length_map _).symm
        rcases putK_keysG kvs (sK sp) (.ref t) with z | ⟨_, z⟩
        · rw [hl, z, List.length_map]; omega
        · rw [hl, z, List.length_append, List.length_map, List.length_singleton]; omega
      refine ⟨(v13.put nmG nmd).mono (by omega), _, fun v => if v = sp then some t else F v, upd_same, hput.iff fun v => ?_, fun v b e => ?_, hlen, fun _ => hne, _, _, _, _, _, _, rfl⟩
      · show (if v = sp then some (V.ref t) else (F v).map V.ref) = (if v = sp then some t else F v).map V.ref
        by_cases z : v = sp
        · rw [if_pos z, if_pos z]
          rfl
        · rw [if_neg z, if_neg z]
      · have e : (if v = sp then some t else F v) = some b := e
        by_cases z : v = sp
        · rw [if_pos z] at e
          have et : t = b := Option.some.inj e
          subst et
          refine RuAt.dK (k := kvs) ⟨(sp, (if l - le > 0 then l - le else 0).toNat, (if h + mo < (sp : Int) then h + mo else sp).toNat), z.symm, ⟨by show 1 ≤ sp; omega, by show sp ≤ 8; omega, ?_, ?_⟩, ?_⟩ (s13 _ _ h12m)
          · show (if l - le > 0 then l - le else 0).toNat ≤ (if h + mo < (sp : Int) then h + mo else sp).toNat
            split <;> split <;> omega
          · show (if h + mo < (sp : Int) then h + mo else sp).toNat ≤ sp
            split <;> omega
          · rw [upd_same]
            have e1 : (((if l - le > 0 then l - le else 0).toNat : Nat) : Int) = if l - le > 0 then l - le else 0 := Int.toNat_of_nonneg (by split <;> omega)
            have e2 : (((if h + mo < (sp : Int) then h + mo else sp).toNat : Nat) : Int) = if h + mo < (sp : Int) then h + mo else sp := Int.toNat_of_nonneg (by split <;> omega)
            show _ = some (HO.tup [V.int (sp : Int), V.int ((((if l - le > 0 then l - le else 0).toNat : Nat)) : Int), V.int ((((if h + mo < (sp : Int) then h + mo else sp).toNat : Nat)) : Int)])
            rw [e1, e2]
        · rw [if_neg z] at e
          exact RuAt.dK (((h12F v b e)).same s13) (s13 _ _ h12m)
    · obtain ⟨v5, kvs, F, h5m, hdk, hF, hkl, hne, y5, y6, y7, y8, y9, y10, rfl⟩ := hP
      have hne := hne (by omega)
      obtain ⟨ks, eks, hnd, hkn⟩ := keys_nat hdk
      have hksl : ks.length = kvs.length := by
        have := congrArg List.length eks
        rw [List.length_map, List.length_map] at this
        exact this.symm
      have hkpos : 1 ≤ kvs.length := List.length_pos_iff.mpr hne
      refine ⟨_, rfl, m, kvs, ks.map fun v => ((v : Nat) : Int), rfl, .inl h5m, by rw [eks, List.map_map]; rfl, by rw [List.length_map]; omega, fun ys p hperm hsort np => ?_⟩
      have hyl : ys.length = ks.length := by rw [hperm.length_eq, List.length_map]
      have hyn : ys.Nodup := by
        rw [hperm.nodup_iff]
        exact List.pairwise_map.mpr (hnd.imp fun h e => h (Int.ofNat.inj e))
      have s6 := same_upd (o := .lst (ys.map V.int)) np
      refine ⟨p, rfl, ⟨_, .of upd_same⟩, fun D nD => ?_⟩
      refine lc_refs (walk_listN (n := ys.length) (xs := ys.map V.int) (by rw [List.length_map])) (fun i y H6 => ∃ (b : Addr) (v : Nat), y = .ref b ∧ ys[i]? = some (v : Int) ∧ RuAt H6 v b) nD (sizeL (by omega)) (fun H' s' => .of (s' _ _ upd_same)) (fun i y H6 H7 kt h => ?_) (fun i x H6 H7 k hi s7 hx hk => ?_) fun H7 zs s7 hD hzl hz => ?_
      · obtain ⟨b, v, h1, h2, r, h3, h4, h5⟩ := h
        exact ⟨b, v, h1, h2, r, h3, h4, kt _ _ (fun l z => by cases z) h5⟩
      · obtain ⟨rfl, hx⟩ := hx
        obtain ⟨y, ey, rfl⟩ := at_map hx
        obtain ⟨v, hv, ev⟩ := List.mem_map.mp (hperm.mem_iff.mp (List.mem_of_getElem? ey))
        subst ev
        have hmem : sK v ∈ kvs.map (·.1) := by rw [eks]; exact List.mem_map.mpr ⟨v, hv, rfl⟩
        have hval := hdk.val v
        cases z : F v with
        | none =>
          have hval' : valV kvs (sK v) = none := by rw [hval]; show (F v).map V.ref = none; rw [z]; rfl
          exact absurd hmem (valV_not hval')
        | some b =>
          have hval' : valV kvs (sK v) = some (.ref b) := by rw [hval]; show (F v).map V.ref = _; rw [z]; rfl
          refine ⟨rfl, _, rfl, _, rfl, m, _, rfl, ?_, hk _ H7 (Same.refl H7) ⟨b, v, rfl, ey, ((hF v b z).same s6).same s7⟩⟩
          rw [← hval']
          exact .k (k := sK v) (s7 _ _ (s6 _ _ h5m))
      · obtain ⟨as, rs, rfl, h1, h2, h3⟩ := rules_split (k := 0) (ys := ys) (zs := zs) (H := H7) fun i y e => by
          rw [Nat.zero_add]
          exact hz i y e
        refine ⟨D, _, rfl, .inl ⟨.of hD, fun b nb => ?_⟩⟩
        have s8 := same_upd (o := .tup (as.map V.ref)) nb
        have hrl : rs.length = ys.length := by rw [h2, hzl]
        refine q _ b rs ((v5.all ((s6.trans s7).trans s8)).mono (by omega)) ⟨as, h1, upd_same, fun i c r e1 e2 => s8 _ _ (h3 i c r e1 e2).2.2⟩ ⟨fun z => ?_, by omega, fun r hr => ?_, ?_⟩
        · rw [z] at hrl
          have : (0 : Nat) = ys.length := hrl
          omega
        · obtain ⟨i, hi, e⟩ := List.mem_iff_getElem.mp hr
          obtain ⟨c, ec, _⟩ := lt_at (show i < as.length by omega)
          exact (h3 i c r ec (by rw [List.getElem?_eq_getElem hi, e])).2.1
        · rw [List.pairwise_iff_getElem]
          intro i j hi hj hij
          obtain ⟨c1, ec1, _⟩ := lt_at (show i < as.length by omega)
          obtain ⟨c2, ec2, _⟩ := lt_at (show j < as.length by omega)
          have g1 := (h3 i c1 _ ec1 (List.getElem?_eq_getElem hi)).1
          have g2 := (h3 j c2 _ ec2 (List.getElem?_eq_getElem hj)).1
          rw [Nat.zero_add] at g1 g2
          have hi' : i < ys.length := by omega
          have hj' : j < ys.length := by omega
          have w1 := List.pairwise_iff_getElem.mp hsort i j hi' hj' hij
          have w2 := List.pairwise_iff_getElem.mp hyn i j hi' hj' hij
          rw [(List.getElem?_eq_some_iff.mp g1).2, (List.getElem?_eq_some_iff.mp g2).2] at w1 w2
          have w2 : ¬ (((rs[i].1 : Nat) : Int) = ((rs[j].1 : Nat) : Int)) := w2
          omega
end
end K5
end
section
set_option Elab.async false
set_option linter.all false
set_option maxRecDepth 100000
set_option maxHeartbeats 4000000
/-! Walks of the law, 6: gains step by step. -/
namespace K5
open PySem PySem.Spec PyProof.Rows L2
theorem gain_max {rs : List Rule} {ts : List (Option Int)} {a b : Nat} {cs : List Int} (h : ∀ c, c ∈ cs ↔ Cand rs ts a b c) {m : Int} (hm : m ∈ cs) (hx : ∀ y ∈ cs, y ≤ m) : gainOf rs ts a b = some m := by
  obtain ⟨g, hg, hle⟩ := cand_gain ((h m).mp hm)
  have := hx g ((h g).mpr (gain_cand hg))
  rw [hg, show g = m by omega]
theorem gain_no {rs : List Rule} {ts : List (Option Int)} {a b : Nat} (h : ∀ c, ¬ Cand rs ts a b c) : gainOf rs ts a b = none := by
  cases e : gainOf rs ts a b with
  | none => rfl
  | some g => exact absurd (gain_cand e) (h g)
theorem rstep_far {n : Nat} {r : Rule} {a b : Nat} (ha : a ≤ n) (hb : b ≤ n) (hr : 1 ≤ r.1) : (∃ c, rstep n r a b = some c) ↔ (r.1 : Int) = (if (a : Int) - b < 0 then -((a : Int) - b) else (a : Int) - b) := by
  unfold rstep
  by_cases h1 : b = a + r.1 ∧ b ≤ n
  · rw [if_pos h1]
    refine ⟨fun _ => ?_, fun _ => ⟨_, rfl⟩⟩
    rw [if_pos (by omega)]
    omega
  · rw [if_neg h1]
    by_cases h2 : a = b + r.1 ∧ a ≤ n
    · rw [if_pos h2]
      refine ⟨fun _ => ?_, fun _ => ⟨_, rfl⟩⟩
      rw [if_neg (by omega)]
      omega
    · rw [if_neg h2]
      refine ⟨fun ⟨c, h⟩ => (by cases h), fun h => ?_⟩
      split at h <;> omega
theorem rstep_val {n : Nat} {r : Rule} {a b : Nat} {c : Int} (hr : 1 ≤ r.1) (h : rstep n r a b = some c) : c = if (a : Int) < b then (r.2.1 : Int) else 0 - (r.2.2 : Int) := by
  unfold rstep at h
  split at h
  · rw [if_pos (by omega)]
    exact (Option.some.inj h).symm
  · split at h
    · rw [if_neg (by omega)]
      have := Option.some.inj h
      omega
    · cases h
theorem base_far {ts : List (Option Int)} {a b : Nat} (ha : a ≤ ts.length) (hb : b ≤ ts.length) : (∃ c, K5.base ts a b = some c) ↔ (if (a : Int) - b < 0 then -((a : Int) - b) else (a : Int) - b) = 1 := by
  unfold K5.base
  by_cases h1 : b = a + 1 ∧ a < ts.length
  · rw [if_pos h1]
    refine ⟨fun _ => ?_, fun _ => ⟨_, rfl⟩⟩
    rw [if_pos (by omega)]
    omega
  · rw [if_neg h1]
    by_cases h2 : a = b + 1 ∧ b < ts.length
    · rw [if_pos h2]
      refine ⟨fun _ => ?_, fun _ => ⟨_, rfl⟩⟩
      rw [if_neg (by omega)]
      omega
    · rw [if_neg h2]
      refine ⟨fun ⟨c, h⟩ => (by cases h), fun h => ?_⟩
      split at h <;> omega
/-- the lower end of a step of one place, and what it gains -/
theorem base_val {ts : List (Option Int)} {a b : Nat} {c : Int} (h : K5.base ts a b = some c) : ∃ (l : Nat) (o : Option Int), ts[l]? = some o ∧ (if (b : Int) < (a : Int) then (b : Int) else (a : Int)) = (l : Int) ∧
    c = if (a : Int) < b then (if o = some 1 then 1 else 0) else (if o = some 0 then 1 else 0) - 1 := by
  unfold K5.base at h
  split at h
  · rename_i h1
    obtain ⟨o, eo, _⟩ := lt_at h1.2
    refine ⟨a, o, eo, by rw [if_neg (by omega)], ?_⟩
    rw [if_pos (show (a : Int) < b by omega)]
    rw [eo] at h
    have := Option.some.inj h
    rw [← this]
    by_cases z : o = some 1
    · rw [if_pos z, if_pos (by rw [z])]
    · rw [if_neg z, if_neg (fun e => z (Option.some.inj e))]
  · split at h
    · rename_i h1 h2
      obtain ⟨o, eo, _⟩ := lt_at h2.2
      refine ⟨b, o, eo, by rw [if_pos (by omega)], ?_⟩
      rw [if_neg (show ¬ (a : Int) < b by omega)]
      rw [eo] at h
      have := Option.some.inj h
      rw [← this]
      by_cases z : o = some 0
      · rw [if_pos z, if_pos (by rw [z])]
        rfl
      · rw [if_neg z, if_neg (fun e => z (Option.some.inj e))]
        rfl
    · cases h
theorem neq_nil {K : PySem.W.Frag} {H : Hp} {D e : Addr} {xs : List V} {ds : List PyData} {Q : VK} (hD : H D = some (.lst xs)) (he : H e = some (.lst [])) (h1 : DpAll K H xs ds) (h2 : ds.length = xs.length) (h3 : PyData.canLayAll0 ds = true) (h4 : PyData.depthAll ds ≤ 1)
    (q : Q (.bl (!decide (xs.length = 0))) H) : rNeD K (.ref D) (.ref e) H Q := by
  refine ⟨.list ds, .list [], .lst (.of hD) h1, .lst (.of he) .nil, shaped_list h3 (by omega), rfl, ?_⟩
  rw [eqv_nil, h2]
  exact q
theorem dp_fl {K : PySem.W.Frag} {H : Hp} : ∀ ys : List V, (∀ y ∈ ys, Fl y) → ∃ ds, DpAll K H ys ds ∧ ds.length = ys.length ∧ PyData.canLayAll0 ds = true ∧ PyData.depthAll ds ≤ 1
  | [], _ => ⟨[], .nil, rfl, rfl, Nat.zero_le _⟩
  | y :: ys, h => by
    obtain ⟨ds, h1, h2, h3, h4⟩ := dp_fl ys fun z hz => h z (List.mem_cons_of_mem _ hz)
    have : ∃ d, Dp K H y d ∧ PyData.canLay0 d = true ∧ PyData.depth d = 0 := by
      cases h y List.mem_cons_self with
      | non => exact ⟨_, .non, rfl, rfl⟩
      | bl b => exact ⟨_, .bl b, rfl, rfl⟩
      | int i => exact ⟨_, .int i, rfl, rfl⟩
      | str x hx => exact ⟨_, .str x, hx, rfl⟩
    obtain ⟨d, g1, g2, g3⟩ := this
    refine ⟨d :: ds, .cons g1 h1, by rw [List.length_cons, List.length_cons, h2], ?_, ?_⟩
    · show (PyData.canLay0 d && PyData.canLayAll0 ds) = true
      rw [g2, h3]
      rfl
    · show max (PyData.depth d) (PyData.depthAll ds) ≤ 1
      rw [g3]
      omega
/-- least if one < other else 0 - most -/
def tLeast : TE := fun σ H Q => ∃ x y l m : Int, σ[2]? = some (some (.int x)) ∧ σ[3]? = some (some (.int y)) ∧ σ[8]? = some (some (.int l)) ∧ σ[9]? = some (some (.int m)) ∧ Q (.int (if x < y then l else 0 - m)) H
/-- what the place gains -/
def tPlace : TE := fun σ H Q => ∃ (x y : Int) (o : Option Int), σ[2]? = some (some (.int x)) ∧ σ[3]? = some (some (.int y)) ∧ σ[10]? = some (some (toV o)) ∧ Q (.int (if x < y then (if o = some 1 then 1 else 0) else (if o = some 0 then 1 else 0) - 1)) H
def tOneOff : TS := fun D σ H => ∃ (a b o : Addr) (x y : Nat) (ts : List (Option Int)) (cs : List Int) (far low : Int) (y7 y8 y9 y10 : Option V), σ = [some (.ref a), some (.ref b), some (.int x), some (.int y), some (.int far), some (.int low), some (.ref o), y7, y8, y9, y10] ∧
  far = (if (x : Int) - y < 0 then -((x : Int) - y) else (x : Int) - y) ∧ low = (if (y : Int) < (x : Int) then (y : Int) else (x : Int)) ∧ H b = some (.tup (ts.map toV)) ∧ H o = some (.lst (cs.map V.int)) ∧ x ≤ ts.length ∧ y ≤ ts.length ∧ cs.length ≤ 10 ∧
  ∀ H2 (cs2 : List Int) (z : Option V), H2 o = some (.lst (cs2.map V.int)) → (∀ G, G o = none → Same G H → Same G H2) → (∀ c, c ∈ cs2 ↔ c ∈ cs ∨ K5.base ts x y = some c) → cs2.length ≤ 11 →
    D.nx [some (.ref a), some (.ref b), some (.int x), some (.int y), some (.int far), some (.int low), some (.ref o), y7, y8, y9, z] H2
section
variable {P : Program} {w : World} {K : PySem.W.Frag} {mg : Str → Option Value} {base : Heap}
abbrev s_law_gain : Stmt := topS 44
theorem sc_law_gain : FnScope ["rules", "told", "one", "other", "far", "low", "some", "span", "least", "most", "place"] ["rules", "told", "one", "other"] (defScope s_law_gain) := ⟨rfl, rfl, rfl, by decide +kernel, rfl, by decide +kernel, by decide +kernel⟩
def spLG : Sp := fun vs H Q _ => ∃ (a b : Addr) (x y : Nat) (rs : List Rule) (ts : List (Option Int)), vs = [.ref a, .ref b, .int x, .int y] ∧ RulesAt H a rs ∧ RulesOk rs ∧ ToldAt H b ts ∧ x ≤ ts.length ∧ y ≤ ts.length ∧
  ∀ H', Same H H' → Q (toV (gainOf rs ts x y)) H'
theorem ok_law_gain (B : Bu mg) (D : Df K mg "_law_gain" s_law_gain ["rules", "told", "one", "other"]) : Cl P w K mg base 1 "_law_gain" spLG := by
  refine D.cl sc_law_gain (fun vs H Q E h => ?_) fun f cdv A outer s H vs Q E hr h => ?_
  · obtain ⟨a, b, x, y, rs, ts, rfl, _⟩ := h
    rfl
  · obtain ⟨a, b, x, y, rs, ts, rfl, ⟨as, hl, ha, hrs⟩, ho, hT, hx, hy, q⟩ := h
    have hfew := ho.few
    have hT : H b = some (.tup (ts.map toV)) := hT
    refine ⟨_, (pss_cons (ps_par (i := 4) (j := 5) rfl sc_law_gain.nd rfl rfl (by decide) rfl rfl (pa_cons (pe_callB call_abs (by rfl) B.abs (by decide +kernel) (pa_cons (pe_op op_sub (pv 2) (pv 3)) pa_nil)) (pa_cons (pe_callB (call_min2 rfl) (by rfl) B.min (by decide +kernel) (pa_cons (pv 2) (pa_cons (pv 3) pa_nil))) pa_nil)) rfl)
      (pss_cons (ps_set (i := 6) sc_law_gain.nd rfl (Or.inl rfl) (pe_lst pa_nil))
      (pss_cons (ps_for PassesOwn.never rfl (pi_tup (pv 0)) (pg_tup rfl (pgs_cons (pg_name (i := 7) sc_law_gain.nd rfl (Or.inl rfl)) (pgs_cons (pg_name (i := 8) sc_law_gain.nd rfl (Or.inl rfl)) (pgs_cons (pg_name (i := 9) sc_law_gain.nd rfl (Or.inl rfl)) pgs_nil))))
        (pss_one (ps_if (pt_cmpR op_eq (pv 7) (pv 4) (nomark _))
          (pss_one (ps_expr (pe_bm PySem.F.plainAttrs_list PySem.F.slot_list_append PySem.F.type_list_append mt_append (pv 6) (pa_cons (PE.imp (t' := tLeast) (pe_ifExp (pt_cmpR op_lt (pv 2) (pv 3) (nomark _)) (pv 8) (pe_op op_sub pe_int (pv 9))) ?least) pa_nil))))
          pss_nil)))
      (pss_cons (PS.imp (t' := tOneOff) (ps_if (pt_cmpR op_eq (pv 4) pe_int (nomark _))
        (pss_cons (ps_set (i := 10) sc_law_gain.nd rfl (Or.inl rfl) (pe_ix ix_tup (pv 1) (pv 5) (fun _ _ => rfl)))
        (pss_one (ps_expr (pe_bm PySem.F.plainAttrs_list PySem.F.slot_list_append PySem.F.type_list_append mt_append (pv 6) (pa_cons (PE.imp (t' := tPlace) (pe_ifExp (pt_cmpR op_lt (pv 2) (pv 3) (nomark _)) (PE.imp (t' := tIntIs 10 1) (pe_callTy call_int1 (by rfl) B.int (by decide +kernel) (pa_cons (pe_cmpR op_eq (pv 10) pe_int (nomark _)) pa_nil)) intIs_imp) (pe_op op_sub (PE.imp (t' := tIntIs 10 0) (pe_callTy call_int1 (by rfl) B.int (by decide +kernel) (pa_cons (pe_cmpR op_eq (pv 10) pe_int (nomark _)) pa_nil)) intIs_imp) pe_int)) ?place) pa_nil)))))
        pss_nil) ?off)
      (pss_one (ps_ret (pe_ifExp (pt_cmpR (op_neD hr.units) (pv 6) (pe_lst pa_nil) (nomark _)) (pe_callB (cr_max rfl) (by rfl) B.max (by decide +kernel) (pa_cons (pv 6) pa_nil)) pe_non))))))), ?_⟩
    case least =>
      intro σ H Q ⟨x, y, l, m, h1, h2, h3, h4, q⟩
      refine ⟨_, h1, _, h2, _, _, rfl, rfl, _, rfl, ?_⟩
      by_cases z : x < y
      · rw [if_pos z] at q
        exact teT (decide_eq_true z) ⟨_, h3, q⟩
      · rw [if_neg z] at q
        exact teF (decide_eq_false z) ⟨_, h4, _, _, rfl, rfl, q⟩
    case place =>
      intro σ H Q ⟨x, y, o, h1, h2, h3, q⟩
      refine ⟨_, h1, _, h2, _, _, rfl, rfl, _, rfl, ?_⟩
      by_cases z : x < y
      · rw [if_pos z] at q
        exact teT (decide_eq_true z) ⟨o, h3, q⟩
      · rw [if_neg z] at q
        exact teF (decide_eq_false z) ⟨o, h3, _, _, rfl, rfl, q⟩
    case off =>
      intro D σ H ⟨a, b, o, x, y, ts, cs, far, low, y7, y8, y9, y10, e, efar, elow, hb, ho, hx, hy, hcl, k⟩
      subst e
      have hbf := base_far hx hy
      rw [← efar] at hbf
      refine ⟨_, rfl, rfl, _, rfl, ite2 (fun z => ?_) fun z => ?_⟩
      · have z : far = 1 := V.int.inj (of_decide_eq_true z)
        obtain ⟨c, hc⟩ := hbf.mpr z
        obtain ⟨l, oo, eo, el, ec⟩ := base_val hc
        rw [← elow] at el
        subst el
        have hat : atI (ts.map toV) (l : Int) = some (toV oo) := atI_nat (map_at eo)
        refine ⟨_, rfl, _, rfl, b, _, _, _, rfl, rfl, .of hb, hat, ?_⟩
        refine ⟨_, rfl, .inl ⟨rfl, _, .of ho⟩, (x : Int), (y : Int), oo, rfl, rfl, rfl, o, _, _, rfl, rfl, ho, by rw [List.length_map]; exact small1000 (by omega), ?_⟩
        rw [← ec]
        refine k _ (cs ++ [c]) _ (by rw [upd_same, List.map_append]; rfl) (fun G nG sG => sG.lst nG) (fun c' => ?_) (by rw [List.length_append]; show _ + 1 ≤ _; omega)
        rw [List.mem_append, List.mem_singleton, hc]
        constructor
        · rintro (h | h)
          · exact .inl h
          · exact .inr (by rw [h])
        · rintro (h | h)
          · exact .inl h
          · exact .inr (Option.some.inj h).symm
      · have z : ¬ far = 1 := fun q => z (decide_eq_true (by rw [q]))
        refine k H cs _ ho (fun G _ sG => sG) (fun c' => ⟨.inl, fun h => h.elim id fun h => absurd (hbf.mp ⟨c', h⟩) z⟩) (by omega)
    refine ⟨_, rfl, _, rfl, _, _, rfl, rfl, _, rfl, _, rfl, _, rfl, _, _, rfl, _, _, rfl, ?_⟩
    refine ⟨Nat.zero_le _, fun o no => ?_⟩
    refine ⟨_, rfl, a, rfl, ⟨_, .of (same_upd no _ _ ha)⟩, ?_⟩
    refine for_it (walk_tupN (n := rs.length) (xs := as.map V.ref) (by rw [List.length_map, hl])) (fun i σ H3 => Same H H3 ∧ ∃ cs : List Int, H3 o = some (.lst (cs.map V.int)) ∧ (∀ c, c ∈ cs ↔ ∃ r ∈ rs.take i, rstep ts.length r x y = some c) ∧ cs.length ≤ i ∧
        ∃ y7 y8 y9 y10, σ = [some (.ref a), some (.ref b), some (.int x), some (.int y), some (.int (if (x : Int) - y < 0 then -((x : Int) - y) else (x : Int) - y)), some (.int (if (y : Int) < (x : Int) then (y : Int) else (x : Int))), some (.ref o), y7, y8, y9, y10])
      ⟨same_upd no, [], upd_same, fun c => ⟨fun h => (by cases h), fun ⟨r, h, _⟩ => (by cases h)⟩, Nat.le_refl 0, _, _, _, _, rfl⟩ (fun i σ H3 _ hP => .of (hP.1 _ _ ha)) (fun i z σ H3 H4 hi hP hx' => ?_) fun σ H3 hP => ?_
    · obtain ⟨s3, cs, h3o, hcs, hcl, y7, y8, y9, y10, rfl⟩ := hP
      obtain ⟨rfl, hx'⟩ := hx'
      obtain ⟨b1, r, rfl, eb, er, hm⟩ := rule_at hl hx'
      have hr1 : 1 ≤ r.1 := (ho.each r hm).1
      have hfar := rstep_far (n := ts.length) hx hy hr1
      refine ⟨b1, ruV r, rfl, .of (s3 _ _ (hrs i b1 r eb er)), rfl, _, _, rfl, _, _, rfl, _, _, rfl, rfl, ?_⟩
      refine ⟨_, rfl, _, rfl, rfl, _, rfl, ite2 (fun z => ?_) fun z => ?_⟩
      · obtain ⟨c, hc⟩ := hfar.mpr (V.int.inj (of_decide_eq_true z))
        have hv := rstep_val hr1 hc
        refine ⟨_, rfl, .inl ⟨rfl, _, .of h3o⟩, (x : Int), (y : Int), (r.2.1 : Int), (r.2.2 : Int), rfl, rfl, rfl, rfl, o, _, _, rfl, rfl, h3o, by rw [List.length_map]; exact small1000 (by omega), ?_⟩
        rw [← hv]
        refine ⟨s3.lst no, cs ++ [c], by rw [upd_same, List.map_append]; rfl, fun c' => ?_, by rw [List.length_append]; show _ + 1 ≤ _; omega, _, _, _, _, rfl⟩
        rw [List.mem_append, List.mem_singleton, hcs, List.take_add_one, er]
        constructor
        · rintro (⟨r', h1, h2⟩ | rfl)
          · exact ⟨r', List.mem_append.mpr (.inl h1), h2⟩
          · exact ⟨r, List.mem_append.mpr (.inr (List.mem_singleton.mpr rfl)), hc⟩
        · rintro ⟨r', h1, h2⟩
          rcases List.mem_append.mp h1 with h1 | h1
          · exact .inl ⟨r', h1, h2⟩
          · rw [List.mem_singleton.mp h1, hc] at h2
            exact .inr (Option.some.inj h2).symm
      · refine ⟨s3, cs, h3o, fun c' => ?_, by omega, _, _, _, _, rfl⟩
        rw [hcs, List.take_add_one, er]
        constructor
        · rintro ⟨r', h1, h2⟩
          exact ⟨r', List.mem_append.mpr (.inl h1), h2⟩
        · rintro ⟨r', h1, h2⟩
          rcases List.mem_append.mp h1 with h1 | h1
          · exact ⟨r', h1, h2⟩
          · rw [List.mem_singleton.mp h1] at h2
            exact absurd (decide_eq_true (congrArg V.int (hfar.mp ⟨c', h2⟩))) z
    · obtain ⟨s3, cs, h3o, hcs, hcl, y7, y8, y9, y10, rfl⟩ := hP
      rw [List.take_of_length_le (Nat.le_refl _)] at hcs
      refine ⟨a, b, o, x, y, ts, cs, _, _, _, _, _, _, rfl, rfl, rfl, s3 _ _ hT, h3o, hx, hy, by omega, fun H4 cs2 zz h4o hG hc2 hl2 => ?_⟩
      have s4 : Same H H4 := hG H no s3
      have hcand : ∀ c, c ∈ cs2 ↔ Cand rs ts x y c := fun c => by
        rw [hc2, hcs]
        exact ⟨fun h => h.elim .inr .inl, fun h => h.elim .inr .inl⟩
      refine ⟨_, rfl, Nat.zero_le _, fun e ne => ?_⟩
      have s5 := same_upd (o := .lst []) ne
      have h5o := s5 _ _ h4o
      refine neq_nil h5o upd_same (dp_ints cs2) (by rw [List.length_map, List.length_map]) (lay_ints cs2).1 (by rw [(lay_ints cs2).2]; exact Nat.zero_le _) ?_
      refine ⟨_, rfl, ?_⟩
      rw [List.length_map]
      by_cases z : cs2.length = 0
      · refine teF (by rw [decide_eq_true z]; rfl) ?_
        have hn : gainOf rs ts x y = none := gain_no fun c hc => by
          have := (hcand c).mpr hc
          rw [List.length_eq_zero_iff.mp z] at this
          cases this
        rw [hn] at q
        exact q _ (s4.trans s5)
      · refine teT (by rw [decide_eq_false z]; rfl) ?_
        refine ⟨_, rfl, o, cs2, rfl, .of h5o, by omega, fun m hm hmx => ?_⟩
        rw [gain_max hcand hm hmx] at q
        exact q _ (s4.trans s5)
end
end K5
end
section
set_option Elab.async false
set_option linter.all false
set_option maxRecDepth 100000
set_option maxHeartbeats 4000000
/-! Walks of the law, 7: what a chain gains, step by step; whether the marks are right. -/
namespace K5
open PySem PySem.Spec PyProof.Rows L2
theorem chainB_filter (n : Nat) (xs : List V) : chainB n xs = decide ((xs.filter fun x => !isFrom x 0 n).length = 0) := by
  unfold chainB
  induction xs with
  | nil => rfl
  | cons x r ih =>
    rw [List.all_cons, List.filter_cons, ih]
    cases h : isFrom x 0 n with
    | true => rfl
    | false => rfl
theorem seam_bad (x : V) (n : Nat) : isFrom x 0 n = false → (∃ i, x = .int i ∧ (decide ((0 : Int) ≤ i) && decide (i ≤ (n : Int))) = false) ∨ isWhole x = false := fun h => by
  cases x with
  | int i => exact .inl ⟨i, rfl, h⟩
  | _ => exact .inr rfl
theorem inV_none : ∀ l : List (Option Int), inV .non (l.map toV) = !(l.all Option.isSome)
  | [] => rfl
  | o :: l => by
    have ih := inV_none l
    unfold inV at ih ⊢
    rw [List.map_cons, List.any_cons, List.all_cons, ih]
    cases o <;> rfl
theorem flat_toV (l : List (Option Int)) : (l.map toV).all flatV = true := by
  rw [List.all_map, List.all_eq_true]
  intro o _
  cases o <;> rfl
section
variable {P : Program} {w : World} {K : PySem.W.Frag} {mg : Str → Option Value} {base : Heap}
abbrev s_law_gains : Stmt := topS 45
theorem sc_law_gains : FnScope ["rules", "told", "thing", "seam", "some", "one", "other"] ["rules", "told", "thing"] (defScope s_law_gains) := ⟨rfl, rfl, rfl, by decide +kernel, rfl, by decide +kernel, by decide +kernel⟩
def spLGs : Sp := fun vs H Q _ => ∃ (a b : Addr) (x : V) (o : Option (List V)) (rs : List Rule) (ts : List (Option Int)), vs = [.ref a, .ref b, x] ∧ RulesAt H a rs ∧ RulesOk rs ∧ ToldAt H b ts ∧ ToldOk ts ∧ Tg H x o ∧
  ∀ H', Same H H' → Q (toV (gainO rs ts o)) H'
theorem ok_law_gains (B : Bu mg) (D : Df K mg "_law_gains" s_law_gains ["rules", "told", "thing"]) (c_law_whole : Cl P w K mg base 1 "_law_whole" spWhole) (c_law_gain : Cl P w K mg base 1 "_law_gain" spLG) : Cl P w K mg base 2 "_law_gains" spLGs := by
  refine D.cl sc_law_gains (fun vs H Q E h => ?_) fun f cdv A outer s H vs Q E hr h => ?_
  · obtain ⟨a, b, x, o, rs, ts, rfl, _⟩ := h
    rfl
  · obtain ⟨a, b, x, o, rs, ts, rfl, hR, ho, hT, hto, hx, q⟩ := h
    have hfew := hto.few
    have hT : H b = some (.tup (ts.map toV)) := hT
    refine ⟨_, (pss_cons (ps_if (PW.pt (pw_or (pt_not (pt_val (pe_isi B (pv 2) (pe_tList B)))) (pw_or1 (pt_cmpR op_lt (pe_callB call_len_seq (by rfl) B.len PySem.boot_len (pa_cons (pv 2) pa_nil)) pe_int (nomark _)))))
        (pss_one (ps_ret pe_non))
        pss_nil)
      (pss_cons (ps_if (pt_cmpR (op_neD hr.units) (pe_lc (own := [("seam", 3)]) (g := gName 3) rfl sc_law_gains.nd (pi_list (pv 2)) (blkOk_by (N := ["rules", "told", "thing", "seam", "some", "one", "other"]) (sc := defScope s_law_gains) (by decide +kernel)) (fun _ _ _ _ _ => pg_name (i := 3) sc_law_gains.nd rfl (.inl rfl)) (fun _ _ _ _ _ => pts_one (PW.pt (pw_or (pt_not (pt_val (pe_cl c_law_whole hr (by decide) (by rfl) (pa_cons (pv 3) pa_nil)))) (pw_or1 (pt_not (pt_chain op_le op_le pe_int (pv 3) (pe_callB (call_len_seqK (K := K) rfl) (by rfl) B.len PySem.boot_len (pa_cons (pv 1) pa_nil)))))))) (fun _ _ _ _ _ => (pv 3))) (pe_lst pa_nil) (nomark _))
        (pss_one (ps_ret pe_non))
        pss_nil)
      (pss_cons (ps_setLc (i := 4) (own := [("one", 5), ("other", 6)]) (g := gTup K 2 (gCons (gName 5) (gCons (gName 6) gNil))) (tt := tYes) rfl sc_law_gains.nd rfl rfl (sw_true rfl rfl rfl (by decide +kernel)) (RZ.pi_zipA (by rfl) B.zip (pa_cons (pv 2) (pa_cons (pe_slice sl_list (pv 2) (po_some pe_int) po_none) pa_nil))) (blkOk_by (N := ["rules", "told", "thing", "seam", "some", "one", "other"]) (sc := defScope s_law_gains) (by decide +kernel)) (fun _ _ _ _ _ => (pg_tup rfl (pgs_cons (pg_name (i := 5) sc_law_gains.nd rfl (.inl rfl)) (pgs_cons (pg_name (i := 6) sc_law_gains.nd rfl (.inl rfl)) pgs_nil)))) (fun _ _ _ _ _ => pts_nil) (fun _ _ _ _ _ => (pe_cl c_law_gain hr (by decide) (by rfl) (pa_cons (pv 0) (pa_cons (pv 1) (pa_cons (pv 5) (pa_cons (pv 6) pa_nil)))))))
      (pss_one (ps_ret (pe_ifExp (pt_cmpR op_in_seq pe_non (pv 4) rfl) pe_non (pe_callB (cr_sum rfl) (by rfl) B.sum (by decide +kernel) (pa_cons (pv 4) pa_nil)))))))), ?_⟩
    cases hx with
    | no h n =>
      refine ⟨x, rfl, x, _, "list", rfl, by decide, h, _, rfl, ?_⟩
      rw [isK_list h n]
      exact iteT (q _ (Same.refl H))
    | @lst c xs hc f l =>
      refine ⟨_, rfl, _, _, "list", rfl, by decide, .lst hc, _, rfl, iteF ?_⟩
      refine ⟨_, rfl, c, _, rfl, .inl (.of hc), _, _, rfl, rfl, _, rfl, ?_⟩
      by_cases hlt : xs.length < 2
      · have eg : gainO rs ts (some xs) = none := by
          show gainT rs ts xs = none
          unfold gainT
          rw [if_neg (by omega)]
        rw [eg] at q
        exact teT (decide_eq_true (by show (xs.length : Int) < 2; omega)) (q _ (Same.refl H))
      refine teF (decide_eq_false (by show ¬ (xs.length : Int) < 2; omega)) ?_
      refine ⟨_, rfl, c, rfl, ⟨_, .of hc⟩, fun D1 nD1 => ?_⟩
      refine lc_it (walk_listN (n := xs.length) (xs := xs) rfl) (fun i H3 => Same H H3 ∧ H3 D1 = some (.lst ((xs.take i).filter fun x => !isFrom x 0 ts.length))) ⟨same_upd nD1, upd_same⟩ (fun i H3 _ hP => .of (hP.1 _ _ hc)) (fun i x H3 H4 hi hP hx => ?_) fun H3 hP => ?_
      · obtain ⟨s3, h3D⟩ := hP
        obtain ⟨rfl, hx⟩ := hx
        obtain ⟨U, hU⟩ := (f x (List.mem_of_getElem? hx)).th (H := H4)
        have step : (xs.take (i + 1)).filter (fun x => !isFrom x 0 ts.length) = (xs.take i).filter (fun x => !isFrom x 0 ts.length) ++ (if isFrom x 0 ts.length = true then [] else [x]) := by
          rw [List.take_add_one, hx, List.filter_append]
          cases z : isFrom x 0 ts.length <;> simp [z]
        have lenok : ((xs.take i).filter fun x => !isFrom x 0 ts.length).length < sizeLine := small1000 (Nat.le_trans (List.length_filter_le _ _) (by rw [List.length_take]; omega))
        have yes : isFrom x 0 ts.length = false → ∃ acc, H4 D1 = some (.lst acc) ∧ acc.length < sizeLine ∧ Same H (upd H4 D1 (.lst (acc ++ [x]))) ∧ (upd H4 D1 (.lst (acc ++ [x]))) D1 = some (.lst ((xs.take (i + 1)).filter fun x => !isFrom x 0 ts.length)) := fun z =>
          ⟨_, h3D, lenok, s3.lst nD1, by rw [upd_same, step, z]; rfl⟩
        have no : isFrom x 0 ts.length = true → Same H H4 ∧ H4 D1 = some (.lst ((xs.take (i + 1)).filter fun x => !isFrom x 0 ts.length)) := fun z =>
          ⟨s3, by rw [h3D, step, z, if_pos rfl, List.append_nil]⟩
        refine ⟨rfl, _, rfl, x, U, rfl, hU, _, rfl, ?_⟩
        cases x with
        | int j =>
          refine iteF ⟨_, rfl, _, _, rfl, rfl, _, rfl, ?_⟩
          by_cases z0 : (0 : Int) ≤ j
          · refine teT (decide_eq_true z0) ⟨_, rfl, b, _, rfl, .inr (.of (s3 _ _ hT)), _, _, rfl, rfl, _, rfl, ?_⟩
            by_cases z1 : j ≤ (((ts.map toV).length : Nat) : Int)
            · refine teF (by rw [decide_eq_true z1]; rfl) ?_
              rw [List.length_map] at z1
              exact no (isFrom_int z0 z1)
            · refine teT (by rw [decide_eq_false z1]; rfl) ?_
              rw [List.length_map] at z1
              refine ⟨_, rfl, yes ?_⟩
              show (decide ((0 : Int) ≤ j) && decide (j ≤ (ts.length : Int))) = false
              rw [decide_eq_false z1, Bool.and_false]
          · refine teF (decide_eq_false z0) ⟨_, rfl, iteT ⟨_, rfl, yes ?_⟩⟩
            show (decide ((0 : Int) ≤ j) && decide (j ≤ (ts.length : Int))) = false
            rw [decide_eq_false z0, Bool.false_and]
        | non => exact iteT (iteT ⟨_, rfl, yes rfl⟩)
        | bl k => exact iteT (iteT ⟨_, rfl, yes rfl⟩)
        | str k => exact iteT (iteT ⟨_, rfl, yes rfl⟩)
        | byt k => exact iteT (iteT ⟨_, rfl, yes rfl⟩)
        | flt k => exact iteT (iteT ⟨_, rfl, yes rfl⟩)
        | ref k => exact iteT (iteT ⟨_, rfl, yes rfl⟩)
        | ty k => exact iteT (iteT ⟨_, rfl, yes rfl⟩)
      obtain ⟨s3, h3D⟩ := hP
      rw [List.take_of_length_le (Nat.le_refl _)] at h3D
      refine ⟨Nat.zero_le _, fun e ne => ?_⟩
      have s4 := same_upd (o := .lst []) ne
      obtain ⟨ds, g1, g2, g3, g4⟩ := dp_fl (K := K) (H := upd H3 e (.lst [])) (xs.filter fun x => !isFrom x 0 ts.length) fun y hy => f y (List.mem_filter.mp hy).1
      refine neq_nil (s4 _ _ h3D) upd_same g1 g2 g3 g4 ?_
      have s34 := s3.trans s4
      refine ⟨_, rfl, ?_⟩
      have hcf := chainB_filter ts.length xs
      cases hch : chainB ts.length xs with
      | false =>
        rw [hch] at hcf
        have eg : gainO rs ts (some xs) = none := by
          show gainT rs ts xs = none
          unfold gainT
          rw [hch, if_neg (by intro z; cases z.2)]
        rw [eg] at q
        exact teT (by rw [← hcf]; rfl) (q _ s34)
      | true =>
        rw [hch] at hcf
        refine teF (by rw [← hcf]; rfl) ?_
        have eg : gainO rs ts (some xs) = gains rs ts (seams xs) := by
          show gainT rs ts xs = _
          unfold gainT
          rw [hch, if_pos ⟨by omega, rfl⟩]
        rw [eg] at q
        clear hcf h3D g1 g2
        obtain ⟨exs, hlim⟩ := chain_seams hch
        generalize seams xs = ns at q exs hlim
        subst exs
        rw [List.length_map] at l hlt
        have h4c := s34 _ _ hc
        refine ⟨_, rfl, _, rfl, 1, rfl, c, _, rfl, .of h4c, fun c2 nc2 => ?_⟩
        rw [cut1]
        have s5 := same_upd (o := .lst ((ns.map nV).drop 1)) nc2
        have s45 := s34.trans s5
        refine ⟨c, c2, _, _, rfl, .inl ⟨.of (s5 _ _ h4c), .of upd_same, fun D2 nD2 => ?_⟩⟩
        have hpl := prs_len ns
        have hzip := zip_nV ns
        refine lc_vals (walk_zip (n := (prs ns).length) (xs := ns.map nV) (ys := (ns.map nV).drop 1) (by rw [hpl, List.length_drop, List.length_map]; omega)) ((prs ns).map fun p => toV (gainOf rs ts p.1 p.2)) nD2 (by rw [List.length_map]) (sizeL (by omega)) (fun H' s' => ⟨.of (s' _ _ (s5 _ _ h4c)), .of (s' _ _ upd_same)⟩) (fun i x H5 H6 y k hy s6 hx hk => ?_) fun H5 s6 h5 => ?_
        · obtain ⟨T, x1, x2, rfl, nT, rfl, e1, e2⟩ := hx
          obtain ⟨p, ep, rfl⟩ := at_map hy
          have ez : ((ns.map nV).zip ((ns.map nV).drop 1))[i]? = some (x1, x2) := by
            rw [List.getElem?_zip_eq_some]
            exact ⟨e1, e2⟩
          rw [hzip] at ez
          obtain ⟨p', ep', e3⟩ := at_map ez
          rw [ep] at ep'
          cases ep'
          obtain ⟨e4, e5⟩ := Prod.mk.inj e3
          subst e4
          subst e5
          have hp : p.1 ≤ ts.length ∧ p.2 ≤ ts.length := by
            have hm : p ∈ prs ns := List.mem_of_getElem? ep
            obtain ⟨m1, m2⟩ := List.of_mem_zip (a := p.1) (b := p.2) hm
            exact ⟨hlim _ m1, hlim _ (List.mem_of_mem_drop m2)⟩
          have sT := same_upd (o := .tup [nV p.1, nV p.2]) nT
          refine ⟨T, [nV p.1, nV p.2], rfl, .of upd_same, rfl, _, _, rfl, _, _, rfl, rfl, rfl, ?_⟩
          exact ⟨_, rfl, _, rfl, _, rfl, _, rfl, a, b, p.1, p.2, rs, ts, rfl, hR.same ((s45.trans s6).trans sT), ho, (s6.trans sT) _ _ (s45 _ _ hT), hp.1, hp.2, fun H' s' => hk _ (Same.trans sT s')⟩
        have egz : gains rs ts ns = if ((prs ns).all fun p => (gainOf rs ts p.1 p.2).isSome) = true then some (((prs ns).map fun p => (gainOf rs ts p.1 p.2).getD 0).sum) else none := by
          cases ns with
          | nil => exact absurd (Nat.zero_lt_two) hlt
          | cons x r => exact gains_zip rs ts x r
        rw [egz] at q
        have e6 : ((prs ns).map fun p => toV (gainOf rs ts p.1 p.2)) = ((prs ns).map fun p => gainOf rs ts p.1 p.2).map toV := by rw [List.map_map]; rfl
        have e7 : ((prs ns).map fun p => gainOf rs ts p.1 p.2).all Option.isSome = (prs ns).all fun p => (gainOf rs ts p.1 p.2).isSome := by rw [List.all_map]; rfl
        rw [e6] at h5
        refine ⟨_, rfl, D2, _, rfl, .inl (.of h5), rfl, flat_toV _, _, rfl, ?_⟩
        have e8 := inV_none ((prs ns).map fun p => gainOf rs ts p.1 p.2)
        rw [e7] at e8
        by_cases hall : ((prs ns).all fun p => (gainOf rs ts p.1 p.2).isSome) = true
        · rw [if_pos hall] at q
          rw [hall] at e8
          refine teF e8 ?_
          have e9 : ((prs ns).map fun p => gainOf rs ts p.1 p.2).map toV = ((prs ns).map fun p => (gainOf rs ts p.1 p.2).getD 0).map V.int := by
            rw [List.map_map, List.map_map]
            refine List.map_congr_left fun p hp => ?_
            have := List.all_eq_true.mp hall p hp
            show toV (gainOf rs ts p.1 p.2) = V.int ((gainOf rs ts p.1 p.2).getD 0)
            cases z : gainOf rs ts p.1 p.2 with
            | none =>
              rw [z] at this
              cases this
            | some g => rfl
          rw [e9] at h5
          exact ⟨_, rfl, D2, _, rfl, .of h5, q _ (s45.trans s6)⟩
        · rw [if_neg hall] at q
          rw [Bool.eq_false_iff.mpr hall] at e8
          exact teT e8 (q _ (s45.trans s6))
end
end K5
end
section
set_option Elab.async false
set_option linter.all false
set_option maxRecDepth 100000
set_option maxHeartbeats 4000000
/-! Walks of the law, 8: whether the marks are right; drawn chains. -/
namespace K5
open PySem PySem.Spec PyProof.Rows L2
theorem at_head {ns : List Nat} {x : Nat} (h : ns.head? = some x) : atI (ns.map nV) 0 = some (.int (x : Int)) := by
  cases ns with
  | nil => cases h
  | cons y r =>
    have e : y = x := Option.some.inj h
    subst e
    exact atI_nat (j := 0) rfl
theorem atI_lastI {l : List Int} {x : Int} (e : l.getLast? = some x) : atI (l.map V.int) (-1) = some (.int x) := by
  obtain ⟨init, rfl⟩ : ∃ init, l = init ++ [x] := by
    cases l with
    | nil => cases e
    | cons y r =>
      refine ⟨(y :: r).dropLast, ?_⟩
      have h := List.dropLast_concat_getLast (List.cons_ne_nil y r)
      rw [List.getLast?_eq_getLast (List.cons_ne_nil y r)] at e
      rw [Option.some.inj e] at h
      exact h.symm
  rw [List.map_append]
  exact atI_last _ _
/-- the next seam of a drawn chain -/
def tNextSeam : TE := fun σ H Q => ∃ (o : Addr) (many : Nat) (th x : Int) (l : List Int), σ[2]? = some (some (.int many)) ∧ σ[3]? = some (some (.ref o)) ∧ σ[7]? = some (some (.int th)) ∧ H o = some (.lst (l.map V.int)) ∧ l.getLast? = some x ∧ 0 ≤ x ∧ x ≤ many ∧ ∀ z : Int, 0 ≤ z → z ≤ many → Q (.int z) H
def tAgain : TT := fun σ H Q => ∃ (o : Addr) (x f : Int) (l : List Int), σ[3]? = some (some (.ref o)) ∧ H o = some (.lst (l.map V.int)) ∧ l.getLast? = some x ∧ l[0]? = some f ∧ Q (!decide (x = f) || decide (l.length < 2)) H
def tNearer : TE := fun σ H Q => ∃ (o : Addr) (x f : Int) (l : List Int), σ[3]? = some (some (.ref o)) ∧ σ[8]? = some (some (.int x)) ∧ H o = some (.lst (l.map V.int)) ∧ l[0]? = some f ∧ Q (.int (if x < f ∨ x = 0 then x + 1 else x - 1)) H
section
variable {P : Program} {w : World} {K : PySem.W.Frag} {mg : Str → Option Value} {base : Heap}
abbrev s_law_marks_right : Stmt := topS 47
theorem sc_law_marks_right : FnScope ["rules", "told", "many", "few", "most", "first", "second"] ["rules", "told", "many"] (defScope s_law_marks_right) := ⟨rfl, rfl, rfl, by decide +kernel, rfl, by decide +kernel, by decide +kernel⟩
def spMR : Sp := fun vs H Q _ => ∃ (a b : Addr) (rs : List Rule) (ts : List (Option Int)), vs = [.ref a, .ref b, .int ts.length] ∧ RulesAt H a rs ∧ RulesOk rs ∧ ToldAt H b ts ∧ ToldOk ts ∧ Fillable rs ts ∧ ∀ H', Same H H' → Q (.bl true) H'
theorem ok_law_marks_right (B : Bu mg) (D : Df K mg "_law_marks_right" s_law_marks_right ["rules", "told", "many"]) (c_marks : Cl P w K mg base 6 "marks" spMarks) (c_mark_chains : Cl P w K mg base 6 "mark_chains" spMC) (c_law_gains : Cl P w K mg base 2 "_law_gains" spLGs) : Cl P w K mg base 7 "_law_marks_right" spMR := by
  refine D.cl sc_law_marks_right (fun vs H Q E h => ?_) fun f cdv A outer s H vs Q E hr h => ?_
  · obtain ⟨a, b, rs, ts, rfl, _⟩ := h
    rfl
  · obtain ⟨a, b, rs, ts, rfl, hR, ho, hT, hto, hf, q⟩ := h
    refine ⟨_, (pss_cons (ps_asg (pe_cl c_marks hr (by decide) (by rfl) (pa_cons (pv 0) (pa_cons (pv 1) pa_nil))) (pg_tup rfl (pgs_cons (pg_name (i := 3) sc_law_marks_right.nd rfl (Or.inl rfl)) (pgs_cons (pg_name (i := 4) sc_law_marks_right.nd rfl (Or.inl rfl)) pgs_nil))))
      (pss_cons (ps_asg (pe_cl c_mark_chains hr (by decide) (by rfl) (pa_cons (pv 0) (pa_cons (pv 1) pa_nil))) (pg_tup rfl (pgs_cons (pg_name (i := 5) sc_law_marks_right.nd rfl (Or.inl rfl)) (pgs_cons (pg_name (i := 6) sc_law_marks_right.nd rfl (Or.inl rfl)) pgs_nil))))
      (pss_cons (ps_if (pt_cmpR op_eq (pv 2) pe_int (nomark _))
        (pss_one (ps_ret (pe_cmpR (op_eqD hr.units) (pe_tup (pa_cons (pv 3) (pa_cons (pv 4) (pa_cons (pv 5) (pa_cons (pv 6) pa_nil))))) (pe_tup (pa_cons pe_int (pa_cons pe_int (pa_cons (pe_lst (pa_cons pe_int pa_nil)) (pa_cons (pe_lst (pa_cons pe_int pa_nil)) pa_nil))))) (nomark _))))
        pss_nil)
      (pss_cons (ps_if (pt_cmpR (op_neD hr.units) (pe_tup (pa_cons (pe_ix ix_list (pv 5) pe_int (fun _ _ => rfl)) (pa_cons (pe_ix ix_list (pv 5) (pe_un un_neg pe_int) (fun _ _ => rfl)) (pa_cons (pe_ix ix_list (pv 6) pe_int (fun _ _ => rfl)) (pa_cons (pe_ix ix_list (pv 6) (pe_un un_neg pe_int) (fun _ _ => rfl)) pa_nil))))) (pe_tup (pa_cons pe_int (pa_cons (pv 2) (pa_cons (pv 2) (pa_cons pe_int pa_nil))))) (nomark _))
        (pss_one (ps_ret pe_bl))
        pss_nil)
      (pss_one (ps_ret (pe_and (pe_cmpR op_eq (pe_cl c_law_gains hr (by decide) (by rfl) (pa_cons (pv 0) (pa_cons (pv 1) (pa_cons (pv 5) pa_nil)))) (pv 3) (nomark _)) (pe_one (pe_cmpR op_eq (pe_cl c_law_gains hr (by decide) (by rfl) (pa_cons (pv 0) (pa_cons (pv 1) (pa_cons (pv 6) pa_nil)))) (pe_op op_sub pe_int (pv 4)) (nomark _)))))))))), ?_⟩
    refine ⟨_, rfl, _, rfl, a, b, rs, ts, rfl, hR, ho, hT, hto, fun z => absurd hf z, fun _ H1 t1 d1 d2 m1 m2 s1 ht1 F1 F2 => ?_⟩
    refine ⟨t1, _, rfl, .of ht1, rfl, _, _, rfl, _, _, rfl, rfl, ?_⟩
    refine ⟨_, rfl, _, rfl, a, b, rs, ts, rfl, hR.same s1, ho, hT.same s1, hto, fun z => absurd hf z, fun _ H2 t2 e1 e2 n1 n2 p1 p2 s2 ht2 hp1 hp2 G1 G2 l1 l2 b1 b2 => ?_⟩
    have q1 := F1.same G1
    have q2 := F2.same G2
    subst q1
    subst q2
    refine ⟨t2, _, rfl, .of ht2, rfl, _, _, rfl, _, _, rfl, rfl, ?_⟩
    refine ⟨_, rfl, rfl, _, rfl, ite2 (fun z => ?_) fun z => ?_⟩
    · have hz : ((ts.length : Nat) : Int) = 0 := V.int.inj (of_decide_eq_true z)
      have hz' : 0 = ts.length := by omega
      obtain ⟨en1, ed1⟩ := G1.one hz'
      obtain ⟨en2, ed2⟩ := G2.one hz'.symm
      subst ed1
      subst ed2
      subst en1
      rw [← hz'] at en2
      subst en2
      refine ⟨_, rfl, _, rfl, _, rfl, _, rfl, by show 4 ≤ sizeLine; decide, fun u nu => ?_⟩
      refine ⟨by show 1 ≤ sizeLine; decide, fun l3 nl3 => ⟨by show 1 ≤ sizeLine; decide, fun l4 nl4 => ⟨by show 4 ≤ sizeLine; decide, fun u2 nu2 => ?_⟩⟩⟩
      have s3 := same_upd (o := .tup [.int 0, .int (-0), .ref p1, .ref p2]) nu
      have s4 := same_upd (o := .lst [.int 0]) nl3
      have s5 := same_upd (o := .lst [.int 0]) nl4
      have s6 := same_upd (o := .tup [.int 0, .int 0, .ref l3, .ref l4]) nu2
      have s36 := s3.trans (s4.trans (s5.trans s6))
      refine ⟨.tuple [.int 0, .int 0, .list [.int 0], .list [.int 0]], .tuple [.int 0, .int 0, .list [.int 0], .list [.int 0]], ?_, ?_, by decide, by decide, ?_⟩
      · exact .tup (.of ((s4.trans (s5.trans s6)) _ _ upd_same)) (.cons (.int _) (.cons (.int _) (.cons (.lst (.of (s36 _ _ hp1)) (dp_ints [0])) (.cons (.lst (.of (s36 _ _ hp2)) (dp_ints [0])) .nil))))
      · exact .tup (.of upd_same) (.cons (.int _) (.cons (.int _) (.cons (.lst (.of ((s5.trans s6) _ _ upd_same)) (dp_ints [0])) (.cons (.lst (.of (s6 _ _ upd_same)) (dp_ints [0])) .nil))))
      · exact q _ ((s1.trans s2).trans s36)
    · have hz : ts.length ≠ 0 := fun e => z (decide_eq_true (by rw [e]; rfl))
      refine ⟨_, rfl, p1, _, 0, _, rfl, rfl, .of hp1, at_head G1.head, _, rfl, 1, rfl, p1, _, -1, _, rfl, rfl, .of hp1, atI_way G1.last, _, rfl, p2, _, 0, _, rfl, rfl, .of hp2, at_head G2.head, _, rfl, 1, rfl, p2, _, -1, _, rfl, rfl, .of hp2, atI_way G2.last, by show 4 ≤ sizeLine; decide, fun u nu => ?_⟩
      refine ⟨_, rfl, _, rfl, by show 4 ≤ sizeLine; decide, fun u2 nu2 => ?_⟩
      have s3 := same_upd (o := .tup [.int (0 : Nat), .int (ts.length : Nat), .int (ts.length : Nat), .int (0 : Nat)]) nu
      have s4 := same_upd (o := .tup [.int 0, .int (ts.length : Nat), .int (ts.length : Nat), .int 0]) nu2
      have lay := lay_ints [0, (ts.length : Int), (ts.length : Int), 0]
      have shp : SeqAt.shaped (.tuple ([0, (ts.length : Int), (ts.length : Int), 0].map PyData.int)) = true := by
        show (PyData.canLayAll0 _ && decide (PyData.depthAll _ + 1 ≤ 64)) = true
        rw [lay.1, lay.2]
        rfl
      refine ⟨.tuple ([0, (ts.length : Int), (ts.length : Int), 0].map PyData.int), .tuple ([0, (ts.length : Int), (ts.length : Int), 0].map PyData.int), .tup (.of (s4 _ _ upd_same)) (dp_ints [0, (ts.length : Int), (ts.length : Int), 0]), .tup (.of upd_same) (dp_ints [0, (ts.length : Int), (ts.length : Int), 0]), shp, shp, _, rfl, ?_⟩
      have hrefl := SeqAt.eqv_refl (.tuple ([0, (ts.length : Int), (ts.length : Int), 0].map PyData.int)) lay.1
      rw [hrefl]
      refine iteF ?_
      have s34 := s3.trans s4
      have s14 := (s1.trans s2).trans s34
      have len2 : ∀ (ns : List Nat) (x y : Nat), ns.head? = some x → ns.getLast? = some y → x ≠ y → 2 ≤ ns.length := fun ns x y h1 h2 h3 => by
        cases ns with
        | nil => cases h1
        | cons z r =>
          cases r with
          | nil =>
            have e1 : z = x := Option.some.inj h1
            have e2 : z = y := Option.some.inj h2
            exact absurd (e1.symm.trans e2) h3
          | cons z2 r2 => show 2 ≤ r2.length + 1 + 1; omega
      have gg : ∀ (ns : List Nat) (x y : Nat) (g : Int), ns.head? = some x → ns.getLast? = some y → x ≠ y → (∀ z ∈ ns, z ≤ ts.length) → gains rs ts ns = some g → gainO rs ts (some (ns.map nV)) = some g := fun ns x y g h1 h2 h3 h4 h5 => by
        show gainT rs ts (ns.map nV) = some g
        unfold gainT
        rw [chainB_nV h4, List.length_map, if_pos ⟨len2 ns x y h1 h2 h3, rfl⟩, seams_nV, h5]
      have g1 := gg n1 _ _ _ G1.head G1.last (fun e => hz e.symm) b1 G1.has
      have g2 := gg n2 _ _ _ G2.head G2.last hz b2 G2.has
      refine ⟨_, rfl, _, rfl, _, rfl, a, b, .ref p1, some (n1.map nV), rs, ts, rfl, hR.same s14, ho, hT.same s14, hto, .lst (s34 _ _ hp1) fl_nV (by rw [List.length_map]; exact l1), fun H5 s5 => ?_⟩
      rw [g1]
      refine ⟨_, rfl, rfl, _, rfl, ?_⟩
      refine teT (decide_eq_true rfl) ?_
      refine ⟨_, rfl, _, rfl, _, rfl, a, b, .ref p2, some (n2.map nV), rs, ts, rfl, hR.same (s14.trans s5), ho, hT.same (s14.trans s5), hto, .lst (s5 _ _ (s34 _ _ hp2)) fl_nV (by rw [List.length_map]; exact l2), fun H6 s6 => ?_⟩
      rw [g2]
      refine ⟨_, rfl, _, _, rfl, rfl, rfl, ?_⟩
      refine qT (Q := Q) (decide_eq_true ?_) (q _ ((s14.trans s5).trans s6))
      show V.int d2 = V.int (0 - -d2)
      rw [show (0 : Int) - -d2 = d2 by omega]
end
end K5
end
section
set_option Elab.async false
set_option linter.all false
set_option maxRecDepth 100000
set_option maxHeartbeats 4000000
/-! Walks of the law, 9: drawn chains. -/
namespace K5
open PySem PySem.Spec PyProof.Rows L2
theorem last_snoc {A : Type} (l : List A) (x : A) : (l ++ [x]).getLast? = some x := List.getLast?_concat
theorem first_snoc {A : Type} {l : List A} {f : A} (x : A) (h : l[0]? = some f) : (l ++ [x])[0]? = some f := by
  rw [List.getElem?_append_left (at_lt h)]
  exact h
section
variable {P : Program} {w : World} {K : PySem.W.Frag} {mg : Str → Option Value} {base : Heap}
abbrev s_law_chain : Stmt := topS 46
theorem sc_law_chain : FnScope ["deck", "rules", "many", "found", "turn", "far", "rule", "there", "here"] ["deck", "rules", "many"] (defScope s_law_chain) := ⟨rfl, rfl, rfl, by decide +kernel, rfl, by decide +kernel, by decide +kernel⟩
def spLCh : Sp := fun vs H Q _ => ∃ (d a : Addr) (many n : Nat) (rs : List Rule) (G : Hp), vs = [.ref d, .ref a, .int many] ∧ RulesAt G a rs ∧ RulesOk rs ∧ View d G H n ∧ many ≤ 40 ∧ n ≤ 800000 ∧
  ∀ H' p (l : List Int), View d G H' (n + 30) → H' p = some (.lst (l.map V.int)) → l.length ≤ 200 → G p = none → p ≠ d → Q (.ref p) H'
theorem ok_law_chain (B : Bu mg) (D : Df K mg "_law_chain" s_law_chain ["deck", "rules", "many"]) (c_law_pick : Cl P w K mg base 1 "_law_pick" spPick) (c_law_one : Cl P w K mg base 2 "_law_one" spOne) : Cl P w K mg base 3 "_law_chain" spLCh := by
  refine D.cl sc_law_chain (fun vs H Q E h => ?_) fun f cdv A outer s H vs Q E hr h => ?_
  · obtain ⟨d, a, many, n, rs, G, rfl, _⟩ := h
    rfl
  · obtain ⟨d, a, many, n, rs, G, rfl, hR, ho, v, hmany, hn, q⟩ := h
    have hfew := ho.few
    refine ⟨_, (pss_cons (ps_set (i := 3) sc_law_chain.nd rfl (Or.inl rfl) (pe_lst (pa_cons (pe_cl c_law_pick hr (by decide) (by rfl) (pa_cons (pv 0) (pa_cons (pe_op op_add (pv 2) pe_int) pa_nil))) pa_nil)))
      (pss_cons (ps_for PassesOwn.never rfl (pi_range1 (by rfl) B.range (pa_cons (pe_cl c_law_pick hr (by decide) (by rfl) (pa_cons (pv 0) (pa_cons pe_int pa_nil))) pa_nil)) (pg_name (i := 4) sc_law_chain.nd rfl (Or.inl rfl))
        (pss_cons (ps_set (i := 5) sc_law_chain.nd rfl (Or.inl rfl) (pe_cl c_law_one hr (by decide) (by rfl) (pa_cons (pv 0) (pa_cons (pe_op op_catS (pe_lst (pa_cons pe_int (pa_cons pe_int pa_nil))) (pe_lc (own := [("rule", 6)]) (g := gName 6) (tt := tYes) rfl sc_law_chain.nd (pi_tup (pv 1)) (blkOk_by (N := ["deck", "rules", "many", "found", "turn", "far", "rule", "there", "here"]) (sc := defScope s_law_chain) (by decide +kernel)) (fun _ _ _ _ _ => pg_name (i := 6) sc_law_chain.nd rfl (.inl rfl)) (fun _ _ _ _ _ => pts_nil) (fun _ _ _ _ _ => (pe_ix (ix_tupK (K := K) rfl) (pv 6) pe_int (fun _ _ => rfl))))) pa_nil))))
        (pss_cons (ps_set (i := 7) sc_law_chain.nd rfl (Or.inl rfl) (pe_op op_add (pe_ix ix_list (pv 3) (pe_un un_neg pe_int) (fun _ _ => rfl)) (pe_op op_mul (pv 5) (pe_cl c_law_one hr (by decide) (by rfl) (pa_cons (pv 0) (pa_cons (pe_lst (pa_cons pe_int (pa_cons (pe_un un_neg pe_int) pa_nil))) pa_nil))))))
        (pss_one (ps_expr (pe_bm PySem.F.plainAttrs_list PySem.F.slot_list_append PySem.F.type_list_append mt_append (pv 3) (pa_cons (PE.imp (t' := tNextSeam) (pe_ifExp (pt_chain op_le op_le pe_int (pv 7) (pv 2)) (pv 7) (pe_ifExp (pt_cmpR op_lt (pe_ix ix_list (pv 3) (pe_un un_neg pe_int) (fun _ _ => rfl)) (pv 2) (nomark _)) (pe_op op_add (pe_ix ix_list (pv 3) (pe_un un_neg pe_int) (fun _ _ => rfl)) pe_int) (pe_callB (call_max2 rfl) (by rfl) B.max (by decide +kernel) (pa_cons pe_int (pa_cons (pe_op op_sub (pe_ix ix_list (pv 3) (pe_un un_neg pe_int) (fun _ _ => rfl)) pe_int) pa_nil))))) ?nseam) pa_nil)))))))
      (pss_cons (ps_while PassesOwn.never (PT.imp (t' := tAgain) (PW.pt (pw_or (pt_cmpR op_ne (pe_ix ix_list (pv 3) (pe_un un_neg pe_int) (fun _ _ => rfl)) (pe_ix ix_list (pv 3) pe_int (fun _ _ => rfl)) (nomark _)) (pw_or1 (pt_cmpR op_lt (pe_callB call_len_seq (by rfl) B.len PySem.boot_len (pa_cons (pv 3) pa_nil)) pe_int (nomark _))))) ?again)
        (pss_cons (ps_set (i := 8) sc_law_chain.nd rfl (Or.inl rfl) (pe_ix ix_list (pv 3) (pe_un un_neg pe_int) (fun _ _ => rfl)))
        (pss_cons (ps_expr (pe_bm PySem.F.plainAttrs_list PySem.F.slot_list_append PySem.F.type_list_append mt_append (pv 3) (pa_cons (PE.imp (t' := tNearer) (pe_ifExp (PW.pt (pw_or (pt_cmpR op_lt (pv 8) (pe_ix ix_list (pv 3) pe_int (fun _ _ => rfl)) (nomark _)) (pw_or1 (pt_cmpR op_eq (pv 8) pe_int (nomark _))))) (pe_op op_add (pv 8) pe_int) (pe_op op_sub (pv 8) pe_int)) ?nearer) pa_nil)))
        (pss_one (ps_if (pt_cmpR op_eq (pv 2) pe_int (nomark _))
          (pss_one (ps_ret (pv 3)))
          pss_nil)))))
      (pss_one (ps_ret (pv 3)))))), ?_⟩
    case nseam =>
      intro σ H Q ⟨o, many, th, x, l, h2, h3, h7, ho, hx, x0, xm, k⟩
      have hlast := atI_lastI hx
      refine ⟨_, h7, _, _, rfl, rfl, _, rfl, ?_⟩
      have other : L2.tIf (tTest (tOp (rI0 fun i j => .bl (decide (i < j))) (tOp (rIxL K) (tVar 3) (tUn (rU fun i => .int (-i)) (tC (.int 1)))) (tVar 2))) (tOp (rI0 fun i j => .int (i + j)) (tOp (rIxL K) (tVar 3) (tUn (rU fun i => .int (-i)) (tC (.int 1)))) (tC (.int 1))) (tCB (fun xs H Q => ∃ i j, xs = [V.int i, .int j] ∧ Q (.int (if j > i then j else i)) H) (tCons (tC (.int 0)) (tCons (tOp (rI0 fun i j => .int (i - j)) (tOp (rIxL K) (tVar 3) (tUn (rU fun i => .int (-i)) (tC (.int 1)))) (tC (.int 1))) tNil))) σ H Q := by
        refine ⟨_, h3, 1, rfl, o, _, -1, _, rfl, rfl, .of ho, hlast, _, h2, _, _, rfl, rfl, _, rfl, ite2 (fun z => ?_) fun z => ?_⟩
        · have z : x < (many : Int) := of_decide_eq_true z
          exact ⟨_, h3, 1, rfl, o, _, -1, _, rfl, rfl, .of ho, hlast, _, _, rfl, rfl, k (x + 1) (by omega) (by omega)⟩
        · refine ⟨_, h3, 1, rfl, o, _, -1, _, rfl, rfl, .of ho, hlast, _, _, rfl, rfl, _, _, rfl, ?_⟩
          exact k (if x - 1 > 0 then x - 1 else 0) (by split <;> omega) (by split <;> omega)
      refine ite2 (fun z => ?_) fun z => ?_
      · have z : (0 : Int) ≤ th := of_decide_eq_true z
        refine ⟨_, h2, _, _, rfl, rfl, _, rfl, ite2 (fun z2 => ?_) fun z2 => ?_⟩
        · exact ⟨_, h7, k th z (of_decide_eq_true z2)⟩
        · exact other
      · exact ⟨_, rfl, iteF other⟩
    case again =>
      intro σ H Q ⟨o, x, f, l, h3, ho, hx, hf, q⟩
      have hlast := atI_lastI hx
      have hfirst : atI (l.map V.int) 0 = some (.int f) := atI_nat (j := 0) (map_at hf)
      refine ⟨_, h3, 1, rfl, o, _, -1, _, rfl, rfl, .of ho, hlast, _, h3, o, _, 0, _, rfl, rfl, .of ho, hfirst, rfl, _, rfl, ?_⟩
      by_cases z : x = f
      · rw [decide_eq_true z] at q
        refine teF (by rw [decide_eq_true (by rw [z])]; rfl) ?_
        refine ⟨_, h3, o, _, rfl, .inl (.of ho), _, _, rfl, rfl, _, rfl, ?_⟩
        have e : decide ((((l.map V.int).length : Nat) : Int) < 2) = decide (l.length < 2) := by
          rw [List.length_map]
          by_cases y : l.length < 2
          · rw [decide_eq_true y, decide_eq_true (by omega)]
          · rw [decide_eq_false y, decide_eq_false (by omega)]
        show Q (decide ((((l.map V.int).length : Nat) : Int) < 2)) H
        rw [e]
        exact q
      · rw [decide_eq_false z] at q
        exact teT (by rw [decide_eq_false (fun e => z (V.int.inj e))]; rfl) q
    case nearer =>
      intro σ H Q ⟨o, x, f, l, h3, h8, ho, hf, q⟩
      have hfirst : atI (l.map V.int) 0 = some (.int f) := atI_nat (j := 0) (map_at hf)
      refine ⟨_, h8, _, h3, o, _, 0, _, rfl, rfl, .of ho, hfirst, _, _, rfl, rfl, _, rfl, ?_⟩
      by_cases z : x < f
      · rw [if_pos (Or.inl z)] at q
        exact teT (decide_eq_true z) (iteT ⟨_, h8, _, _, rfl, rfl, q⟩)
      · refine teF (decide_eq_false z) ⟨_, h8, rfl, _, rfl, ?_⟩
        by_cases y : x = 0
        · rw [if_pos (Or.inr y)] at q
          exact teT (decide_eq_true (by rw [y])) ⟨_, h8, _, _, rfl, rfl, q⟩
        · rw [if_neg (fun e => e.elim z y)] at q
          exact teF (decide_eq_false (fun e => y (V.int.inj e))) ⟨_, h8, _, _, rfl, rfl, q⟩
    refine ⟨_, rfl, _, rfl, _, _, rfl, rfl, d, many + 1, n, G, rfl, v.deck, by omega, by omega, by omega, v.same, v.no, fun H1 st s1 hd1 hst => ?_⟩
    have v1 := v.go s1 hd1
    refine ⟨by show 1 ≤ sizeLine; decide, fun o no => ?_⟩
    have noG := v1.same.free no
    have nod := v1.ne no
    have v2 := v1.all (same_upd (o := .lst [.int st]) no)
    refine ⟨_, rfl, d, 12, n + 1, K5.wo d _, rfl, v2.deck, by omega, by decide, by decide, wo_same _ _, wo_none _ _, fun H3 tn s3 hd3 htn => ⟨_, rfl, ?_, ?_, ?_⟩⟩
    · show -(2 ^ 62) ≤ (tn : Int)
      omega
    · show (tn : Int) < 2 ^ 62
      omega
    have v3 := v2.back ⟨s3, wo_none _ _, hd3⟩
    have h3o : H3 o = some (.lst [.int st]) := s3 _ _ (wo_get upd_same nod)
    refine for_it (walk_rangeN (n := tn) (by omega)) (fun i σ H5 => View d G H5 (n + 2 + 2 * i) ∧ ∃ (l : List Int) (x f : Int), H5 o = some (.lst (l.map V.int)) ∧ l.getLast? = some x ∧ l[0]? = some f ∧ (∀ y ∈ l, 0 ≤ y ∧ y ≤ many) ∧ l.length = i + 1 ∧
        ∃ y4 y5 y6 y7 y8, σ = [some (.ref d), some (.ref a), some (.int many), some (.ref o), y4, y5, y6, y7, y8])
      ⟨v3, [(st : Int)], st, st, h3o, rfl, rfl, fun y hy => by rw [List.mem_singleton.mp hy]; omega, rfl, _, _, _, _, _, rfl⟩ (fun _ _ _ _ _ => trivial) (fun i x σ H5 H6 hi hP hx => ?_) fun σ H5 hP => ?_
    · obtain ⟨v5, l, x, f, h5o, hlx, hlf, hl, hll, y4, y5, y6, y7, y8, rfl⟩ := hP
      obtain ⟨rfl, rfl⟩ := hx
      have hxb := hl x (List.mem_of_getLast? hlx)
      have hlast := atI_lastI hlx
      obtain ⟨as, hal, ha, hrs⟩ := id hR
      -- far
      refine ⟨_, rfl, by show 2 ≤ sizeLine; decide, fun l1 nl1 => ?_⟩
      have t1 := same_upd (o := .lst [.int 1, .int 1]) nl1
      have h1a := t1 _ _ (v5.same _ _ ha)
      refine ⟨_, rfl, a, rfl, ⟨_, .of h1a⟩, fun D nD => ?_⟩
      refine lc_vals (walk_tupN (n := rs.length) (xs := as.map V.ref) (by rw [List.length_map, hal])) (rs.map fun r => V.int r.1) nD (by rw [List.length_map]) (sizeL (by omega)) (fun H' s' => .of (s' _ _ h1a)) (fun k z H7 H8 y kk hy s7 hz hk => ?_) fun H7 s7 h7 => ?_
      · obtain ⟨rfl, hz⟩ := hz
        obtain ⟨b, r, rfl, eb, er, hm⟩ := rule_at hal hz
        obtain ⟨r', er', rfl⟩ := at_map hy
        rw [er] at er'
        cases er'
        exact ⟨rfl, _, rfl, b, _, 0, _, rfl, rfl, .of (s7 _ _ (t1 _ _ (v5.same _ _ (hrs k b r eb er)))), atI_nat (j := 0) rfl, hk H8 (Same.refl H8)⟩
      have t7 := t1.trans s7
      refine ⟨l1, D, _, _, rfl, rfl, .of (s7 _ _ upd_same), .of h7, sizeL (by rw [List.length_map]; show 2 + _ ≤ _; omega), fun p1 np1 => ?_⟩
      have t8 := t7.trans (same_upd (o := .lst ([V.int 1, V.int 1] ++ rs.map fun r => V.int r.1)) np1)
      have v8 := v5.all t8
      have p1d := (v5.all t7).ne np1
      refine ⟨d, p1, _, n + 2 + 2 * i, K5.wo d _, rfl, v8.deck, by omega, wo_get upd_same p1d, by rw [List.length_append]; show 1 ≤ 2 + _; omega, by rw [List.length_append, List.length_map]; show 2 + _ ≤ _; omega, wo_same _ _, wo_none _ _, fun H9 xf s9 hd9 hxf => ?_⟩
      have v9 := v8.back ⟨s9, wo_none _ _, hd9⟩
      have h9o : H9 o = some (.lst (l.map V.int)) := s9 _ _ (wo_get (t8 _ _ h5o) nod)
      obtain ⟨fr, rfl, fr1, fr2⟩ : ∃ fr : Int, xf = .int fr ∧ 0 ≤ fr ∧ fr ≤ 8 := by
        rcases List.mem_append.mp hxf with h | h
        · refine ⟨1, ?_, by decide, by decide⟩
          rcases List.mem_cons.mp h with h | h
          · exact h
          · exact List.mem_singleton.mp h
        · obtain ⟨r, hr', rfl⟩ := List.mem_map.mp h
          have := (ho.each r hr').2.1
          exact ⟨r.1, rfl, by omega, by omega⟩
      -- there
      refine ⟨_, rfl, 1, rfl, o, _, -1, _, rfl, rfl, .of h9o, hlast, _, rfl, _, rfl, 1, rfl, by show 2 ≤ sizeLine; decide, fun l2 nl2 => ?_⟩
      have v10 := v9.all (same_upd (o := .lst [.int 1, .int (-1)]) nl2)
      have l2d := v9.ne nl2
      refine ⟨d, l2, [.int 1, .int (-1)], n + 2 + 2 * i + 1, K5.wo d _, rfl, v10.deck, by omega, wo_get upd_same l2d, by show 1 ≤ 2; decide, by show 2 ≤ 1000; decide, wo_same _ _, wo_none _ _, fun H11 xs s11 hd11 hxs => ?_⟩
      have v11 := v10.back ⟨s11, wo_none _ _, hd11⟩
      have h11o : H11 o = some (.lst (l.map V.int)) := s11 _ _ (wo_get (same_upd nl2 _ _ h9o) nod)
      obtain ⟨sg, rfl⟩ : ∃ sg : Int, xs = .int sg := by
        rcases List.mem_cons.mp hxs with h | h
        · exact ⟨_, h⟩
        · exact ⟨_, List.mem_singleton.mp h⟩
      refine ⟨_, _, rfl, rfl, .inl ⟨by omega, by omega⟩, _, _, rfl, rfl, ?_⟩
      refine ⟨_, rfl, .inl ⟨rfl, _, .of h11o⟩, o, many, _, x, l, rfl, rfl, rfl, h11o, hlx, hxb.1, hxb.2, fun z z0 z1 => ?_⟩
      refine ⟨o, _, _, rfl, rfl, h11o, by rw [List.length_map]; exact small1000 (by omega), (v11.put noG nod).mono (by omega), l ++ [z], z, f, by rw [upd_same, List.map_append]; rfl, last_snoc l z, first_snoc z hlf, fun y hy => ?_, by rw [List.length_append, hll]; rfl, _, _, _, _, _, rfl⟩
      rcases List.mem_append.mp hy with hy | hy
      · exact hl y hy
      · rw [List.mem_singleton.mp hy]
        exact ⟨z0, z1⟩
    · obtain ⟨v5, l, x, f, h5o, hlx, hlf, hl, hll, y4, y5, y6, y7, y8, rfl⟩ := hP
      have hxb0 := hl x (List.mem_of_getLast? hlx)
      have hfb0 := hl f (List.mem_of_getElem? hlf)
      refine ⟨fun k σ H6 => ∃ (l : List Int) (x f : Int) (y8 : Option V), View d G H6 (n + 2 + 2 * tn) ∧ H6 o = some (.lst (l.map V.int)) ∧ l.getLast? = some x ∧ l[0]? = some f ∧ (∀ y ∈ l, 0 ≤ y ∧ y ≤ many) ∧ k = (x - f).natAbs + (if l.length < 2 then 3 else 0) ∧ l.length + k ≤ 100 ∧
          σ = [some (.ref d), some (.ref a), some (.int many), some (.ref o), y4, y5, y6, y7, y8],
        ⟨_, l, x, f, y8, v5, h5o, hlx, hlf, hl, rfl, by split <;> omega, rfl⟩, fun k σ H6 hW => ?_⟩
      obtain ⟨l, x, f, y8, v6, h6o, hlx, hlf, hl, hk, hlk, rfl⟩ := hW
      have hxb := hl x (List.mem_of_getLast? hlx)
      have hfb := hl f (List.mem_of_getElem? hlf)
      have hlast := atI_lastI hlx
      refine ⟨o, x, f, l, rfl, h6o, hlx, hlf, ite2 (fun z => ?_) fun z => ?_⟩
      · refine ⟨_, fun _ _ hN => hN, _, rfl, 1, rfl, o, _, -1, _, rfl, rfl, .of h6o, hlast, ?_⟩
        refine ⟨_, rfl, .inl ⟨rfl, _, .of h6o⟩, o, x, f, l, rfl, rfl, h6o, hlf, o, _, _, rfl, rfl, h6o, by rw [List.length_map]; exact small1000 (by omega), ?_⟩
        have hcont : (l.map V.int) ++ [V.int (if x < f ∨ x = 0 then x + 1 else x - 1)] = (l ++ [if x < f ∨ x = 0 then x + 1 else x - 1]).map V.int := by rw [List.map_append]; rfl
        rw [hcont]
        have hpos : 1 ≤ l.length := at_lt hlf
        have v7 : View d G (upd H6 o (.lst ((l ++ [if x < f ∨ x = 0 then x + 1 else x - 1]).map V.int))) (n + 2 + 2 * tn) := v6.put noG nod
        have hll2 : (l ++ [if x < f ∨ x = 0 then x + 1 else x - 1]).length = l.length + 1 := by rw [List.length_append]; rfl
        refine ⟨_, rfl, rfl, _, rfl, ite2 (fun y => ?_) fun y => ?_⟩
        · exact ⟨_, rfl, q _ o _ (v7.mono (by omega)) upd_same (by omega) noG nod⟩
        · have hm : many ≠ 0 := fun e => y (decide_eq_true (by rw [e]; rfl))
          have hz : ¬ x = f ∨ l.length < 2 := by
            rw [Bool.or_eq_true] at z
            rcases z with z | z
            · left
              intro e
              rw [decide_eq_true e] at z
              cases z
            · exact .inr (of_decide_eq_true z)
          have hone : l.length < 2 → x = f := fun h => by
            cases l with
            | nil => cases hlf
            | cons u r =>
              cases r with
              | nil =>
                have e1 : u = x := Option.some.inj hlx
                have e2 : u = f := Option.some.inj hlf
                rw [← e1, ← e2]
              | cons u2 r2 => exact absurd h (by show ¬ r2.length + 1 + 1 < 2; omega)
          refine ⟨_, ?_, _, _, f, _, v7, upd_same, last_snoc l _, first_snoc _ hlf, fun y hy => ?_, rfl, ?_, rfl⟩
          · rw [hk, hll2, if_neg (show ¬ l.length + 1 < 2 by omega)]
            by_cases h2 : l.length < 2
            · have := hone h2
              rw [if_pos h2]
              split <;> omega
            · rw [if_neg h2]
              have hne : ¬ x = f := hz.resolve_right h2
              split <;> omega
          · rcases List.mem_append.mp hy with hy | hy
            · exact hl y hy
            · rw [List.mem_singleton.mp hy]
              split <;> omega
          · rw [hll2, if_neg (show ¬ l.length + 1 < 2 by omega)]
            by_cases h2 : l.length < 2
            · have := hone h2
              rw [if_pos h2] at hk
              split <;> omega
            · rw [if_neg h2] at hk
              have hne : ¬ x = f := hz.resolve_right h2
              split <;> omega
      · exact ⟨_, rfl, q _ o l (v6.mono (by omega)) h6o (by omega) noG nod⟩
end
end K5
end
section
set_option Elab.async false
set_option linter.all false
set_option maxRecDepth 100000
set_option maxHeartbeats 4000000
/-! Walks of the law, 10: the law. -/
namespace K5
open PySem PySem.Spec PyProof.Rows L2
theorem RulesAt.wo {d a : Addr} {G H : Hp} {n : Nat} {rs : List Rule} (h : RulesAt H a rs) (v : View d G H n) : RulesAt (K5.wo d H) a rs := by
  obtain ⟨as, h1, h2, h3⟩ := h
  exact ⟨as, h1, v.tup h2, fun i b r e1 e2 => v.tup (h3 i b r e1 e2)⟩
theorem ToldAt.wo {d a : Addr} {G H : Hp} {n : Nat} {ts : List (Option Int)} (h : ToldAt H a ts) (v : View d G H n) : ToldAt (K5.wo d H) a ts := v.tup h
def Things (d : Addr) (H : Hp) (xs : List V) : Prop := ∀ x ∈ xs, ∃ o, Tg (K5.wo d H) x o
theorem Things.go {d : Addr} {H H' : Hp} {xs : List V} (h : Things d H xs) (s : Same (K5.wo d H) H') : Things d H' xs := fun x hx => by
  obtain ⟨o, t⟩ := h x hx
  exact ⟨o, t.same (s.wo (wo_none _ _))⟩
theorem Things.all {d : Addr} {H H' : Hp} {xs : List V} (h : Things d H xs) (s : Same H H') : Things d H' xs := h.go ((wo_same d H).trans s)
theorem Things.app {d : Addr} {H : Hp} {xs ys : List V} (h : Things d H xs) (g : Things d H ys) : Things d H (xs ++ ys) := fun x hx => by
  rcases List.mem_append.mp hx with hx | hx
  · exact h x hx
  · exact g x hx
theorem Things.nil {d : Addr} {H : Hp} : Things d H [] := fun x hx => (by cases hx)
theorem Things.cons {d : Addr} {H : Hp} {x : V} {xs : List V} {o : Option (List V)} (t : Tg (K5.wo d H) x o) (h : Things d H xs) : Things d H (x :: xs) := fun y hy => by
  rcases List.mem_cons.mp hy with rfl | hy
  · exact ⟨o, t⟩
  · exact h y hy
/-- whether it can be filled, and the chain that shows that it can't -/
def RowIs (d : Addr) (rs : List Rule) (ts : List (Option Int)) (H : Hp) (c : Bool) (row : V) : Prop := (Fillable rs ts ∧ c = true ∧ row = .non) ∨
  (¬ Fillable rs ts ∧ c = false ∧ ∃ p ns, row = .ref p ∧ p ≠ d ∧ H p = some (.lst (ns.map nV)) ∧ RingOk rs ts ns ∧ ns.length ≤ 200)
theorem RowIs.same {d : Addr} {rs : List Rule} {ts : List (Option Int)} {H H' : Hp} {c : Bool} {row : V} (h : RowIs d rs ts H c row) (s : Same H H') : RowIs d rs ts H' c row := by
  rcases h with h | ⟨h1, h2, p, ns, h3, h4, h5, h6⟩
  · exact .inl h
  · exact .inr ⟨h1, h2, p, ns, h3, h4, s _ _ h5, h6⟩
def lawS (sc : Addr) (y1 : Option V) (d : Addr) (y3 : Option V) (a : Addr) (many : Nat) (b : Addr) (y7 y8 y9 y10 y11 y12 : Option V) : L2.St :=
  [some (.ref sc), y1, some (.ref d), y3, some (.ref a), some (.int many), some (.ref b), y7, y8, y9, y10, y11, y12]
def tCan : TS := fun D σ H => ∃ (sc : Addr) (y1 : Option V) (d : Addr) (y3 : Option V) (a : Addr) (many : Nat) (b : Addr) (y7 y8 y9 y10 y11 y12 : Option V) (n : Nat) (rs : List Rule) (ts : List (Option Int)), σ = lawS sc y1 d y3 a many b y7 y8 y9 y10 y11 y12 ∧ Deck H d n ∧
  RulesAt H a rs ∧ RulesOk rs ∧ ToldAt H b ts ∧ ToldOk ts ∧ ∀ H2 c row, Same H H2 → RowIs d rs ts H2 c row → D.nx (lawS sc y1 d y3 a many b (some (.bl c)) (some row) y9 y10 y11 y12) H2
def tChk (e : Nat) : TS := fun D σ H => ∃ (sc : Addr) (y1 : Option V) (d : Addr) (y3 : Option V) (a : Addr) (many : Nat) (b : Addr) (c : Bool) (row : V) (y9 y10 y11 y12 : Option V) (rs : List Rule) (ts : List (Option Int)), σ = lawS sc y1 d y3 a many b (some (.bl c)) (some row) y9 y10 y11 y12 ∧
  RulesAt H a rs ∧ RulesOk rs ∧ ToldAt H b ts ∧ ToldOk ts ∧ ts.length = many ∧ RowIs d rs ts H c row ∧ ∀ H2, Same H H2 → D.nx (lawS sc y1 d y3 a many b (some (.bl c)) (some row) y9 y10 y11 y12) H2
def tRow : TS := fun D σ H => ∃ (sc : Addr) (y1 : Option V) (d : Addr) (y3 : Option V) (a : Addr) (many : Nat) (b : Addr) (c : Bool) (row : V) (so : Addr) (y10 y11 y12 : Option V) (xs : List V) (n : Nat) (G : Hp) (rs : List Rule) (ts : List (Option Int)), σ = lawS sc y1 d y3 a many b (some (.bl c)) (some row) (some (.ref so)) y10 y11 y12 ∧
  View d G H n ∧ n ≤ 700000 ∧ RulesAt H a rs ∧ RulesOk rs ∧ ToldAt H b ts ∧ ToldOk ts ∧ RowIs d rs ts H c row ∧ H so = some (.lst xs) ∧ so ≠ d ∧ xs.length ≤ 7 ∧ Things d H xs ∧
  ∀ H2 so2 xs2 z10, Same (K5.wo d H) H2 → View d G H2 (n + 3) → H2 so2 = some (.lst xs2) → so2 ≠ d → xs2.length ≤ 12 → Things d H2 xs2 → D.nx (lawS sc y1 d y3 a many b (some (.bl c)) (some row) (some (.ref so2)) z10 y11 y12) H2
section
variable {P : Program} {w : World} {K : PySem.W.Frag} {mg : Str → Option Value} {base : Heap}
abbrev s_law : Stmt := topS 48
theorem sc_law : FnScope ["script", "cell", "deck", "turn", "rules", "many", "told", "can", "row", "some", "number", "thing", "k"] ["script"] (defScope s_law) := ⟨rfl, rfl, rfl, by decide +kernel, rfl, by decide +kernel, by decide +kernel⟩
def spLaw (K : PySem.W.Frag) : Sp := fun vs H Q _ => ∃ (a : Addr) (ns : List Int), vs = [.ref a] ∧ SqL K H a (ns.map V.int) ∧ ns.length ≤ 63 ∧ ∀ H', Q (.bl true) H'
theorem ok_law {f0 : Addr} {fd0 : FuncData} (B : Bu mg) (F : Fun K "law" "law" s_law f0 fd0) (c_law_deck : Cl P w K mg base 1 "_law_deck" spDeck) (c_law_pick : Cl P w K mg base 1 "_law_pick" spPick) (c_law_one : Cl P w K mg base 2 "_law_one" spOne) (c_law_rules : Cl P w K mg base 3 "_law_rules" spLR) (c_law_told : Cl P w K mg base 4 "_law_told" spLTold)
    (c_how_many : Cl P w K mg base 6 "how_many" spMany) (c_chain : Cl P w K mg base 6 "chain" spLed) (c_marks : Cl P w K mg base 6 "marks" spMarks) (c_mark_chains : Cl P w K mg base 6 "mark_chains" spMC) (c_law_marks_right : Cl P w K mg base 7 "_law_marks_right" spMR)
    (c_law_odd : Cl P w K mg base 3 "_law_odd" spOdd) (c_law_gains : Cl P w K mg base 2 "_law_gains" spLGs) (c_law_spoilt : Cl P w K mg base 3 "_law_spoilt" spSp1) (c_law_chain : Cl P w K mg base 3 "_law_chain" spLCh) (c_gain : Cl P w K mg base 6 "gain" spGain) (c_law_same : Cl P w K mg base 2 "_law_same" spSame) :
    FnOk P w K mg base CX0 8 f0 fd0 ["script"] (spLaw K) := by
  refine F.ok sc_law (fun vs H Q E h => ?_) fun cdv A outer s H vs Q E hr h => ?_
  · obtain ⟨a, ns, rfl, _⟩ := h
    rfl
  · obtain ⟨sc, ns, rfl, hS, hlen, q⟩ := h
    refine ⟨_, (pss_cons (ps_for PassesOwn.never rfl (pi_list (pe_slice sl_list (pe_op op_catS (pe_lst (pa_cons pe_int pa_nil)) (pv 0)) po_none (po_some pe_int))) (pg_name (i := 1) sc_law.nd rfl (Or.inl rfl))
        (pss_cons (ps_set (i := 2) sc_law.nd rfl (Or.inr rfl) (pe_cl c_law_deck hr (by decide) (by rfl) (pa_cons (pv 1) (pa_cons pe_int pa_nil))))
        (pss_one (ps_for PassesOwn.never rfl (pi_range1 (by rfl) B.range (pa_cons pe_int pa_nil)) (pg_name (i := 3) sc_law.nd rfl (Or.inl rfl))
          (pss_cons (ps_set (i := 4) sc_law.nd rfl (Or.inr rfl) (pe_cl c_law_rules hr (by decide) (by rfl) (pa_cons (pv 2) (pa_cons pe_int (pa_cons (pe_cl c_law_one hr (by decide) (by rfl) (pa_cons (pv 2) (pa_cons (pe_lst (pa_cons pe_int (pa_cons pe_int pa_nil))) pa_nil))) pa_nil)))))
          (pss_cons (ps_set (i := 5) sc_law.nd rfl (Or.inr rfl) (pe_cl c_law_pick hr (by decide) (by rfl) (pa_cons (pv 2) (pa_cons pe_int pa_nil))))
          (pss_cons (ps_set (i := 6) sc_law.nd rfl (Or.inl rfl) (pe_cl c_law_told hr (by decide) (by rfl) (pa_cons (pv 2) (pa_cons (pv 4) (pa_cons (pv 5) pa_nil)))))
          (pss_cons (PS.imp (t' := tCan) (ps_par (i := 7) (j := 8) rfl sc_law.nd rfl rfl (by decide) rfl rfl (pa_cons (pe_cmpR op_gt (pe_cl c_how_many hr (by decide) (by rfl) (pa_cons (pv 4) (pa_cons (pv 6) pa_nil))) pe_int (nomark _)) (pa_cons (pe_cl c_chain hr (by decide) (by rfl) (pa_cons (pv 4) (pa_cons (pv 6) pa_nil))) pa_nil)) rfl) ?can)
          (pss_cons (PS.imp (t' := tChk 1) (ps_if (PW.pt (pw_or (pt_cmpR op_ne (pe_cmpR op_isN (pv 8) pe_non (nomark _)) (pv 7) (nomark _)) (pw_or (pt_cmpR op_eq (pe_cmpR op_isN (pe_cl c_marks hr (by decide) (by rfl) (pa_cons (pv 4) (pa_cons (pv 6) pa_nil))) pe_non (nomark _)) (pv 7) (nomark _)) (pw_or1 (pt_cmpR op_eq (pe_cmpR op_isN (pe_cl c_mark_chains hr (by decide) (by rfl) (pa_cons (pv 4) (pa_cons (pv 6) pa_nil))) pe_non (nomark _)) (pv 7) (nomark _))))))
            (pss_one (ps_ret pe_bl))
            pss_nil) ?chk1)
          (pss_cons (PS.imp (t' := tChk 2) (ps_if (PW.pt (pw_and (pt_val (pv 7)) (pw_and1 (pt_not (pt_val (pe_cl c_law_marks_right hr (by decide) (by rfl) (pa_cons (pv 4) (pa_cons (pv 6) (pa_cons (pv 5) pa_nil)))))))))
            (pss_one (ps_ret pe_bl))
            pss_nil) ?chk2)
          (pss_cons (ps_set (i := 9) sc_law.nd rfl (Or.inl rfl) (pe_lst (pa_cons pe_non (pa_cons (pe_tup pa_nil) (pa_cons (pe_lst pa_nil) (pa_cons (pe_lst (pa_cons pe_int pa_nil)) (pa_cons (pe_lst (pa_cons pe_int (pa_cons (pe_op op_add (pv 5) pe_int) pa_nil))) (pa_cons (pe_lst (pa_cons (pv 5) (pa_cons pe_bl pa_nil))) (pa_cons (pe_cl c_law_odd hr (by decide) (by rfl) (pa_cons (pv 2) pa_nil)) pa_nil)))))))))
          (pss_cons (PS.imp (t' := tRow) (ps_if (pt_cmpR op_notN (pv 8) pe_non (nomark _))
            (pss_cons (ps_set (i := 10) sc_law.nd rfl (Or.inl rfl) (pe_cl c_law_gains hr (by decide) (by rfl) (pa_cons (pv 4) (pa_cons (pv 6) (pa_cons (pv 8) pa_nil)))))
            (pss_cons (ps_if (PW.pt (pw_or (pt_cmpR op_isN (pv 10) pe_non (nomark _)) (pw_or (pt_cmpR op_lt (pv 10) pe_int (nomark _)) (pw_or1 (pt_cmpR op_ne (pe_ix ix_list (pv 8) pe_int (fun _ _ => rfl)) (pe_ix ix_list (pv 8) (pe_un un_neg pe_int) (fun _ _ => rfl)) (nomark _))))))
              (pss_one (ps_ret pe_bl))
              pss_nil)
            (pss_one (ps_set (i := 9) sc_law.nd rfl (Or.inl rfl) (pe_op op_catS (pv 9) (pe_lst (pa_cons (pv 8) (pa_cons (pe_slice sl_list (pv 8) (po_some pe_int) po_none) (pa_cons (pe_revL (pv 8)) (pa_cons (pe_callTy call_tuple_of (by rfl) B.tuple (by decide +kernel) (pa_cons (pv 8) pa_nil)) (pa_cons (pe_cl c_law_spoilt hr (by decide) (by rfl) (pa_cons (pv 2) (pa_cons (pv 8) pa_nil))) pa_nil)))))))))))
            pss_nil) ?row)
          (pss_one (ps_for PassesOwn.never rfl (pi_list (pe_op op_catS (pv 9) (pe_lc (own := [("k", 12)]) (g := gName 12) (tt := tYes) rfl sc_law.nd (pi_range1 (by rfl) B.range (pa_cons pe_int pa_nil)) (blkOk_by (N := ["script", "cell", "deck", "turn", "rules", "many", "told", "can", "row", "some", "number", "thing", "k"]) (sc := defScope s_law) (by decide +kernel)) (fun _ _ _ _ _ => pg_name (i := 12) sc_law.nd rfl (.inl rfl)) (fun _ _ _ _ _ => pts_nil) (fun _ _ _ _ _ => (pe_cl c_law_chain hr (by decide) (by rfl) (pa_cons (pv 2) (pa_cons (pv 4) (pa_cons (pv 5) pa_nil)))))))) (pg_name (i := 11) sc_law.nd rfl (Or.inl rfl))
            (pss_cons (ps_set (i := 10) sc_law.nd rfl (Or.inl rfl) (pe_cl c_gain hr (by decide) (by rfl) (pa_cons (pv 4) (pa_cons (pv 6) (pa_cons (pv 11) pa_nil)))))
            (pss_cons (ps_if (pt_not (pt_val (pe_cl c_law_same hr (by decide) (by rfl) (pa_cons (pv 10) (pa_cons (pe_cl c_law_gains hr (by decide) (by rfl) (pa_cons (pv 4) (pa_cons (pv 6) (pa_cons (pv 11) pa_nil)))) pa_nil)))))
              (pss_one (ps_ret pe_bl))
              pss_nil)
            (pss_one (ps_if (PW.pt (pw_and (pt_val (pv 7)) (pw_and (pt_cmpR op_notN (pv 10) pe_non (nomark _)) (pw_and (pt_cmpR op_gt (pv 10) pe_int (nomark _)) (pw_and1 (pt_cmpR op_eq (pe_ix ix_list (pv 11) pe_int (fun _ _ => rfl)) (pe_ix ix_list (pv 11) (pe_un un_neg pe_int) (fun _ _ => rfl)) (nomark _)))))))
              (pss_one (ps_ret pe_bl))
              pss_nil))))))))))))))))))
      (pss_one (ps_ret pe_bl))), ?_⟩
    case can =>
      intro D σ H ⟨sc, y1, d, y3, a, many, b, y7, y8, y9, y10, y11, y12, n, rs, ts, e, dk, hR, ho, hT, hto, k⟩
      subst e
      refine ⟨_, rfl, _, rfl, a, b, rs, ts, rfl, hR, ho, hT, hto, fun H1 nn s1 hn => ⟨_, _, rfl, rfl, ?_⟩⟩
      refine ⟨_, rfl, _, rfl, a, b, rs, ts, rfl, hR.same s1, ho, hT.same s1, hto, fun hf H2 s2 => ⟨_, _, rfl, ?_⟩, fun H2 p ns s2 np hp hr hl => ⟨_, _, rfl, ?_⟩⟩
      · exact k H2 (decide ((0 : Int) < nn)) .non (s1.trans s2) (.inl ⟨hf, decide_eq_true (hn.mpr hf), rfl⟩)
      · have hnf := ring_not hr
        have hpd : p ≠ d := fun z => by
          obtain ⟨u1, u2, u3, hd, _⟩ := dk.same s1
          rw [← z, np] at hd
          cases hd
        exact k H2 (decide ((0 : Int) < nn)) (.ref p) (s1.trans s2) (.inr ⟨hnf, decide_eq_false (fun z => hnf (hn.mp z)), p, ns, rfl, hpd, hp, hr, hl⟩)
    case chk1 =>
      intro D σ H ⟨sc, y1, d, y3, a, many, b, c, row, y9, y10, y11, y12, rs, ts, e, hR, ho, hT, hto, htl, hrow, k⟩
      subst e
      rcases hrow with ⟨hf, rfl, rfl⟩ | ⟨hnf, rfl, p, ns, rfl, _⟩
      · refine ⟨_, rfl, rfl, _, rfl, rfl, _, rfl, teF (by rw [decide_eq_true (show V.bl (decide (V.non = V.non)) = V.bl true by rw [decide_eq_true rfl])]; rfl) ?_⟩
        refine ⟨_, rfl, _, rfl, a, b, rs, ts, rfl, hR, ho, hT, hto, fun z => absurd hf z, fun _ H1 t d1 d2 n1 n2 s1 ht F1 F2 => ?_⟩
        refine ⟨rfl, _, rfl, rfl, _, rfl, teF (decide_eq_false (by rw [decide_eq_false (by intro z; cases z)]; intro z; cases z)) ?_⟩
        refine ⟨_, rfl, _, rfl, a, b, rs, ts, rfl, hR.same s1, ho, hT.same s1, hto, fun z => absurd hf z, fun _ H2 t2 d1 d2 n1 n2 p1 p2 s2 ht2 _ _ _ _ _ _ _ _ => ?_⟩
        refine ⟨rfl, _, rfl, rfl, _, rfl, teF (decide_eq_false (by rw [decide_eq_false (by intro z; cases z)]; intro z; cases z)) ?_⟩
        exact k H2 (s1.trans s2)
      · refine ⟨_, rfl, rfl, _, rfl, rfl, _, rfl, teF (by rw [decide_eq_true (show V.bl (decide (V.ref p = V.non)) = V.bl false by rw [decide_eq_false (by intro z; cases z)])]; rfl) ?_⟩
        refine ⟨_, rfl, _, rfl, a, b, rs, ts, rfl, hR, ho, hT, hto, fun _ H1 s1 => ?_, fun z => absurd z hnf⟩
        refine ⟨rfl, _, rfl, rfl, _, rfl, teF (decide_eq_false (by rw [decide_eq_true rfl]; intro z; cases z)) ?_⟩
        refine ⟨_, rfl, _, rfl, a, b, rs, ts, rfl, hR.same s1, ho, hT.same s1, hto, fun _ H2 s2 => ?_, fun z => absurd z hnf⟩
        refine ⟨rfl, _, rfl, rfl, _, rfl, teF (decide_eq_false (by rw [decide_eq_true rfl]; intro z; cases z)) ?_⟩
        exact k H2 (s1.trans s2)
    case chk2 =>
      intro D σ H ⟨sc, y1, d, y3, a, many, b, c, row, y9, y10, y11, y12, rs, ts, e, hR, ho, hT, hto, htl, hrow, k⟩
      subst e
      subst htl
      rcases hrow with ⟨hf, rfl, rfl⟩ | ⟨hnf, rfl, p, ns, rfl, _⟩
      · exact ⟨_, rfl, _, rfl, iteT ⟨_, rfl, _, rfl, _, rfl, a, b, rs, ts, rfl, hR, ho, hT, hto, hf, fun H1 s1 => ⟨_, rfl, iteF (k H1 s1)⟩⟩⟩
      · exact ⟨_, rfl, _, rfl, iteF (iteF (k H (Same.refl H)))⟩
    case row =>
      intro D σ H ⟨sc, y1, d, y3, a, many, b, c, row, so, y10, y11, y12, xs, n, G, rs, ts, e, v, hn, hR, ho, hT, hto, hrow, hso, sod, hxl, hxs, k⟩
      subst e
      rcases hrow with ⟨hf, rfl, rfl⟩ | ⟨hnf, rfl, p, ns, rfl, hpd, hp, hr, hl⟩
      · refine ⟨_, rfl, rfl, _, rfl, teF (by rw [decide_eq_true rfl]; rfl) ?_⟩
        exact k H so xs _ (wo_same d H) (v.mono (by omega)) hso sod (by omega) hxs
      · refine ⟨_, rfl, rfl, _, rfl, teT (by rw [decide_eq_false (by intro z; cases z)]; rfl) ?_⟩
        obtain ⟨⟨g, hg, hg0⟩, hl2, hht, hle⟩ := hr
        have hgo : gainO rs ts (some (ns.map nV)) = some g := by
          show gainT rs ts (ns.map nV) = some g
          unfold gainT
          rw [chainB_nV hle, List.length_map, if_pos ⟨hl2, rfl⟩, seams_nV, hg]
        obtain ⟨hd0, ehd⟩ : ∃ z, ns.head? = some z := by
          cases ns with
          | nil => exact absurd hl2 (by decide)
          | cons z r => exact ⟨z, rfl⟩
        have elast := ehd
        rw [hht] at elast
        refine ⟨_, rfl, _, rfl, _, rfl, a, b, .ref p, some (ns.map nV), rs, ts, rfl, hR, ho, hT, hto, .lst hp fl_nV (by rw [List.length_map]; omega), fun H1 s1 => ?_⟩
        rw [hgo]
        have hp1 := s1 _ _ hp
        refine ⟨_, rfl, rfl, _, rfl, teF (decide_eq_false (by intro z; cases z)) ?_⟩
        refine ⟨_, rfl, _, _, rfl, rfl, _, rfl, teF (decide_eq_false (by show ¬ g < 1; omega)) ?_⟩
        refine ⟨_, rfl, p, _, 0, _, rfl, rfl, .of hp1, at_head ehd, _, rfl, 1, rfl, p, _, -1, _, rfl, rfl, .of hp1, atI_way elast, rfl, _, rfl, teF (by rw [decide_eq_true rfl]; rfl) ?_⟩
        -- the list goes on
        have v1 := v.all s1
        refine ⟨_, rfl, _, rfl, _, rfl, 1, rfl, p, _, rfl, .of hp1, fun r1 nr1 => ?_⟩
        have s2 := same_upd (o := .lst (cutV (ns.map nV) (some 1) none)) nr1
        have v2 := v1.all s2
        have r1d := v1.ne nr1
        refine ⟨_, rfl, p, _, rfl, .of (s2 _ _ hp1), fun r2 nr2 => ?_⟩
        have s3 := same_upd (o := .lst (ns.map nV).reverse) nr2
        have v3 := v2.all s3
        have r2d := v2.ne nr2
        have hp3 := s3 _ _ (s2 _ _ hp1)
        refine ⟨_, rfl, p, _, rfl, .inl ⟨.of hp3, fun r3 nr3 => ?_⟩⟩
        have s4 := same_upd (o := .tup (ns.map nV)) nr3
        have v4 := v3.all s4
        have s14 := s1.trans (s2.trans (s3.trans s4))
        have hp4 := s4 _ _ hp3
        refine ⟨_, rfl, _, rfl, d, p, ns, n, K5.wo d _, rfl, wo_get hp4 hpd, by omega, by omega, fun x hx => Nat.le_trans (hle x hx) (Nat.le_trans hto.few (by decide)), v4.wo, by omega, fun H5 x o v5 hx => ?_⟩
        have v5b := v4.back v5
        refine ⟨by show 5 ≤ sizeLine; decide, fun e ne => ?_⟩
        have s6 := same_upd (o := .lst [.ref p, .ref r1, .ref r2, .ref r3, x]) ne
        have sA : Same (K5.wo d H) H5 := Same.trans (((wo_same d H).trans s14).wo (wo_none _ _)) v5.same
        refine ⟨so, e, _, _, rfl, rfl, .of (s6 _ _ (sA _ _ (wo_get hso sod))), .of upd_same, sizeL (by show _ + 5 ≤ 1000; omega), fun so2 nso2 => ?_⟩
        have s7 := same_upd (o := .lst (xs ++ [.ref p, .ref r1, .ref r2, .ref r3, x])) nso2
        have v6 := v5b.all s6
        have so2d := v6.ne nso2
        have kp : ∀ (t : Addr) (z : List V), t ≠ d → (upd (upd (upd H1 r1 (.lst (cutV (ns.map nV) (some 1) none))) r2 (.lst (ns.map nV).reverse)) r3 (.tup (ns.map nV))) t = some (.lst z) → K5.wo d H5 t = some (.lst z) := fun t z td h => wo_get (v5.same _ _ (wo_get h td)) td
        have hcl := cutV_length (ns.map nV) (some 1) none
        rw [List.length_map] at hcl
        have th5 : Things d H5 [.ref p, .ref r1, .ref r2, .ref r3, x] := by
          refine .cons (.lst (kp p _ hpd hp4) fl_nV (by rw [List.length_map]; omega)) (.cons (.lst (kp r1 _ r1d (s4 _ _ (s3 _ _ upd_same))) (fun y hy => fl_nV y (mem_cut hy)) (by omega)) (.cons (.lst (kp r2 _ r2d (s4 _ _ upd_same)) (fun y hy => fl_nV y (List.mem_reverse.mp hy)) (by rw [List.length_reverse, List.length_map]; omega)) (.cons (.no (.tup (v5b.tup (v5.same _ _ (v4.tup upd_same)))) (by decide)) (.cons hx .nil))))
        exact k _ so2 (xs ++ [.ref p, .ref r1, .ref r2, .ref r3, x]) _ ((sA.trans s6).trans s7) ((v6.all s7).mono (by omega)) upd_same so2d (by rw [List.length_append]; show _ + 5 ≤ 12; omega) (Things.app ((hxs.go sA).all (s6.trans s7)) (th5.all (s6.trans s7)))
    refine ⟨by show 1 ≤ sizeLine; decide, fun l0 nl0 => ?_⟩
    have s0 := same_upd (o := .lst [.int 0]) nl0
    refine ⟨_, rfl, l0, sc, _, _, rfl, rfl, .of upd_same, s0.seq hS, sizeL (by rw [List.length_map]; show 1 + _ ≤ _; omega), fun p1 np1 => ?_⟩
    refine ⟨8, rfl, p1, _, rfl, .of upd_same, fun p2 np2 => ?_⟩
    have hcell : ∀ y ∈ cutV ([V.int 0] ++ ns.map V.int) none (some 8), ∃ i, y = .int i := fun y hy => by
      rcases List.mem_append.mp (mem_cut hy) with hy | hy
      · exact ⟨_, List.mem_singleton.mp hy⟩
      · obtain ⟨i, _, rfl⟩ := List.mem_map.mp hy
        exact ⟨i, rfl⟩
    have hcl := cutV_length ([V.int 0] ++ ns.map V.int) none (some 8)
    generalize cutV ([V.int 0] ++ ns.map V.int) none (some 8) = cells at hcell hcl ⊢
    generalize hH0 : upd (upd (upd H l0 (.lst [.int 0])) p1 (.lst ([V.int 0] ++ ns.map V.int))) p2 (.lst cells) = H0
    have h0 : H0 p2 = some (.lst cells) := by rw [← hH0]; exact upd_same
    refine ⟨p2, rfl, ⟨_, .of h0⟩, ?_⟩
    refine for_it (walk_listN (n := cells.length) (xs := cells) rfl) (fun i σ H3 => Same H0 H3 ∧ ∃ y1 y2 y3 y4 y5 y6 y7 y8 y9 y10 y11 y12, σ = [some (.ref sc), y1, y2, y3, y4, y5, y6, y7, y8, y9, y10, y11, y12])
      ⟨Same.refl _, _, _, _, _, _, _, _, _, _, _, _, _, rfl⟩ (fun i σ H3 _ hP => .of (hP.1 _ _ h0)) (fun i x σ H3 H4 hi hP hx => ?_) fun σ H3 hP => ?_
    · obtain ⟨s3, y1, y2, y3, y4, y5, y6, y7, y8, y9, y10, y11, y12, rfl⟩ := hP
      obtain ⟨rfl, hx⟩ := hx
      obtain ⟨ce, rfl⟩ := hcell x (List.mem_of_getElem? hx)
      refine ⟨_, rfl, ce, rfl, fun H5 d s5 nd hdk => ?_⟩
      have v5 : View d H4 H5 5 := ⟨s5, nd, hdk⟩
      refine ⟨_, rfl, by decide, by decide, ?_⟩
      refine for_it (walk_rangeN (n := 2) rfl) (fun j σ H6 => View d H4 H6 (5 + 600 * j) ∧ ∃ y3 y4 y5 y6 y7 y8 y9 y10 y11 y12, σ = [some (.ref sc), some (.int ce), some (.ref d), y3, y4, y5, y6, y7, y8, y9, y10, y11, y12])
        ⟨v5, _, _, _, _, _, _, _, _, _, _, rfl⟩ (fun _ _ _ _ _ => trivial) (fun j x σ H6 H7 hj hP hx => ?_) fun σ H6 hP => ?_
      · obtain ⟨v6, y3, y4, y5, y6, y7, y8, y9, y10, y11, y12, rfl⟩ := hP
        obtain ⟨rfl, rfl⟩ := hx
        -- rules
        refine ⟨_, rfl, _, rfl, by show 2 ≤ sizeLine; decide, fun l1 nl1 => ?_⟩
        have v7 := v6.all (same_upd (o := .lst [.int 2, .int 9]) nl1)
        have l1d := v6.ne nl1
        refine ⟨d, l1, [.int 2, .int 9], 5 + 600 * j, K5.wo d _, rfl, v7.deck, by omega, wo_get upd_same l1d, by show 1 ≤ 2; decide, by show 2 ≤ 1000; decide, wo_same _ _, wo_none _ _, fun H8 x s8 hd8 hx => ?_⟩
        have v8 := v7.back ⟨s8, wo_none _ _, hd8⟩
        obtain ⟨cl, rfl, cl1, cl2⟩ : ∃ cl : Nat, x = .int (cl : Int) ∧ 1 ≤ cl ∧ cl ≤ 9 := by
          rcases List.mem_cons.mp hx with h | h
          · exact ⟨2, h, by decide, by decide⟩
          · exact ⟨9, List.mem_singleton.mp h, by decide, by decide⟩
        refine ⟨d, 8, cl, 5 + 600 * j + 1, K5.wo d H8, rfl, by decide, by decide, cl1, by omega, v8.wo, by omega, fun H9 a rs v9w hR9 ho => ?_⟩
        have v9 := v8.back v9w
        -- many
        refine ⟨_, rfl, d, 41, 5 + 600 * j + 31, K5.wo d H9, rfl, v9.deck.mono (by omega), by omega, by decide, by decide, wo_same _ _, wo_none _ _, fun H10 many s10 hd10 hmany => ?_⟩
        have v10 := v9.back (n := _) (m := 5 + 600 * j + 32) ⟨s10, wo_none _ _, hd10.mono (by omega)⟩
        have hR10 : RulesAt H10 a rs := (hR9.wo v9).same s10
        -- told
        refine ⟨_, rfl, _, rfl, _, rfl, d, a, many, 5 + 600 * j + 32, rs, K5.wo d H10, rfl, hR10.wo v10, v10.wo, by omega, by omega, fun H11 b ts v11w hT11 hto htl => ?_⟩
        have v11 := v10.back v11w
        have hR11 : RulesAt H11 a rs := (hR10.wo v10).same v11w.same
        refine ⟨sc, _, d, _, a, many, b, _, _, _, _, _, _, _, rs, ts, rfl, v11.deck, hR11, ho, hT11, hto, fun H12 c row s12 hrow12 => ?_⟩
        refine ⟨sc, _, d, _, a, many, b, c, row, _, _, _, _, rs, ts, rfl, hR11.same s12, ho, hT11.same s12, hto, htl, hrow12, fun H13 s13 => ?_⟩
        refine ⟨sc, _, d, _, a, many, b, c, row, _, _, _, _, rs, ts, rfl, hR11.same (s12.trans s13), ho, hT11.same (s12.trans s13), hto, htl, hrow12.same s13, fun H14 s14 => ?_⟩
        have s1214 := (s12.trans s13).trans s14
        have v14 := v11.all s1214
        have hR14 := hR11.same s1214
        have hT14 := hT11.same s1214
        have hrow14 := (hrow12.same s13).same s14
        -- some
        refine ⟨Nat.zero_le _, fun t1 nt1 => ⟨Nat.zero_le _, fun l2 nl2 => ⟨by show 1 ≤ sizeLine; decide, fun l3 nl3 => ⟨_, rfl, _, _, rfl, rfl, by show 2 ≤ sizeLine; decide, fun l4 nl4 => ⟨_, rfl, by show 2 ≤ sizeLine; decide, fun l5 nl5 => ?_⟩⟩⟩⟩⟩
        have u1 := same_upd (o := .tup []) nt1
        have u2 := same_upd (o := .lst []) nl2
        have u3 := same_upd (o := .lst [.int 0]) nl3
        have u4 := same_upd (o := .lst [.int 0, .int ((many : Int) + 1)]) nl4
        have u5 := same_upd (o := .lst [.int (many : Int), .bl true]) nl5
        have w1 := v14.all u1
        have w2 := w1.all u2
        have w3 := w2.all u3
        have w4 := w3.all u4
        have w5 := w4.all u5
        have d2 := w1.ne nl2
        have d3 := w2.ne nl3
        have d4 := w3.ne nl4
        have d5 := w4.ne nl5
        have u15 := u1.trans (u2.trans (u3.trans (u4.trans u5)))
        refine ⟨_, rfl, d, _, K5.wo d _, rfl, w5.wo, by omega, fun H20 x o v20 hx => ?_⟩
        have w20 := w5.back v20
        have s20 := v20.same
        refine ⟨by show 7 ≤ sizeLine; decide, fun so nso => ?_⟩
        have u6 := same_upd (o := .lst [.non, .ref t1, .ref l2, .ref l3, .ref l4, .ref l5, x]) nso
        have w6 := w20.all u6
        have sod := w20.ne nso
        have sA : Same (K5.wo d H14) H20 := Same.trans (((wo_same d H14).trans u15).wo (wo_none _ _)) s20
        have th20 : Things d H20 [.non, .ref t1, .ref l2, .ref l3, .ref l4, .ref l5, x] := by
          refine .cons (.no .non (by decide)) (.cons (.no (.tup (w20.tup (s20 _ _ (w5.tup ((u2.trans (u3.trans (u4.trans u5))) _ _ upd_same))))) (by decide)) ?_)
          refine .cons (.lst (wo_get (s20 _ _ (wo_get ((u3.trans (u4.trans u5)) _ _ upd_same) d2)) d2) (fun y hy => (by cases hy)) (Nat.zero_le _)) ?_
          refine .cons (.lst (wo_get (s20 _ _ (wo_get ((u4.trans u5) _ _ upd_same) d3)) d3) (fun y hy => ?_) (by show 1 ≤ 900; decide)) ?_
          · rw [List.mem_singleton.mp hy]
            exact .int _
          refine .cons (.lst (wo_get (s20 _ _ (wo_get (u5 _ _ upd_same) d4)) d4) (fun y hy => ?_) (by show 2 ≤ 900; decide)) ?_
          · rcases List.mem_cons.mp hy with rfl | hy
            · exact .int _
            · rw [List.mem_singleton.mp hy]
              exact .int _
          refine .cons (.lst (wo_get (s20 _ _ (wo_get upd_same d5)) d5) (fun y hy => ?_) (by show 2 ≤ 900; decide)) (.cons hx .nil)
          · rcases List.mem_cons.mp hy with rfl | hy
            · exact .int _
            · rw [List.mem_singleton.mp hy]
              exact .bl _
        have hR20 : RulesAt H20 a rs := (hR14.wo v14).same sA
        have hT20 : ToldAt H20 b ts := (hT14.wo v14).same sA
        have hrow20 : RowIs d rs ts H20 c row := by
          rcases hrow14 with h | ⟨h1, h2, p, ns, h3, h4, h5, h6⟩
          · exact .inl h
          · exact .inr ⟨h1, h2, p, ns, h3, h4, sA _ _ (wo_get h5 h4), h6⟩
        refine ⟨sc, _, d, _, a, many, b, c, row, so, _, _, _, _, 5 + 600 * j + 163, H4, rs, ts, rfl, w6.mono (by omega), by omega, hR20.same u6, ho, hT20.same u6, hto, hrow20.same u6, upd_same, sod, by show 7 ≤ 7; decide, th20.all u6, fun H21 so2 xs2 z10 s21 v21 hso2 so2d hxl2 hth21 => ?_⟩
        have hR21 : RulesAt H21 a rs := ((hR20.same u6).wo w6).same s21
        have hT21 : ToldAt H21 b ts := ((hT20.same u6).wo w6).same s21
        -- the things
        refine ⟨_, rfl, _, rfl, by decide, by decide, fun D nD => ?_⟩
        have Dd := v21.ne nD
        refine lc_it (walk_rangeN (n := 12) rfl) (fun k H22 => View d H4 H22 (5 + 600 * j + 163 + 3 + 30 * k) ∧ Same (K5.wo d H21) H22 ∧ ∃ ys, H22 D = some (.lst ys) ∧ ys.length = k ∧ ∀ y ∈ ys, ∃ (p : Addr) (l : List Int), y = .ref p ∧ p ≠ d ∧ p ≠ D ∧ H22 p = some (.lst (l.map V.int)) ∧ l.length ≤ 200)
          ⟨v21.all (same_upd nD), (wo_same d H21).trans (same_upd nD), [], upd_same, rfl, fun y hy => (by cases hy)⟩ (fun _ _ _ _ => trivial) (fun k x H22 H23 hk hP hx => ?_) fun H22 hP => ?_
        · obtain ⟨v22, s22, ys, h22D, hyl, hys⟩ := hP
          obtain ⟨rfl, rfl⟩ := hx
          refine ⟨rfl, _, rfl, _, rfl, _, rfl, d, a, many, 5 + 600 * j + 163 + 3 + 30 * k, rs, K5.wo d H23, rfl, ((hR21.wo v21).same s22).wo v22, ho, v22.wo, by omega, by omega, fun H24 p l v24 hp hl np pd => ?_⟩
          have h24D : H24 D = some (.lst ys) := v24.same _ _ (wo_get h22D Dd)
          have nDw : K5.wo d H21 D = none := by rw [wo_at Dd]; exact nD
          have pD : p ≠ D := fun z => by
            rw [z, wo_get h22D Dd] at np
            cases np
          have v24b := v22.back v24
          have s24 : Same (K5.wo d H21) H24 := (s22.wo (wo_none _ _)).trans v24.same
          refine ⟨ys, h24D, small1000 (by omega), (v24b.put (v21.same.free nD) Dd).mono (by omega), s24.lst nDw, ys ++ [.ref p], upd_same, by rw [List.length_append, hyl]; rfl, fun y hy => ?_⟩
          rcases List.mem_append.mp hy with hy | hy
          · obtain ⟨p', l', e1, e2, e3, e4, e5⟩ := hys y hy
            exact ⟨p', l', e1, e2, e3, by rw [upd_ne e3]; exact v24.same _ _ (wo_get e4 e2), e5⟩
          · exact ⟨p, l, List.mem_singleton.mp hy, pd, pD, by rw [upd_ne pD]; exact hp, hl⟩
        · obtain ⟨v22, s22, ys, h22D, hyl, hys⟩ := hP
          have h22so : H22 so2 = some (.lst xs2) := s22 _ _ (wo_get hso2 so2d)
          refine ⟨so2, D, _, _, rfl, rfl, .of h22so, .of h22D, sizeL (by omega), fun z nz => ?_⟩
          have u7 := same_upd (o := .lst (xs2 ++ ys)) nz
          have v23 := v22.all u7
          have hth : Things d (upd H22 z (.lst (xs2 ++ ys))) (xs2 ++ ys) := by
            refine Things.app ((hth21.go s22).all u7) fun y hy => ?_
            obtain ⟨p', l', rfl, e2, e3, e4, e5⟩ := hys y hy
            refine ⟨_, .lst (wo_get (u7 _ _ e4) e2) (fun w hw => ?_) (by rw [List.length_map]; omega)⟩
            obtain ⟨iw, _, rfl⟩ := List.mem_map.mp hw
            exact .int _
          have hR23 : RulesAt (upd H22 z (.lst (xs2 ++ ys))) a rs := ((hR21.wo v21).same s22).same u7
          have hT23 : ToldAt (upd H22 z (.lst (xs2 ++ ys))) b ts := ((hT21.wo v21).same s22).same u7
          have hcF : c = true → Fillable rs ts := fun e => by
            rcases hrow14 with h | ⟨_, h2, _⟩
            · exact h.1
            · rw [h2] at e
              cases e
          refine ⟨z, rfl, ⟨_, .of upd_same⟩, ?_⟩
          refine for_it (walk_listN (n := (xs2 ++ ys).length) (xs := xs2 ++ ys) rfl) (fun k σ H25 => Same (upd H22 z (.lst (xs2 ++ ys))) H25 ∧ ∃ y10 y11 y12, σ = lawS sc (some (.int ce)) d (some (.int (j : Nat))) a many b (some (.bl c)) (some row) (some (.ref so2)) y10 y11 y12)
            ⟨Same.refl _, _, _, _, rfl⟩ (fun k σ H25 _ hP => .of (hP.1 _ _ upd_same)) (fun k x σ H25 H26 hk hP hx => ?_) fun σ H25 hP => ?_
          · obtain ⟨s25, y10, y11, y12, rfl⟩ := hP
            obtain ⟨rfl, hx⟩ := hx
            obtain ⟨o, tg⟩ := hth x (List.mem_of_getElem? hx)
            have tg := (tg.same (wo_same _ _)).same s25
            refine ⟨_, rfl, _, rfl, _, rfl, a, b, x, o, rs, ts, rfl, hR23.same s25, ho, hT23.same s25, hto, tg, fun H27 s27 => ?_⟩
            refine ⟨_, rfl, _, rfl, _, rfl, _, rfl, a, b, x, o, rs, ts, rfl, hR23.same (s25.trans s27), ho, hT23.same (s25.trans s27), hto, tg.same s27, fun H28 s28 => ?_⟩
            refine ⟨gainO rs ts o, rfl, _, rfl, iteF ?_⟩
            have s2528 := (s25.trans s27).trans s28
            have tg28 := (tg.same s27).same s28
            refine ⟨_, rfl, _, rfl, ?_⟩
            cases c with
            | false => exact iteF (iteF ⟨s2528, _, _, _, rfl⟩)
            | true =>
              refine iteT ⟨_, rfl, rfl, _, rfl, ?_⟩
              cases hgo : gainO rs ts o with
              | none => exact teF (by show (!decide (V.non = V.non)) = false; rw [decide_eq_true rfl]; rfl) (iteF ⟨s2528, _, _, _, rfl⟩)
              | some g =>
                refine teT (by show (!decide (V.int g = V.non)) = true; rw [decide_eq_false (by intro z; cases z)]; rfl) ?_
                refine ⟨_, rfl, _, _, rfl, rfl, _, rfl, ?_⟩
                by_cases hg0 : (0 : Int) < g
                · refine teT (decide_eq_true hg0) ?_
                  cases tg28 with
                  | no _ _ => cases hgo
                  | @lst p xs hp hfl hxl =>
                    have hgt : gainT rs ts xs = some g := hgo
                    unfold gainT at hgt
                    split at hgt
                    · rename_i hcond
                      obtain ⟨exs, hlim⟩ := chain_seams hcond.2
                      generalize seams xs = ms at hgt exs hlim
                      subst exs
                      have hml : 2 ≤ ms.length := by rw [← List.length_map (f := nV)]; exact hcond.1
                      obtain ⟨m0, em0⟩ : ∃ z, ms.head? = some z := by
                        cases ms with
                        | nil => exact absurd hml (by decide)
                        | cons z r => exact ⟨z, rfl⟩
                      obtain ⟨m1, em1⟩ : ∃ z, ms.getLast? = some z := by
                        cases hz : ms.getLast? with
                        | none =>
                          rw [List.getLast?_eq_none_iff] at hz
                          rw [hz] at hml
                          exact absurd hml (by decide)
                        | some u => exact ⟨u, rfl⟩
                      refine ⟨_, rfl, p, _, 0, _, rfl, rfl, .of hp, at_head em0, _, rfl, 1, rfl, p, _, -1, _, rfl, rfl, .of hp, atI_way em1, rfl, _, rfl, ?_⟩
                      refine teF (decide_eq_false fun e => ?_) ⟨s2528, _, _, _, rfl⟩
                      have e2 : m0 = m1 := Int.ofNat.inj (V.int.inj e)
                      exact no_fill hgt hg0 (by rw [em0, em1, e2]) (hcF rfl)
                    · cases hgt
                · exact teF (decide_eq_false hg0) (iteF ⟨s2528, _, _, _, rfl⟩)
          · obtain ⟨s25, y10, y11, y12, rfl⟩ := hP
            exact ⟨(v23.all s25).mono (by omega), _, _, _, _, _, _, _, _, _, _, rfl⟩
      · obtain ⟨v6, y3, y4, y5, y6, y7, y8, y9, y10, y11, y12, rfl⟩ := hP
        exact ⟨s3.trans v6.same, _, _, _, _, _, _, _, _, _, _, _, _, rfl⟩
    · exact q _
end
end K5
end
section
set_option Elab.async false
set_option linter.all false
set_option autoImplicit false
set_option maxRecDepth 100000
set_option maxHeartbeats 4000000
/-! The end: what the top has left; the law's own head. -/
namespace K5
open PySem PySem.Spec PyProof.Rows L2
theorem df_mk {K : PySem.W.Frag} {h : Heap} {mg : Str → Option Value} (X : K.In h) (G : h.Ns mainGlobals mg) {x : Str} {st : Stmt} {ps : List Str} {f : Addr} {od an : Option Addr} {sl : Array (Option Value)} {oc kV dc pm cd ct : Value}
    (hb : ∀ (kV doc pm : Value) (an : Option Addr) (cdv ct : Value) (us : List Value), us.length = ps.length → bindArgs (PySem.W.fnOf x x (defArgs st) (defBody st) (defScope st) .none kV doc pm an cdv ct) ⟨us, []⟩ = pure (ps.zip us))
    (a : PySem.W.nsIn K mainGlobals x = some (some (.ref f))) (l : K.lookup f = some ⟨oc, od, .func (PySem.W.fnOf x x (defArgs st) (defBody st) (defScope st) .none kV dc pm an cd ct), sl⟩) (c : PySem.W.codeIn K cd x = true) (k : PySem.W.keepIn K (.ref f) = true) : Df K mg x st ps :=
  ⟨f, _, fun_mk l c k, PySem.W.mg_of X G a, (fun_mk l c k).binds hb⟩
theorem const_mk {K : PySem.W.Frag} {h : Heap} {mg : Str → Option Value} (X : K.In h) (G : h.Ns mainGlobals mg) {x : Str} {i : Int} {u : Tok} (a : PySem.W.nsIn K mainGlobals x = some (some (.int i u))) : ∃ u : Tok, mg x = some (.int i u) := ⟨u, PySem.W.mg_of X G a⟩
/-- all that the top has left -/
structure Defs (K : PySem.W.Frag) (mg : Str → Option Value) : Prop where
  B : Bu mg
  gS : ∃ u : Tok, mg "MOST_SPAN" = some (.int 8 u)
  gR : ∃ u : Tok, mg "MOST_RULES" = some (.int 5 u)
  gP : ∃ u : Tok, mg "MOST_PLACES" = some (.int 120 u)
  Dis_from : Df K mg "is_from" sIsFrom ["thing", "low", "high"]
  Dis_rule : Df K mg "is_rule" s_is_rule ["thing"]
  Dare_rules : Df K mg "are_rules" s_are_rules ["thing"]
  Dneed_rules : Df K mg "need_rules" s_need_rules ["rules"]
  Dneed_told : Df K mg "need_told" s_need_told ["told"]
  Dwidest : Df K mg "widest" s_widest ["rules"]
  Dbroken_by : Df K mg "broken_by" s_broken_by ["rules", "tail", "place"]
  Dnext_tail : Df K mg "next_tail" s_next_tail ["wide", "tail", "place"]
  Dways_on : Df K mg "ways_on" s_ways_on ["rules", "tail"]
  Dlayers_of : Df K mg "layers_of" s_layers_of ["rules", "told"]
  Dneed_both : Df K mg "need_both" s_need_both ["rules", "told"]
  Dhow_many : Df K mg "how_many" s_how_many ["rules", "told"]
  Dsteps_of : Df K mg "steps_of" s_steps_of ["rules", "told"]
  Dled_round : Df K mg "led_round" s_led_round ["rules", "told"]
  Dchain : Df K mg "chain" s_chain ["rules", "told"]
  Dgain : Df K mg "gain" s_gain ["rules", "told", "thing"]
  Dfarthest : Df K mg "farthest" s_farthest ["rules", "told", "begin", "end"]
  Dmarks : Df K mg "marks" s_marks ["rules", "told"]
  Dmark_chains : Df K mg "mark_chains" s_mark_chains ["rules", "told"]
  Dlaw_deck : Df K mg "_law_deck" s_law_deck ["cell", "turn"]
  Dlaw_pick : Df K mg "_law_pick" s_law_pick ["deck", "size"]
  Dlaw_whole : Df K mg "_law_whole" s_law_whole ["thing"]
  Dlaw_one : Df K mg "_law_one" s_law_one ["deck", "some"]
  Dlaw_sort : Df K mg "_law_sort" s_law_sort ["thing"]
  Dlaw_same : Df K mg "_law_same" s_law_same ["told", "due"]
  Dlaw_odd : Df K mg "_law_odd" s_law_odd ["deck"]
  Dlaw_spoilt : Df K mg "_law_spoilt" s_law_spoilt ["deck", "thing"]
  Dlaw_rules : Df K mg "_law_rules" s_law_rules ["deck", "spans_so", "close"]
  Dlaw_fits : Df K mg "_law_fits" s_law_fits ["rules", "row"]
  Dlaw_walk : Df K mg "_law_walk" s_law_walk ["deck", "rules", "many"]
  Dlaw_even : Df K mg "_law_even" s_law_even ["part", "many"]
  Dlaw_told : Df K mg "_law_told" s_law_told ["deck", "rules", "many"]
  Dlaw_gain : Df K mg "_law_gain" s_law_gain ["rules", "told", "one", "other"]
  Dlaw_gains : Df K mg "_law_gains" s_law_gains ["rules", "told", "thing"]
  Dlaw_chain : Df K mg "_law_chain" s_law_chain ["deck", "rules", "many"]
  Dlaw_marks_right : Df K mg "_law_marks_right" s_law_marks_right ["rules", "told", "many"]
section
variable {P : Program} {w : World} {K : PySem.W.Frag} {mg : Str → Option Value}
theorem all_ok {f0 : Addr} {fd0 : FuncData} (T : Defs K mg) (F : Fun K "law" "law" s_law f0 fd0) (base : Heap) : FnOk P w K mg base CX0 8 f0 fd0 ["script"] (spLaw K) := by
  obtain ⟨uS, gS⟩ := T.gS
  obtain ⟨uR, gR⟩ := T.gR
  obtain ⟨uP, gP⟩ := T.gP
  have c_is_from := ok_is_from (P := P) (w := w) (base := base) T.B T.Dis_from
  have c_is_rule := ok_is_rule (P := P) (w := w) (base := base) T.B gS T.Dis_rule c_is_from
  have c_are_rules := ok_are_rules (P := P) (w := w) (base := base) T.B gR T.Dare_rules c_is_rule
  have c_need_rules := ok_need_rules (P := P) (w := w) (base := base) T.Dneed_rules c_are_rules
  have c_need_told := ok_need_told (P := P) (w := w) (base := base) T.B gP T.Dneed_told c_is_from
  have c_widest := ok_widest (P := P) (w := w) (base := base) T.Dwidest
  have c_broken_by := ok_broken_by (P := P) (w := w) (base := base) T.B T.Dbroken_by
  have c_next_tail := ok_next_tail (P := P) (w := w) (base := base) T.B T.Dnext_tail
  have c_ways_on := ok_ways_on (P := P) (w := w) (base := base) T.Dways_on c_broken_by c_next_tail c_widest
  have c_layers_of := ok_layers_of (P := P) (w := w) (base := base) T.B T.Dlayers_of c_ways_on
  have c_need_both := ok_need_both (P := P) (w := w) (base := base) T.Dneed_both c_need_rules c_need_told
  have c_how_many := ok_how_many (P := P) (w := w) (base := base) T.B T.Dhow_many c_need_both c_layers_of
  have c_steps_of := ok_steps_of (P := P) (w := w) (base := base) T.B T.Dsteps_of
  have c_led_round := ok_led_round (P := P) (w := w) (base := base) T.B T.Dled_round c_steps_of
  have c_chain := ok_chain (P := P) (w := w) (base := base) T.Dchain c_need_both c_led_round
  have c_gain := ok_gain (P := P) (w := w) (base := base) T.B T.Dgain c_need_both c_is_from c_steps_of
  have c_farthest := ok_farthest (P := P) (w := w) (base := base) T.B T.Dfarthest c_steps_of
  have c_marks := ok_marks (P := P) (w := w) (base := base) T.B T.Dmarks c_need_both c_led_round c_farthest
  have c_mark_chains := ok_mark_chains (P := P) (w := w) (base := base) T.B T.Dmark_chains c_need_both c_led_round c_farthest
  have c_law_deck := ok_law_deck (P := P) (w := w) (base := base) T.Dlaw_deck
  have c_law_pick := ok_law_pick (P := P) (w := w) (base := base) T.Dlaw_pick
  have c_law_whole := ok_law_whole (P := P) (w := w) (base := base) T.B T.Dlaw_whole
  have c_law_one := ok_law_one (P := P) (w := w) (base := base) T.B T.Dlaw_one c_law_pick
  have c_law_sort := ok_law_sort (P := P) (w := w) (base := base) T.B T.Dlaw_sort
  have c_law_same := ok_law_same (P := P) (w := w) (base := base) T.B T.Dlaw_same c_law_sort
  have c_law_odd := ok_law_odd (P := P) (w := w) (base := base) T.B T.Dlaw_odd c_law_one
  have c_law_spoilt0 := ok_spoilt0 (P := P) (w := w) (base := base) T.B T.Dlaw_spoilt c_law_pick
  have c_law_spoilt := ok_spoilt1 (P := P) (w := w) (base := base) T.B T.Dlaw_spoilt c_law_pick c_law_spoilt0
  have c_law_rules := ok_law_rules (P := P) (w := w) (base := base) T.B T.Dlaw_rules c_law_one c_law_pick
  have c_law_fits := ok_law_fits (P := P) (w := w) (base := base) T.B T.Dlaw_fits
  have c_law_walk := ok_law_walk (P := P) (w := w) (base := base) T.B T.Dlaw_walk c_law_fits c_law_one
  have c_law_even := ok_law_even (P := P) (w := w) (base := base) T.B T.Dlaw_even
  have c_law_told := ok_law_told (P := P) (w := w) (base := base) T.B T.Dlaw_told c_law_walk c_law_even c_law_one c_law_pick
  have c_law_gain := ok_law_gain (P := P) (w := w) (base := base) T.B T.Dlaw_gain
  have c_law_gains := ok_law_gains (P := P) (w := w) (base := base) T.B T.Dlaw_gains c_law_whole c_law_gain
  have c_law_chain := ok_law_chain (P := P) (w := w) (base := base) T.B T.Dlaw_chain c_law_pick c_law_one
  have c_law_marks_right := ok_law_marks_right (P := P) (w := w) (base := base) T.B T.Dlaw_marks_right c_marks c_mark_chains c_law_gains
  exact ok_law T.B F c_law_deck c_law_pick c_law_one c_law_rules c_law_told c_how_many c_chain c_marks c_mark_chains c_law_marks_right c_law_odd c_law_gains c_law_spoilt c_law_chain c_gain c_law_same
theorem law_mk {l : PySem.W.OpenLaw} {h : Heap} {fa : Addr} (X : K.In h) (G : h.Ns mainGlobals mg) (hfa : mg "law" = some (.ref fa)) {f : Addr} {od an : Option Addr} {sl : Array (Option Value)} {oc kV dc pm cd ct : Value}
    (a : PySem.W.nsIn K mainGlobals "law" = some (some (.ref f))) (lk : K.lookup f = some ⟨oc, od, .func (PySem.W.fnOf "law" "law" (defArgs s_law) (defBody s_law) (defScope s_law) .none kV dc pm an cd ct), sl⟩) (c : PySem.W.codeIn K cd "law" = true) (k : PySem.W.keepIn K (.ref f) = true) (T : Defs K mg) :
    ∃ fd : FuncData, (∀ (s : Shared) (v : Value), BindsTo s fd ⟨[v], []⟩ [("script", v)]) ∧ ∀ base : Heap, K.In base → base.Ns mainGlobals mg → FnOk l.prog w K mg base CX0 8 fa fd ["script"] (spLaw K) := by
  have e := hfa.symm.trans (PySem.W.mg_of X G a)
  cases e
  exact ⟨_, fun s v => .of_eq rfl, fun base _ _ => all_ok T (fun_mk (st := s_law) lk c k) base⟩
end
end K5
end
section
set_option Elab.async false
set_option linter.all false
open PySem PySem.W PyProof.Rows
set_option maxRecDepth 100000 in
set_option maxHeartbeats 0 in
theorem PySem.Challenge.cw_anyspan_k05_whole_chains_there_and_back_holds : PySem.Challenge.rw_anyspan_k05_whole_chains_there_and_back.Holds := by
  w_on; o_law; k_head; (case hw => w_witness2)
  k_fill
  refine L2.walk_of (l := PySem.Challenge.rw_anyspan_k05_whole_chains_there_and_back) (n := 63) (k := 8) (x := "script") (CX := fun _ => L2.CX0) (sp := fun w => K5.spLaw _) rfl (by decide) rfl ⟨rfl, by decide, by decide⟩ (fun w h Y => PySem.W.kIn_of Y) ?F (fun _ _ a ns hl _ hS => ⟨a, ns, rfl, hS, hl, fun _ => rfl⟩) (fun _ _ _ _ _ h => h)
  case F =>
    intro w mg fa h KX G hmg
    refine' K5.law_mk KX G hmg ?al ?ll ?cl ?kl ⟨⟨PySem.W.mg_none_of KX G ?zisinstance, PySem.W.mg_none_of KX G ?zlen, PySem.W.mg_none_of KX G ?zall, PySem.W.mg_none_of KX G ?zzip, PySem.W.mg_none_of KX G ?zsum, PySem.W.mg_none_of KX G ?zmax, PySem.W.mg_none_of KX G ?zmin, PySem.W.mg_none_of KX G ?zabs, PySem.W.mg_none_of KX G ?zenumerate, PySem.W.mg_none_of KX G ?zint, PySem.W.mg_none_of KX G ?zbool, PySem.W.mg_none_of KX G ?zstr, PySem.W.mg_none_of KX G ?zrange, PySem.W.mg_none_of KX G ?zsorted, PySem.W.mg_none_of KX G ?zlist, PySem.W.mg_none_of KX G ?ztuple⟩, K5.const_mk KX G ?gS, K5.const_mk KX G ?gR, K5.const_mk KX G ?gP, K5.df_mk KX G (fun _ _ _ _ _ _ us hl => match us, hl with | [_, _, _], _ => rfl) ?a0 ?l0 ?c0 ?k0, K5.df_mk KX G (fun _ _ _ _ _ _ us hl => match us, hl with | [_], _ => rfl) ?a1 ?l1 ?c1 ?k1, K5.df_mk KX G (fun _ _ _ _ _ _ us hl => match us, hl with | [_], _ => rfl) ?a2 ?l2 ?c2 ?k2, K5.df_mk KX G (fun _ _ _ _ _ _ us hl => match us, hl with | [_], _ => rfl) ?a3 ?l3 ?c3 ?k3, K5.df_mk KX G (fun _ _ _ _ _ _ us hl => match us, hl with | [_], _ => rfl) ?a4 ?l4 ?c4 ?k4, K5.df_mk KX G (fun _ _ _ _ _ _ us hl => match us, hl with | [_], _ => rfl) ?a5 ?l5 ?c5 ?k5, K5.df_mk KX G (fun _ _ _ _ _ _ us hl => match us, hl with | [_, _, _], _ => rfl) ?a6 ?l6 ?c6 ?k6, K5.df_mk KX G (fun _ _ _ _ _ _ us hl => match us, hl with | [_, _, _], _ => rfl) ?a7 ?l7 ?c7 ?k7, K5.df_mk KX G (fun _ _ _ _ _ _ us hl => match us, hl with | [_, _], _ => rfl) ?a8 ?l8 ?c8 ?k8, K5.df_mk KX G (fun _ _ _ _ _ _ us hl => match us, hl with | [_, _], _ => rfl) ?a9 ?l9 ?c9 ?k9, K5.df_mk KX G (fun _ _ _ _ _ _ us hl => match us, hl with | [_, _], _ => rfl) ?a10 ?l10 ?c10 ?k10, K5.df_mk KX G (fun _ _ _ _ _ _ us hl => match us, hl with | [_, _], _ => rfl) ?a11 ?l11 ?c11 ?k11, K5.df_mk KX G (fun _ _ _ _ _ _ us hl => match us, hl with | [_, _], _ => rfl) ?a12 ?l12 ?c12 ?k12, K5.df_mk KX G (fun _ _ _ _ _ _ us hl => match us, hl with | [_, _], _ => rfl) ?a13 ?l13 ?c13 ?k13, K5.df_mk KX G (fun _ _ _ _ _ _ us hl => match us, hl with | [_, _], _ => rfl) ?a14 ?l14 ?c14 ?k14, K5.df_mk KX G (fun _ _ _ _ _ _ us hl => match us, hl with | [_, _, _], _ => rfl) ?a15 ?l15 ?c15 ?k15, K5.df_mk KX G (fun _ _ _ _ _ _ us hl => match us, hl with | [_, _, _, _], _ => rfl) ?a16 ?l16 ?c16 ?k16, K5.df_mk KX G (fun _ _ _ _ _ _ us hl => match us, hl with | [_, _], _ => rfl) ?a17 ?l17 ?c17 ?k17, K5.df_mk KX G (fun _ _ _ _ _ _ us hl => match us, hl with | [_, _], _ => rfl) ?a18 ?l18 ?c18 ?k18, K5.df_mk KX G (fun _ _ _ _ _ _ us hl => match us, hl with | [_, _], _ => rfl) ?a19 ?l19 ?c19 ?k19, K5.df_mk KX G (fun _ _ _ _ _ _ us hl => match us, hl with | [_, _], _ => rfl) ?a20 ?l20 ?c20 ?k20, K5.df_mk KX G (fun _ _ _ _ _ _ us hl => match us, hl with | [_], _ => rfl) ?a21 ?l21 ?c21 ?k21, K5.df_mk KX G (fun _ _ _ _ _ _ us hl => match us, hl with | [_, _], _ => rfl) ?a22 ?l22 ?c22 ?k22, K5.df_mk KX G (fun _ _ _ _ _ _ us hl => match us, hl with | [_], _ => rfl) ?a23 ?l23 ?c23 ?k23, K5.df_mk KX G (fun _ _ _ _ _ _ us hl => match us, hl with | [_, _], _ => rfl) ?a24 ?l24 ?c24 ?k24, K5.df_mk KX G (fun _ _ _ _ _ _ us hl => match us, hl with | [_], _ => rfl) ?a25 ?l25 ?c25 ?k25, K5.df_mk KX G (fun _ _ _ _ _ _ us hl => match us, hl with | [_, _], _ => rfl) ?a26 ?l26 ?c26 ?k26, K5.df_mk KX G (fun _ _ _ _ _ _ us hl => match us, hl with | [_, _, _], _ => rfl) ?a27 ?l27 ?c27 ?k27, K5.df_mk KX G (fun _ _ _ _ _ _ us hl => match us, hl with | [_, _], _ => rfl) ?a28 ?l28 ?c28 ?k28, K5.df_mk KX G (fun _ _ _ _ _ _ us hl => match us, hl with | [_, _, _], _ => rfl) ?a29 ?l29 ?c29 ?k29, K5.df_mk KX G (fun _ _ _ _ _ _ us hl => match us, hl with | [_, _], _ => rfl) ?a30 ?l30 ?c30 ?k30, K5.df_mk KX G (fun _ _ _ _ _ _ us hl => match us, hl with | [_, _, _], _ => rfl) ?a31 ?l31 ?c31 ?k31, K5.df_mk KX G (fun _ _ _ _ _ _ us hl => match us, hl with | [_, _, _, _], _ => rfl) ?a32 ?l32 ?c32 ?k32, K5.df_mk KX G (fun _ _ _ _ _ _ us hl => match us, hl with | [_, _, _], _ => rfl) ?a33 ?l33 ?c33 ?k33, K5.df_mk KX G (fun _ _ _ _ _ _ us hl => match us, hl with | [_, _, _], _ => rfl) ?a34 ?l34 ?c34 ?k34, K5.df_mk KX G (fun _ _ _ _ _ _ us hl => match us, hl with | [_, _, _], _ => rfl) ?a35 ?l35 ?c35 ?k35⟩
    (case al => k_is)
    (case ll => k_is)
    (case cl => k_is)
    (case kl => k_is)
    (case zisinstance => k_is)
    (case zlen => k_is)
    (case zall => k_is)
    (case zzip => k_is)
    (case zsum => k_is)
    (case zmax => k_is)
    (case zmin => k_is)
    (case zabs => k_is)
    (case zenumerate => k_is)
    (case zint => k_is)
    (case zbool => k_is)
    (case zstr => k_is)
    (case zrange => k_is)
    (case zsorted => k_is)
    (case zlist => k_is)
    (case ztuple => k_is)
    (case gS => k_is)
    (case gR => k_is)
    (case gP => k_is)
    (case a0 => k_is)
    (case l0 => k_is)
    (case c0 => k_is)
    (case k0 => k_is)
    (case a1 => k_is)
    (case l1 => k_is)
    (case c1 => k_is)
    (case k1 => k_is)
    (case a2 => k_is)
    (case l2 => k_is)
    (case c2 => k_is)
    (case k2 => k_is)
    (case a3 => k_is)
    (case l3 => k_is)
    (case c3 => k_is)
    (case k3 => k_is)
    (case a4 => k_is)
    (case l4 => k_is)
    (case c4 => k_is)
    (case k4 => k_is)
    (case a5 => k_is)
    (case l5 => k_is)
    (case c5 => k_is)
    (case k5 => k_is)
    (case a6 => k_is)
    (case l6 => k_is)
    (case c6 => k_is)
    (case k6 => k_is)
    (case a7 => k_is)
    (case l7 => k_is)
    (case c7 => k_is)
    (case k7 => k_is)
    (case a8 => k_is)
    (case l8 => k_is)
    (case c8 => k_is)
    (case k8 => k_is)
    (case a9 => k_is)
    (case l9 => k_is)
    (case c9 => k_is)
    (case k9 => k_is)
    (case a10 => k_is)
    (case l10 => k_is)
    (case c10 => k_is)
    (case k10 => k_is)
    (case a11 => k_is)
    (case l11 => k_is)
    (case c11 => k_is)
    (case k11 => k_is)
    (case a12 => k_is)
    (case l12 => k_is)
    (case c12 => k_is)
    (case k12 => k_is)
    (case a13 => k_is)
    (case l13 => k_is)
    (case c13 => k_is)
    (case k13 => k_is)
    (case a14 => k_is)
    (case l14 => k_is)
    (case c14 => k_is)
    (case k14 => k_is)
    (case a15 => k_is)
    (case l15 => k_is)
    (case c15 => k_is)
    (case k15 => k_is)
    (case a16 => k_is)
    (case l16 => k_is)
    (case c16 => k_is)
    (case k16 => k_is)
    (case a17 => k_is)
    (case l17 => k_is)
    (case c17 => k_is)
    (case k17 => k_is)
    (case a18 => k_is)
    (case l18 => k_is)
    (case c18 => k_is)
    (case k18 => k_is)
    (case a19 => k_is)
    (case l19 => k_is)
    (case c19 => k_is)
    (case k19 => k_is)
    (case a20 => k_is)
    (case l20 => k_is)
    (case c20 => k_is)
    (case k20 => k_is)
    (case a21 => k_is)
    (case l21 => k_is)
    (case c21 => k_is)
    (case k21 => k_is)
    (case a22 => k_is)
    (case l22 => k_is)
    (case c22 => k_is)
    (case k22 => k_is)
    (case a23 => k_is)
    (case l23 => k_is)
    (case c23 => k_is)
    (case k23 => k_is)
    (case a24 => k_is)
    (case l24 => k_is)
    (case c24 => k_is)
    (case k24 => k_is)
    (case a25 => k_is)
    (case l25 => k_is)
    (case c25 => k_is)
    (case k25 => k_is)
    (case a26 => k_is)
    (case l26 => k_is)
    (case c26 => k_is)
    (case k26 => k_is)
    (case a27 => k_is)
    (case l27 => k_is)
    (case c27 => k_is)
    (case k27 => k_is)
    (case a28 => k_is)
    (case l28 => k_is)
    (case c28 => k_is)
    (case k28 => k_is)
    (case a29 => k_is)
    (case l29 => k_is)
    (case c29 => k_is)
    (case k29 => k_is)
    (case a30 => k_is)
    (case l30 => k_is)
    (case c30 => k_is)
    (case k30 => k_is)
    (case a31 => k_is)
    (case l31 => k_is)
    (case c31 => k_is)
    (case k31 => k_is)
    (case a32 => k_is)
    (case l32 => k_is)
    (case c32 => k_is)
    (case k32 => k_is)
    (case a33 => k_is)
    (case l33 => k_is)
    (case c33 => k_is)
    (case k33 => k_is)
    (case a34 => k_is)
    (case l34 => k_is)
    (case c34 => k_is)
    (case k34 => k_is)
    (case a35 => k_is)
    (case l35 => k_is)
    (case c35 => k_is)
    (case k35 => k_is)
end
