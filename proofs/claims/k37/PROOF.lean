import PyProof.Rows.All
import Wide.All
import OpenK.AllK
import Wide.FinOn
import HandS.ForMost
import HandS.Star
import HandS.Strs
import HandS.SetFor
import HandS.Conv
import HandS.IsInst
import HandS.Flow
import HandS.Style
import HandS.RaiseMore
import HandS.ForExc
import KE.KDictCopyH
import PyProof.ReprRoads
import PyProof.CallFns
import PySem.Challenge.RW_endclimbs_k37_whole_greatest_rounds
import KE.KDictDisplayH
import HandS.Codes
import HandS.TupSets
import HandS.Walk
import HandS.Defaults
import HandS.Ends
set_option linter.all false
namespace K37

/-! ## Values: a number of rounds, none: no greatest one -/
def leI (k : Int) : Option Int → Prop
  | none => True
  | some m => k ≤ m
def plusI (v : Option Int) (n : Int) : Option Int := v.map (· + n)
def maxI : Option Int → Option Int → Option Int
  | some a, some b => some (max a b)
  | _, _ => none
def greatI : List (Option Int) → Option Int
  | [] => none
  | v :: vs => vs.foldl maxI v

theorem leI_ext {a b : Option Int} (h : ∀ k : Int, leI k a ↔ leI k b) : a = b := by
  cases a with
  | none => cases b with
    | none => rfl
    | some m => have := (h (m + 1)).mp trivial; simp only [leI] at this; omega
  | some n => cases b with
    | none => have := (h (n + 1)).mpr trivial; simp only [leI] at this; omega
    | some m =>
      have h1 := (h n).mp (by simp only [leI]; omega)
      have h2 := (h m).mpr (by simp only [leI]; omega)
      simp only [leI] at h1 h2
      have : n = m := by omega
      rw [this]
theorem leI_plus {k n : Int} {a : Option Int} : leI k (plusI a n) ↔ leI (k - n) a := by
  cases a with
  | none => exact Iff.rfl
  | some m => simp only [plusI, Option.map_some, leI]; omega
theorem leI_max {k : Int} {a b : Option Int} : leI k (maxI a b) ↔ leI k a ∨ leI k b := by
  cases a with
  | none => simp [maxI, leI]
  | some m => cases b with
    | none => simp [maxI, leI]
    | some n => simp only [maxI, leI]; omega
theorem leI_mono {j k : Int} {a : Option Int} (h : j ≤ k) (q : leI k a) : leI j a := by
  cases a with
  | none => trivial
  | some m => simp only [leI] at *; omega
theorem leI_foldl {k : Int} (vs : List (Option Int)) : ∀ v, leI k (vs.foldl maxI v) ↔ leI k v ∨ ∃ w ∈ vs, leI k w := by
  induction vs with
  | nil => intro v; simp
  | cons w r ih =>
    intro v
    rw [List.foldl_cons, ih, leI_max]
    simp only [List.mem_cons, exists_eq_or_imp, or_assoc]
theorem leI_great {k : Int} {S : List (Option Int)} (h : S ≠ []) : leI k (greatI S) ↔ ∃ v ∈ S, leI k v := by
  cases S with
  | nil => exact absurd rfl h
  | cons v vs =>
    rw [greatI, leI_foldl]
    simp only [List.mem_cons, exists_eq_or_imp]
theorem leI_none {a : Option Int} {n : Int} (hn : 0 < n) {k0 : Int} (h0 : leI k0 a) (h : ∀ k, leI k a → leI (k + n) a) : a = none := by
  cases a with
  | none => rfl
  | some m => have := h m (by simp only [leI]; omega); simp only [leI] at this; omega
theorem greatI_none {S : List (Option Int)} (h : none ∈ S) : greatI S = none := by
  refine leI_ext fun k => ?_
  rw [leI_great (List.ne_nil_of_mem h)]
  exact ⟨fun _ => trivial, fun _ => ⟨none, h, trivial⟩⟩
theorem greatI_some {ns : List Int} {m : Int} (h : m ∈ ns) (hm : ∀ n ∈ ns, n ≤ m) : greatI (ns.map some) = some m := by
  refine leI_ext fun k => ?_
  rw [leI_great (by intro e; rw [List.map_eq_nil_iff] at e; subst e; cases h)]
  constructor
  · rintro ⟨v, hv, q⟩
    obtain ⟨n, hn, rfl⟩ := List.mem_map.mp hv
    have := hm n hn
    simp only [leI] at *; omega
  · intro q
    exact ⟨some m, List.mem_map.mpr ⟨m, h, rfl⟩, q⟩
theorem maxI_zero {a : Option Int} (h : leI 0 a) : maxI (some 0) a = a := by
  refine leI_ext fun k => ?_
  rw [leI_max]
  refine ⟨fun q => q.elim (fun q => leI_mono (show k ≤ 0 from q) h) id, .inr⟩

/-- v is the greatest number k with P k -/
def Is (P : Nat → Prop) (v : Option Int) : Prop := leI 0 v ∧ ∀ k : Nat, P k ↔ leI k v
theorem Is.uniq {P : Nat → Prop} {v w : Option Int} (h : Is P v) (h' : Is P w) : v = w := by
  refine leI_ext fun k => ?_
  by_cases hk : 0 ≤ k
  · obtain ⟨n, rfl⟩ := Int.eq_ofNat_of_zero_le hk
    exact (h.2 n).symm.trans (h'.2 n)
  · exact ⟨fun _ => leI_mono (by omega) h'.1, fun _ => leI_mono (by omega) h.1⟩
theorem Is.congr {P Q : Nat → Prop} {v : Option Int} (h : Is P v) (e : ∀ k, Q k ↔ P k) : Is Q v := ⟨h.1, fun k => (e k).trans (h.2 k)⟩
theorem is_exists {P : Nat → Prop} (h0 : P 0) (hd : ∀ k, P (k + 1) → P k) : ∃ v, Is P v := by
  by_cases h : ∀ k, P k
  · exact ⟨none, trivial, fun k => ⟨fun _ => trivial, fun _ => h k⟩⟩
  · have ⟨n, hn⟩ : ∃ n, ¬ P n := Classical.byContradiction fun z => h fun k => Classical.byContradiction fun q => z ⟨k, q⟩
    have down : ∀ a b, P (a + b) → P a := by
      intro a b
      induction b with
      | zero => exact id
      | succ b ih => exact fun q => ih (hd _ q)
    have key : ∀ n, ¬ P n → ∃ m : Nat, P m ∧ ¬ P (m + 1) := by
      intro n
      induction n with
      | zero => exact fun q => absurd h0 q
      | succ n ih =>
        intro q
        by_cases p : P n
        · exact ⟨n, p, q⟩
        · exact ih p
    obtain ⟨m, hm, hm'⟩ := key n hn
    refine ⟨some (m : Int), by simp only [leI]; omega, fun k => ⟨fun q => ?_, fun q => ?_⟩⟩
    · simp only [leI]
      refine Classical.byContradiction fun z => hm' ?_
      have e : k = (m + 1) + (k - (m + 1)) := by omega
      exact down _ _ (e ▸ q)
    · simp only [leI] at q
      have e : m = k + (m - k) := by omega
      exact down _ _ (e ▸ hm)

/-! ## Rules -/
inductive Mv where
  | take | next | out | wait
  deriving DecidableEq, Repr
structure Rule where
  cuts : List Int
  ph : List (List (Mv × Nat))
def Rule.pr (R : Rule) (p c : Nat) : Mv × Nat := (R.ph.getD p []).getD c (.out, 0)
def up (cuts : List Int) (x : Int) : Option Int := cuts.find? fun m => decide (x < m)
def ceil (cuts : List Int) (x : Int) : Option Int := cuts.find? fun m => decide (x ≤ m)
/-- y can come where low is the least that can (none: endless alone) -/
def geO : Option Int → Option Int → Prop
  | _, none => True
  | none, some _ => False
  | some l, some v => l ≤ v
def caseO (u y : Option Int) : Nat :=
  match y with
  | none => 2
  | some v => match u with
    | none => 0
    | some m => if v < m then 0 else if v = m then 1 else 2
/-- the end becomes y -/
def Gets (R : Rule) (C : Nat → Option Int → Option Int → Prop) (stop : Prop) (q : Nat) : Option Int → Prop
  | none => stop
  | some v => C q (up R.cuts v) (some (v + 1))
theorem Gets.imp {R : Rule} {C D : Nat → Option Int → Option Int → Prop} {s t : Prop} {q : Nat} {y : Option Int} (hC : ∀ q a b, C q a b → D q a b) (hs : s → t) (h : Gets R C s q y) : Gets R D t q y := by
  cases y with
  | none => exact hs h
  | some v => exact hC _ _ _ h
/-- k more rounds behind a round with this pair, at the upper mark u, y came in -/
def Aft (R : Rule) (C : Nat → Option Int → Option Int → Prop) (stop : Prop) (u y : Option Int) : Mv × Nat → Prop
  | (.wait, q) => C q u y
  | (.take, q) => Gets R C stop q y
  | (.next, q) => Gets R C stop q (y.bind (ceil R.cuts))
  | (.out, _) => stop
/-- k rounds can follow in phase p, below the upper mark u, l the least that can come in -/
def Can (R : Rule) : Nat → Nat → Option Int → Option Int → Prop
  | 0, _, _, _ => True
  | k + 1, p, u, l => ∃ y, geO l y ∧ Aft R (Can R k) (k = 0) u y (R.pr p (caseO u y))

theorem geO_none {y : Option Int} : geO none y ↔ y = none := by cases y <;> simp [geO]
theorem geO_self {l : Option Int} : geO l l := by cases l <;> simp [geO]
theorem geO_trans {a b c : Option Int} (h : geO a b) (h' : geO b c) : geO a c := by
  cases a <;> cases b <;> cases c <;> simp_all [geO]
  omega
theorem Aft.imp {R : Rule} {C D : Nat → Option Int → Option Int → Prop} {s t : Prop} {u y : Option Int} {m : Mv × Nat} (hC : ∀ q a b, C q a b → D q a b) (hs : s → t) (h : Aft R C s u y m) : Aft R D t u y m := by
  obtain ⟨m, q⟩ := m
  cases m with
  | wait => exact hC _ _ _ h
  | take => exact Gets.imp hC hs h
  | next => exact Gets.imp hC hs h
  | out => exact hs h
theorem Can.down {R : Rule} : ∀ {k p : Nat} {u l : Option Int}, Can R (k + 1) p u l → Can R k p u l
  | 0, _, _, _, _ => trivial
  | k + 1, _, _, _, ⟨y, hy, h⟩ => ⟨y, hy, h.imp (fun _ _ _ q => Can.down q) fun q => by omega⟩
theorem Can.low {R : Rule} {k p : Nat} {u l l' : Option Int} (h : Can R k p u l) (hl : geO l' l) : Can R k p u l' := by
  cases k with
  | zero => trivial
  | succ k => obtain ⟨y, hy, h⟩ := h; exact ⟨y, geO_trans hl hy, h⟩
/-- one round can always come -/
theorem Can.one {R : Rule} {p : Nat} {u l : Option Int} : Can R 1 p u l := by
  refine ⟨none, by cases l <;> simp [geO], ?_⟩
  generalize R.pr p (caseO u none) = m
  obtain ⟨m, q⟩ := m
  cases m <;> simp [Aft, Can, Gets]
theorem ceil_le {cuts : List Int} {v m : Int} (h : ceil cuts v = some m) : m ∈ cuts ∧ v ≤ m :=
  ⟨List.mem_of_find?_eq_some h, by simpa using List.find?_some h⟩
theorem up_lt {cuts : List Int} {v m : Int} (h : up cuts v = some m) : m ∈ cuts ∧ v < m :=
  ⟨List.mem_of_find?_eq_some h, by simpa using List.find?_some h⟩
theorem up_none {cuts : List Int} {v : Int} : up cuts v = none ↔ ∀ m ∈ cuts, m ≤ v := by
  unfold up
  rw [List.find?_eq_none]
  refine ⟨fun h m hm => ?_, fun h m hm => ?_⟩
  · have := h m hm; simp at this; exact this
  · have := h m hm; simp; exact this
theorem ceil_none {cuts : List Int} {v : Int} : ceil cuts v = none ↔ ∀ m ∈ cuts, m < v := by
  unfold ceil
  rw [List.find?_eq_none]
  refine ⟨fun h m hm => ?_, fun h m hm => ?_⟩
  · have := h m hm; simp at this; exact this
  · have := h m hm; simp; exact this
/-- in the outer gap the end does not matter -/
theorem Can.outer {R : Rule} {a b : Int} (ha : up R.cuts a = none) (hb : up R.cuts b = none) : ∀ {k p : Nat}, Can R k p none (some (a + 1)) → Can R k p none (some (b + 1)) := by
  have go : ∀ (k p : Nat) (a b : Int), up R.cuts a = none → up R.cuts b = none → Can R k p none (some (a + 1)) → Can R k p none (some (b + 1)) := by
    intro k
    induction k with
    | zero => intros; trivial
    | succ k ih =>
      rintro p a b ha hb ⟨y, hy, h⟩
      cases y with
      | none => exact ⟨none, trivial, h⟩
      | some v =>
        refine ⟨some (b + 1), by simp [geO], ?_⟩
        have hv : a + 1 ≤ v := hy
        have uv : ∀ x : Int, a ≤ x ∨ b ≤ x → up R.cuts x = none := fun x hx => by
          rw [up_none] at ha hb ⊢
          intro m hm
          have h1 := ha m hm
          have h2 := hb m hm
          omega
        have ev : up R.cuts v = none := uv v (.inl (by omega))
        have eb : up R.cuts (b + 1) = none := uv (b + 1) (.inr (by omega))
        have cv : ∀ x : Int, a < x ∨ b < x → ceil R.cuts x = none := fun x hx => by
          rw [ceil_none]
          rw [up_none] at ha hb
          intro m hm
          have h1 := ha m hm
          have h2 := hb m hm
          omega
        show Aft R (Can R k) (k = 0) none (some (b + 1)) (R.pr p 0)
        have h' : Aft R (Can R k) (k = 0) none (some v) (R.pr p 0) := h
        revert h'
        generalize R.pr p 0 = m
        obtain ⟨m, q⟩ := m
        intro h'
        cases m with
        | wait =>
          have e : v = (v - 1) + 1 := by omega
          have h2 : Can R k q none (some v) := h'
          rw [e] at h2
          exact ih q _ _ (uv _ (.inl (by omega))) hb h2
        | take =>
          have h2 : Can R k q (up R.cuts v) (some (v + 1)) := h'
          show Can R k q (up R.cuts (b + 1)) (some (b + 1 + 1))
          rw [ev] at h2
          rw [eb]
          exact ih q _ _ ev eb h2
        | next =>
          have e1 : (some v).bind (ceil R.cuts) = none := cv v (.inl (by omega))
          have e2 : (some (b + 1)).bind (ceil R.cuts) = none := cv (b + 1) (.inr (by omega))
          have h2 : Gets R (Can R k) (k = 0) q ((some v).bind (ceil R.cuts)) := h'
          show Gets R (Can R k) (k = 0) q ((some (b + 1)).bind (ceil R.cuts))
          rw [e1] at h2
          rw [e2]
          exact h2
        | out => exact h'
  intro k p h
  exact go k p a b ha hb h

/-! ## The values -/
theorem val_exists (R : Rule) (p : Nat) (u l : Option Int) : ∃ v, Is (fun k => Can R k p u l) v := is_exists trivial fun _ h => h.down
noncomputable def val (R : Rule) (p : Nat) (u l : Option Int) : Option Int := Classical.choose (val_exists R p u l)
theorem val_is (R : Rule) (p : Nat) (u l : Option Int) : Is (fun k => Can R k p u l) (val R p u l) := Classical.choose_spec (val_exists R p u l)
theorem val_can {R : Rule} {p k : Nat} {u l : Option Int} : Can R k p u l ↔ leI k (val R p u l) := (val_is R p u l).2 k
theorem val_pos {R : Rule} {p : Nat} {u l : Option Int} : leI 1 (val R p u l) := (val_can (k := 1)).mp Can.one
theorem val_of {R : Rule} {p : Nat} {u l : Option Int} {w : Option Int} (h1 : leI 1 w) (h : ∀ k : Nat, Can R (k + 1) p u l ↔ leI (k + 1 : Nat) w) : val R p u l = w := by
  refine (val_is R p u l).uniq ⟨leI_mono (by omega) h1, fun k => ?_⟩
  cases k with
  | zero => exact ⟨fun _ => leI_mono (by omega) h1, fun _ => trivial⟩
  | succ k => exact h k
noncomputable def far (R : Rule) (p : Nat) (u : Option Int) : Option Int := val R p u (u.map (· + 1))
noncomputable def att (R : Rule) (p : Nat) (m : Int) : Option Int := val R p (some m) (some m)
noncomputable def late (R : Rule) (p : Nat) (u : Option Int) : Option Int :=
  match u with
  | none => far R p none
  | some m => att R p m
noncomputable def fresh (R : Rule) (p : Nat) (e : Int) : Option Int := val R p (up R.cuts e) (some (e + 1))
theorem fresh_pos {R : Rule} {p : Nat} {e : Int} : leI 1 (fresh R p e) := val_pos
theorem fresh_nn {R : Rule} {p : Nat} {e : Int} : leI 0 (fresh R p e) := leI_mono (by omega) fresh_pos
theorem late_pos {R : Rule} {p : Nat} {u : Option Int} : leI 1 (late R p u) := by cases u <;> exact val_pos
theorem far_pos {R : Rule} {p : Nat} {u : Option Int} : leI 1 (far R p u) := val_pos
theorem att_pos {R : Rule} {p : Nat} {m : Int} : leI 1 (att R p m) := val_pos
theorem fresh_outer {R : Rule} {p : Nat} {a b : Int} (ha : up R.cuts a = none) (hb : up R.cuts b = none) : fresh R p a = fresh R p b := by
  unfold fresh
  rw [ha, hb]
  refine val_of val_pos fun k => ?_
  rw [← val_can]
  exact ⟨Can.outer ha hb, Can.outer hb ha⟩

theorem cast1 (k : Nat) : ((k + 1 : Nat) : Int) - 1 = (k : Int) := by omega
theorem cast0 {k : Nat} : k = 0 ↔ leI ((k + 1 : Nat) : Int) (some 1) := by simp only [leI]; omega

/-! ### far -/
theorem case_far {m v : Int} (h : m + 1 ≤ v) : caseO (some m) (some v) = 2 := by
  simp only [caseO]
  rw [if_neg (by omega), if_neg (by omega)]
theorem far_case {u y : Option Int} (h : geO (u.map (· + 1)) y) : caseO u y = 2 := by
  cases y with
  | none => rfl
  | some v => cases u with
    | none => exact h.elim
    | some m => exact case_far h
theorem far_wait {R : Rule} {p q : Nat} {u : Option Int} (h : R.pr p 2 = (.wait, q)) : far R p u = plusI (far R q u) 1 := by
  refine val_of (leI_plus.mpr (leI_mono (by omega) far_pos)) fun k => ?_
  rw [leI_plus, cast1]
  constructor
  · rintro ⟨y, hy, hA⟩
    rw [far_case hy, h] at hA
    exact val_can.mp (Can.low (show Can R k q u y from hA) hy)
  · intro hk
    refine ⟨u.map (· + 1), geO_self, ?_⟩
    rw [far_case geO_self, h]
    exact val_can.mpr hk
theorem far_stop {R : Rule} {p q : Nat} {m : Mv} {u : Option Int} (h : R.pr p 2 = (m, q)) (hm : m ≠ .wait) (ho : m = .out ∨ u = none) : far R p u = some 1 := by
  refine val_of (by simp [leI]) fun k => ?_
  rw [← cast0]
  constructor
  · rintro ⟨y, hy, hA⟩
    rw [far_case hy, h] at hA
    rcases ho with rfl | rfl
    · exact hA
    · have e := geO_none.mp hy
      subst e
      cases m with
      | wait => exact absurd rfl hm
      | take => exact hA
      | next => exact hA
      | out => exact hA
  · intro hk
    refine ⟨none, by cases u <;> simp [geO], ?_⟩
    rw [far_case (by cases u <;> simp [geO]), h]
    cases m with
    | wait => exact absurd rfl hm
    | take => exact hk
    | next => exact hk
    | out => exact hk
/-- ascending marks -/
def Asc (cuts : List Int) : Prop := cuts.Pairwise (· < ·)
theorem find_first {cuts : List Int} (hA : Asc cuts) {f : Int → Bool} {m : Int} (h : cuts.find? f = some m) : ∀ n ∈ cuts, f n = true → m ≤ n := by
  induction cuts with
  | nil => simp at h
  | cons c r ih =>
    intro n hn hf
    rw [List.find?_cons] at h
    unfold Asc at hA
    rw [List.pairwise_cons] at hA
    cases hc : f c with
    | true =>
      rw [hc] at h
      have e : c = m := Option.some.inj h
      rcases List.mem_cons.mp hn with rfl | hr
      · omega
      · have := hA.1 n hr; omega
    | false =>
      rw [hc] at h
      rcases List.mem_cons.mp hn with rfl | hr
      · rw [hc] at hf; cases hf
      · exact ih hA.2 h n hr hf
theorem up_least {cuts : List Int} (hA : Asc cuts) {v m : Int} (h : up cuts v = some m) : ∀ n ∈ cuts, v < n → m ≤ n := fun n hn hv => find_first hA h n hn (by simpa using hv)
theorem ceil_least {cuts : List Int} (hA : Asc cuts) {v m : Int} (h : ceil cuts v = some m) : ∀ n ∈ cuts, v ≤ n → m ≤ n := fun n hn hv => find_first hA h n hn (by simpa using hv)
theorem up_eq {cuts : List Int} (hA : Asc cuts) {v m : Int} (hm : m ∈ cuts) (hv : v < m) (hl : ∀ n ∈ cuts, v < n → m ≤ n) : up cuts v = some m := by
  cases h : up cuts v with
  | none => have := up_none.mp h m hm; omega
  | some n =>
    have h1 := up_lt h
    have h2 := up_least hA h m hm hv
    have h3 := hl n h1.1 h1.2
    have : n = m := by omega
    rw [this]
theorem ceil_self {cuts : List Int} (hA : Asc cuts) {m : Int} (hm : m ∈ cuts) : ceil cuts m = some m := by
  cases h : ceil cuts m with
  | none => have := ceil_none.mp h m hm; omega
  | some n =>
    have h1 := ceil_le h
    have h2 := ceil_least hA h m hm (Int.le_refl _)
    have : n = m := by omega
    rw [this]
/-- two ends with no mark between have the same upper mark -/
theorem up_same {cuts : List Int} (hA : Asc cuts) {a b : Int} (hab : a ≤ b) (hn : ∀ m ∈ cuts, m ≤ a ∨ b < m) : up cuts a = up cuts b := by
  cases h : up cuts b with
  | none =>
    rw [up_none] at h ⊢
    intro m hm
    have h1 := h m hm
    have h2 := hn m hm
    omega
  | some m =>
    have h1 := up_lt h
    refine up_eq hA h1.1 (by omega) fun n hn' hv => up_least hA h n hn' ?_
    have := hn n hn'
    omega
/-- the least ends above u, gap by gap -/
def tgs (cuts : List Int) (u : Int) : List Int := (u + 1) :: cuts.filter fun m => decide (u + 1 < m)
theorem fresh_le {R : Rule} {p k : Nat} {a b : Int} (hab : a ≤ b) (h : up R.cuts a = up R.cuts b) (hb : leI k (fresh R p b)) : leI k (fresh R p a) := by
  unfold fresh at *
  rw [h]
  rw [← val_can] at hb ⊢
  exact hb.low (by simp only [geO]; omega)
theorem tgs_best {cuts : List Int} (hA : Asc cuts) {u v : Int} (h : u + 1 ≤ v) : ∃ e ∈ tgs cuts u, e ≤ v ∧ up cuts e = up cuts v := by
  have key : ∀ l : List Int, ∃ e ∈ (u + 1) :: l.filter (fun m => decide (u + 1 < m)), e ≤ v ∧ ∀ m ∈ l, m ≤ e ∨ v < m := by
    intro l
    induction l with
    | nil => exact ⟨u + 1, by simp, h, by simp⟩
    | cons c r ih =>
      obtain ⟨e, he, hev, hr⟩ := ih
      have mono : e ∈ (u + 1) :: (c :: r).filter (fun m => decide (u + 1 < m)) := by
        rcases List.mem_cons.mp he with rfl | he
        · exact List.mem_cons_self
        · refine List.mem_cons_of_mem _ ?_
          rw [List.filter_cons]
          split
          · exact List.mem_cons_of_mem _ he
          · exact he
      by_cases hc : c ≤ e ∨ v < c
      · exact ⟨e, mono, hev, fun m hm => by
          rcases List.mem_cons.mp hm with rfl | hm
          · exact hc
          · exact hr m hm⟩
      · have he' : u + 1 ≤ e := by
          rcases List.mem_cons.mp he with rfl | he
          · omega
          · have := (List.mem_filter.mp he).2
            simp at this; omega
        refine ⟨c, ?_, by omega, fun m hm => ?_⟩
        · refine List.mem_cons_of_mem _ ?_
          rw [List.filter_cons, if_pos (by simp; omega)]
          exact List.mem_cons_self
        · rcases List.mem_cons.mp hm with rfl | hm
          · omega
          · have := hr m hm; omega
  obtain ⟨e, he, hev, hr⟩ := key cuts
  exact ⟨e, he, hev, up_same hA hev hr⟩
theorem far_take {R : Rule} (hA : Asc R.cuts) {p q : Nat} {u : Int} (h : R.pr p 2 = (.take, q)) : far R p (some u) = plusI (greatI (some 0 :: (tgs R.cuts u).map (fresh R q))) 1 := by
  refine val_of (leI_plus.mpr ((leI_great (by simp)).mpr ⟨some 0, List.mem_cons_self, by simp [leI]⟩)) fun k => ?_
  rw [leI_plus, cast1, leI_great (by simp)]
  constructor
  · rintro ⟨y, hy, hA'⟩
    rw [far_case hy, h] at hA'
    cases y with
    | none => exact ⟨some 0, List.mem_cons_self, by have z : k = 0 := hA'; subst z; simp [leI]⟩
    | some v =>
      have hc : Can R k q (up R.cuts v) (some (v + 1)) := hA'
      obtain ⟨e, he, hev, hu⟩ := tgs_best hA (show u + 1 ≤ v from hy)
      exact ⟨fresh R q e, List.mem_cons_of_mem _ (List.mem_map.mpr ⟨e, he, rfl⟩), fresh_le hev hu (val_can.mp hc)⟩
  · rintro ⟨v, hv, hk⟩
    rcases List.mem_cons.mp hv with rfl | hv
    · refine ⟨none, trivial, ?_⟩
      rw [far_case (u := some u) (y := none) trivial, h]
      show k = 0
      simp only [leI] at hk; omega
    · obtain ⟨e, he, rfl⟩ := List.mem_map.mp hv
      have hue : u + 1 ≤ e := by
        rcases List.mem_cons.mp he with rfl | he
        · omega
        · have := (List.mem_filter.mp he).2
          simp at this; omega
      refine ⟨some e, hue, ?_⟩
      rw [case_far hue, h]
      exact val_can.mpr hk
theorem far_next {R : Rule} (hA : Asc R.cuts) {p q : Nat} {u : Int} (h : R.pr p 2 = (.next, q)) :
    far R p (some u) = plusI (greatI (some 0 :: (R.cuts.filter fun m => decide (u < m)).map (fresh R q))) 1 := by
  refine val_of (leI_plus.mpr ((leI_great (by simp)).mpr ⟨some 0, List.mem_cons_self, by simp [leI]⟩)) fun k => ?_
  rw [leI_plus, cast1, leI_great (by simp)]
  constructor
  · rintro ⟨y, hy, hA'⟩
    rw [far_case hy, h] at hA'
    have hA2 : Gets R (Can R k) (k = 0) q (y.bind (ceil R.cuts)) := hA'
    cases hm : y.bind (ceil R.cuts) with
    | none =>
      rw [hm] at hA2
      exact ⟨some 0, List.mem_cons_self, by have z : k = 0 := hA2; subst z; simp [leI]⟩
    | some m =>
      rw [hm] at hA2
      cases y with
      | none => cases hm
      | some v =>
        have hm' := ceil_le (show ceil R.cuts v = some m from hm)
        refine ⟨fresh R q m, List.mem_cons_of_mem _ (List.mem_map.mpr ⟨m, List.mem_filter.mpr ⟨hm'.1, ?_⟩, rfl⟩), val_can.mp hA2⟩
        have : u + 1 ≤ v := hy
        have := hm'.2
        simp; omega
  · rintro ⟨v, hv, hk⟩
    rcases List.mem_cons.mp hv with rfl | hv
    · refine ⟨none, trivial, ?_⟩
      rw [far_case (u := some u) (y := none) trivial, h]
      show k = 0
      simp only [leI] at hk; omega
    · obtain ⟨e, he, rfl⟩ := List.mem_map.mp hv
      obtain ⟨he1, he2⟩ := List.mem_filter.mp he
      have hue : u + 1 ≤ e := by simp at he2; omega
      refine ⟨some e, hue, ?_⟩
      rw [case_far hue, h]
      show Gets R (Can R k) (k = 0) q ((some e).bind (ceil R.cuts))
      rw [show (some e).bind (ceil R.cuts) = some e from ceil_self hA he1]
      exact val_can.mpr hk

/-! ### at -/
theorem case_at {m : Int} : caseO (some m) (some m) = 1 := by
  simp only [caseO]
  rw [if_neg (by omega), if_pos trivial]
theorem att_split {R : Rule} {p k : Nat} {m : Int} : leI ((k + 1 : Nat) : Int) (att R p m) ↔ leI ((k + 1 : Nat) : Int) (far R p (some m)) ∨ Aft R (Can R k) (k = 0) (some m) (some m) (R.pr p 1) := by
  unfold att far
  rw [← val_can, ← val_can]
  constructor
  · rintro ⟨y, hy, hA⟩
    cases y with
    | none => exact .inl ⟨none, trivial, hA⟩
    | some v =>
      by_cases hv : v = m
      · subst hv
        rw [case_at] at hA
        exact .inr hA
      · exact .inl ⟨some v, by have : m ≤ v := hy; show m + 1 ≤ v; omega, hA⟩
  · rintro (⟨y, hy, hA⟩ | hA)
    · refine ⟨y, geO_trans (show geO (some m) (some (m + 1)) by simp only [geO]; omega) hy, hA⟩
    · exact ⟨some m, geO_self, by rw [case_at]; exact hA⟩
theorem att_of {R : Rule} {p : Nat} {m : Int} {w : Option Int} (h : ∀ k : Nat, Aft R (Can R k) (k = 0) (some m) (some m) (R.pr p 1) ↔ leI k w) : att R p m = maxI (far R p (some m)) (plusI w 1) := by
  refine val_of (leI_max.mpr (.inl far_pos)) fun k => ?_
  rw [show Can R (k + 1) p (some m) (some m) ↔ leI ((k + 1 : Nat) : Int) (att R p m) from val_can, att_split, leI_max, leI_plus, cast1, h]
theorem att_wait {R : Rule} {p q : Nat} {m : Int} (h : R.pr p 1 = (.wait, q)) : att R p m = maxI (far R p (some m)) (plusI (att R q m) 1) :=
  att_of fun k => by rw [h]; exact val_can
theorem att_out {R : Rule} {p q : Nat} {m : Int} (h : R.pr p 1 = (.out, q)) : att R p m = maxI (far R p (some m)) (plusI (some 0) 1) :=
  att_of fun k => by rw [h]; show k = 0 ↔ (k : Int) ≤ 0; omega
theorem att_go {R : Rule} (hA : Asc R.cuts) {p q : Nat} {m : Int} {mv : Mv} (hm : m ∈ R.cuts) (h : R.pr p 1 = (mv, q)) (h1 : mv ≠ .wait) (h2 : mv ≠ .out) : att R p m = maxI (far R p (some m)) (plusI (fresh R q m) 1) := by
  refine att_of fun k => ?_
  rw [h]
  cases mv with
  | wait => exact absurd rfl h1
  | out => exact absurd rfl h2
  | take => exact val_can
  | next =>
    show Gets R (Can R k) (k = 0) q ((some m).bind (ceil R.cuts)) ↔ _
    rw [show (some m).bind (ceil R.cuts) = some m from ceil_self hA hm]
    exact val_can

/-! ### near -/
theorem fresh_stop {R : Rule} {p : Nat} {e m : Int} (hu : up R.cuts e = some m) (he : m ≤ e + 1) : fresh R p e = late R p (some m) := by
  have h1 := (up_lt hu).2
  unfold fresh late att
  rw [hu, show e + 1 = m by omega]
/-- there is room for a near element -/
def Rm (u : Option Int) (e : Int) : Prop := ∀ m, u = some m → e + 1 < m
theorem case_near {u : Option Int} {v : Int} (h : ∀ m, u = some m → v < m) : caseO u (some v) = 0 := by
  cases u with
  | none => rfl
  | some m => simp only [caseO]; rw [if_pos (h m rfl)]
theorem fresh_split {R : Rule} {p k : Nat} {e : Int} {u : Option Int} (hu : up R.cuts e = u) : leI ((k + 1 : Nat) : Int) (fresh R p e) ↔
    leI ((k + 1 : Nat) : Int) (late R p u) ∨ ∃ v, e + 1 ≤ v ∧ (∀ m, u = some m → v < m) ∧ Aft R (Can R k) (k = 0) u (some v) (R.pr p 0) := by
  unfold fresh
  rw [hu, ← val_can]
  constructor
  · rintro ⟨y, hy, hA⟩
    cases u with
    | none =>
      cases y with
      | none => exact .inl (val_can.mp ⟨none, trivial, hA⟩)
      | some v => exact .inr ⟨v, hy, fun _ z => (nomatch z), hA⟩
    | some m =>
      cases y with
      | none => exact .inl (val_can.mp ⟨none, trivial, hA⟩)
      | some v =>
        by_cases hv : v < m
        · rw [case_near (fun n z => by cases z; exact hv)] at hA
          exact .inr ⟨v, hy, fun n z => by cases z; exact hv, hA⟩
        · exact .inl (val_can.mp ⟨some v, by show m ≤ v; omega, hA⟩)
  · rintro (h | ⟨v, hv, hm, hA⟩)
    · cases u with
      | none =>
        obtain ⟨y, hy, hA⟩ := val_can.mpr (show leI ((k + 1 : Nat) : Int) (val R p none none) from h)
        exact ⟨y, geO_trans (show geO (some (e + 1)) none from trivial) hy, hA⟩
      | some m =>
        obtain ⟨y, hy, hA⟩ := val_can.mpr (show leI ((k + 1 : Nat) : Int) (val R p (some m) (some m)) from h)
        have := (up_lt hu).2
        exact ⟨y, geO_trans (show geO (some (e + 1)) (some m) by simp only [geO]; omega) hy, hA⟩
    · exact ⟨some v, hv, by rw [case_near hm]; exact hA⟩
theorem fresh_of {R : Rule} {p : Nat} {e : Int} {u w : Option Int} (hu : up R.cuts e = u)
    (h : ∀ k : Nat, (∃ v, e + 1 ≤ v ∧ (∀ m, u = some m → v < m) ∧ Aft R (Can R k) (k = 0) u (some v) (R.pr p 0)) ↔ leI k w) : fresh R p e = maxI (late R p u) (plusI w 1) := by
  refine val_of (leI_max.mpr (.inl late_pos)) fun k => ?_
  rw [show Can R (k + 1) p (up R.cuts e) (some (e + 1)) ↔ leI ((k + 1 : Nat) : Int) (fresh R p e) from val_can, fresh_split hu, leI_max, leI_plus, cast1, h]
theorem near_out {R : Rule} {p q : Nat} {e : Int} {u : Option Int} (hu : up R.cuts e = u) (hr : Rm u e) (h : R.pr p 0 = (.out, q)) : fresh R p e = maxI (late R p u) (plusI (some 0) 1) := by
  refine fresh_of hu fun k => ?_
  rw [h]
  constructor
  · rintro ⟨v, _, _, hA⟩
    have : k = 0 := hA
    simp only [leI]; omega
  · intro hk
    exact ⟨e + 1, Int.le_refl _, hr, by simp only [leI] at hk; show k = 0; omega⟩
theorem near_next_out {R : Rule} {p q : Nat} {e : Int} (hu : up R.cuts e = none) (h : R.pr p 0 = (.next, q)) : fresh R p e = maxI (late R p none) (plusI (some 0) 1) := by
  refine fresh_of hu fun k => ?_
  rw [h]
  have hc : ∀ v, e + 1 ≤ v → (some v).bind (ceil R.cuts) = none := fun v hv => by
    show ceil R.cuts v = none
    rw [ceil_none]
    rw [up_none] at hu
    intro m hm
    have := hu m hm
    omega
  constructor
  · rintro ⟨v, hv, _, hA⟩
    have hA2 : Gets R (Can R k) (k = 0) q ((some v).bind (ceil R.cuts)) := hA
    rw [hc v hv] at hA2
    have : k = 0 := hA2
    simp only [leI]; omega
  · intro hk
    refine ⟨e + 1, Int.le_refl _, fun _ z => (nomatch z), ?_⟩
    show Gets R (Can R k) (k = 0) q ((some (e + 1)).bind (ceil R.cuts))
    rw [hc _ (Int.le_refl _)]
    simp only [leI] at hk
    show k = 0
    omega
theorem near_next {R : Rule} (hA : Asc R.cuts) {p q : Nat} {e m : Int} (hu : up R.cuts e = some m) (hr : e + 1 < m) (h : R.pr p 0 = (.next, q)) : fresh R p e = maxI (late R p (some m)) (plusI (fresh R q m) 1) := by
  refine fresh_of hu fun k => ?_
  rw [h]
  have hm := up_lt hu
  have hc : ∀ v, e + 1 ≤ v → v < m → (some v).bind (ceil R.cuts) = some m := fun v hv hvm => by
    show ceil R.cuts v = some m
    cases hx : ceil R.cuts v with
    | none => have := ceil_none.mp hx m hm.1; omega
    | some n =>
      have h1 := ceil_le hx
      have h2 := ceil_least hA hx m hm.1 (by omega)
      have h3 := up_least hA hu n h1.1 (by omega)
      have : n = m := by omega
      rw [this]
  constructor
  · rintro ⟨v, hv, hvm, hA'⟩
    have hA2 : Gets R (Can R k) (k = 0) q ((some v).bind (ceil R.cuts)) := hA'
    rw [hc v hv (hvm m rfl)] at hA2
    exact val_can.mp hA2
  · intro hk
    refine ⟨e + 1, Int.le_refl _, fun n z => by cases z; exact hr, ?_⟩
    show Gets R (Can R k) (k = 0) q ((some (e + 1)).bind (ceil R.cuts))
    rw [hc _ (Int.le_refl _) hr]
    exact val_can.mpr hk
theorem near_wait {R : Rule} {p q : Nat} {e : Int} {u : Option Int} (hu : up R.cuts e = u) (hr : Rm u e) (h : R.pr p 0 = (.wait, q)) : fresh R p e = maxI (late R p u) (plusI (fresh R q e) 1) := by
  refine fresh_of hu fun k => ?_
  rw [h]
  unfold fresh
  rw [hu, ← val_can]
  constructor
  · rintro ⟨v, hv, _, hA⟩
    exact Can.low (show Can R k q u (some v) from hA) hv
  · intro hk
    exact ⟨e + 1, Int.le_refl _, hr, hk⟩
theorem up_step {cuts : List Int} (hA : Asc cuts) {e v : Int} {u : Option Int} (hu : up cuts e = u) (h : e ≤ v) (hm : ∀ m, u = some m → v < m) : up cuts v = u := by
  rw [← hu]
  refine (up_same hA h fun m hm' => ?_).symm
  by_cases q : m ≤ e
  · exact .inl q
  · refine .inr ?_
    cases hx : u with
    | none =>
      rw [hx] at hu
      have := up_none.mp hu m hm'
      omega
    | some n =>
      rw [hx] at hu
      have h1 := hm n hx
      have h2 := up_least hA hu m hm' (by omega)
      omega
theorem near_take {R : Rule} (hA : Asc R.cuts) {p q : Nat} {e : Int} {u : Option Int} (hu : up R.cuts e = u) (hr : Rm u e) (h : R.pr p 0 = (.take, q)) : fresh R p e = maxI (late R p u) (plusI (fresh R q (e + 1)) 1) := by
  refine fresh_of hu fun k => ?_
  rw [h]
  have hup : ∀ v, e + 1 ≤ v → (∀ m, u = some m → v < m) → up R.cuts v = u := fun v hv hm => up_step hA hu (by omega) hm
  unfold fresh
  rw [hup (e + 1) (Int.le_refl _) hr, ← val_can]
  constructor
  · rintro ⟨v, hv, hm, hA'⟩
    have h2 : Can R k q (up R.cuts v) (some (v + 1)) := hA'
    rw [hup v hv hm] at h2
    exact h2.low (by simp only [geO]; omega)
  · intro hk
    refine ⟨e + 1, Int.le_refl _, hr, ?_⟩
    show Can R k q (up R.cuts (e + 1)) (some (e + 1 + 1))
    rw [hup (e + 1) (Int.le_refl _) hr]
    exact hk
end K37
set_option linter.all false
namespace K37

/-! ## the near chain -/
def exq (R : Rule) (p : Nat) : Bool := (R.pr p 0).1 == .next || (R.pr p 0).1 == .out
def nx (R : Rule) (p : Nat) : Nat := (R.pr p 0).2
def tk (R : Rule) (p : Nat) : Int := if (R.pr p 0).1 = .take then 1 else 0
def ch (R : Rule) (p : Nat) : Nat → Nat
  | 0 => p
  | i + 1 => nx R (ch R p i)
def tks (R : Rule) (p : Nat) : Nat → Int
  | 0 => 0
  | i + 1 => tks R p i + tk R (ch R p i)
/-- the near chain from phase 0 comes to an end -/
def Exits (R : Rule) : Prop := ∃ j, exq R (ch R 0 j) = true

theorem tk_nn (R : Rule) (p : Nat) : 0 ≤ tk R p ∧ tk R p ≤ 1 := by unfold tk; split <;> omega
theorem tks_nn (R : Rule) (p : Nat) : ∀ i, 0 ≤ tks R p i ∧ tks R p i ≤ i
  | 0 => by simp [tks]
  | i + 1 => by
    have h1 := tks_nn R p i
    have h2 := tk_nn R (ch R p i)
    simp only [tks]; omega
theorem ch_add (R : Rule) (p i : Nat) : ∀ j, ch R p (i + j) = ch R (ch R p i) j
  | 0 => rfl
  | j + 1 => by
    show nx R (ch R p (i + j)) = nx R (ch R (ch R p i) j)
    rw [ch_add R p i j]
theorem tks_add (R : Rule) (p i : Nat) : ∀ j, tks R p (i + j) = tks R p i + tks R (ch R p i) j
  | 0 => by simp [tks]
  | j + 1 => by
    show tks R p (i + j) + tk R (ch R p (i + j)) = tks R p i + (tks R (ch R p i) j + tk R (ch R (ch R p i) j))
    rw [tks_add R p i j, ch_add R p i j]
    omega
theorem tks_mono (R : Rule) (p : Nat) {i j : Nat} (h : i ≤ j) : tks R p i ≤ tks R p j := by
  have e : j = i + (j - i) := by omega
  rw [e, tks_add]
  have := tks_nn R (ch R p i) (j - i)
  omega

theorem near_step {R : Rule} (hA : Asc R.cuts) {p : Nat} {e : Int} {u : Option Int} (hu : up R.cuts e = u) (hr : Rm u e) (h : exq R p = false) :
    fresh R p e = maxI (late R p u) (plusI (fresh R (nx R p) (e + tk R p)) 1) := by
  unfold exq at h
  cases hm : R.pr p 0 with
  | mk m q =>
    rw [hm] at h
    cases m with
    | next => simp at h
    | out => simp at h
    | wait =>
      have e1 : tk R p = 0 := by unfold tk; rw [hm]; rfl
      have e2 : nx R p = q := by unfold nx; rw [hm]
      rw [e1, e2, Int.add_zero]
      exact near_wait hu hr hm
    | take =>
      have e1 : tk R p = 1 := by unfold tk; rw [hm]; rfl
      have e2 : nx R p = q := by unfold nx; rw [hm]
      rw [e1, e2]
      exact near_take hA hu hr hm
theorem late_le {R : Rule} {p : Nat} {e : Int} {u : Option Int} (hu : up R.cuts e = u) {k : Int} (h : leI k (late R p u)) : leI k (fresh R p e) := by
  by_cases hk : 1 ≤ k
  · obtain ⟨n, rfl⟩ : ∃ n : Nat, k = ((n + 1 : Nat) : Int) := ⟨(k - 1).toNat, by omega⟩
    exact (fresh_split hu).mpr (.inl h)
  · exact leI_mono (show k ≤ 1 by omega) fresh_pos
/-- up stays along the way -/
theorem up_at {cuts : List Int} (hA : Asc cuts) {e t : Int} {u : Option Int} (hu : up cuts e = u) (ht : 0 ≤ t) (h : ∀ m, u = some m → e + t + 1 ≤ m) : up cuts (e + t) = u :=
  up_step hA hu (by omega) fun m hm => by have := h m hm; omega
/-- the values along a chain: i near rounds first -/
theorem chain_le {R : Rule} (hA : Asc R.cuts) {u : Option Int} : ∀ (i : Nat) (p : Nat) (e : Int), up R.cuts e = u → (∀ j, j < i → exq R (ch R p j) = false) → (∀ j, j < i → Rm u (e + tks R p j)) →
    (∀ m, u = some m → e + tks R p i + 1 ≤ m) → ∀ k, leI k (fresh R (ch R p i) (e + tks R p i)) → leI (k + i) (fresh R p e)
  | 0, p, e, _, _, _, _, k, h => by simpa [tks, ch] using h
  | i + 1, p, e, hu, hn, hr, hend, k, h => by
    have h0 : Rm u e := by have := hr 0 (by omega); simpa [tks] using this
    have hx : exq R p = false := by have := hn 0 (by omega); simpa [ch] using this
    rw [near_step hA hu h0 hx, leI_max, leI_plus]
    refine .inr ?_
    have hc : ∀ j, ch R (nx R p) j = ch R p (j + 1) := fun j => by rw [Nat.add_comm, ch_add]; rfl
    have ht : ∀ j, tks R p (j + 1) = tk R p + tks R (nx R p) j := fun j => by rw [Nat.add_comm, tks_add]; simp [tks, ch]
    have htk := tk_nn R p
    have hu2 : up R.cuts (e + tk R p) = u := up_at hA hu htk.1 fun m hm => by have := h0 m hm; omega
    have := chain_le hA i (nx R p) (e + tk R p) hu2 (fun j hj => by rw [hc]; exact hn (j + 1) (by omega)) (fun j hj => by
      have := hr (j + 1) (by omega)
      rw [ht] at this
      rw [Int.add_assoc]; exact this) (fun m hm => by
      have := hend m hm
      rw [ht] at this; omega) k (by
      rw [hc, Int.add_assoc, ← ht]; exact h)
    have e1 : k + ((i + 1 : Nat) : Int) - 1 = k + (i : Int) := by omega
    rw [e1]
    exact this

/-- a ring of near moves -/
structure Ring (R : Rule) (n q len : Nat) : Prop where
  pos : 0 < len
  back : ch R q len = q
  near : ∀ j, j < len → exq R (ch R q j) = false
  nd : ∀ i j, i < len → j < len → ch R q i = ch R q j → i = j
  lt : ∀ j, j < len → ch R q j < n
theorem Ring.all {R : Rule} {n q len : Nat} (G : Ring R n q len) : ∀ j, ∃ i, i < len ∧ ch R q j = ch R q i
  | 0 => ⟨0, G.pos, rfl⟩
  | j + 1 => by
    obtain ⟨i, hi, e⟩ := G.all j
    have e1 : ch R q (j + 1) = ch R q (i + 1) := by show nx R (ch R q j) = nx R (ch R q i); rw [e]
    by_cases h : i + 1 < len
    · exact ⟨i + 1, h, e1⟩
    · refine ⟨0, G.pos, ?_⟩
      have : i + 1 = len := by omega
      rw [e1, this, G.back]; rfl
theorem Ring.no_zero {R : Rule} {n q len : Nat} (G : Ring R n q len) (h : Exits R) (j : Nat) : ch R q j ≠ 0 := by
  intro z
  obtain ⟨t, ht⟩ := h
  have e : ch R q (j + t) = ch R 0 t := by rw [ch_add, z]
  obtain ⟨i, hi, e2⟩ := G.all (j + t)
  rw [← e, e2, G.near i hi] at ht
  cases ht
theorem Ring.short {R : Rule} {n q len : Nat} (G : Ring R n q len) (hn : n ≤ 3) (h : Exits R) : len ≤ 2 := by
  refine Classical.byContradiction fun z => ?_
  have a0 := G.no_zero h 0
  have a1 := G.no_zero h 1
  have a2 := G.no_zero h 2
  have b0 := G.lt 0 (by omega)
  have b1 := G.lt 1 (by omega)
  have b2 := G.lt 2 (by omega)
  have c1 : ch R q 0 ≠ ch R q 1 := fun e => by have := G.nd 0 1 (by omega) (by omega) e; omega
  have c2 : ch R q 0 ≠ ch R q 2 := fun e => by have := G.nd 0 2 (by omega) (by omega) e; omega
  have c3 : ch R q 1 ≠ ch R q 2 := fun e => by have := G.nd 1 2 (by omega) (by omega) e; omega
  omega
/-- one turn of the ring, where another can follow -/
theorem Ring.shift {R : Rule} (hA : Asc R.cuts) {n q len : Nat} (G : Ring R n q len) (hl : len ≤ 2) {e : Int} {u : Option Int} (hu : up R.cuts e = u) (hr : Rm u (e + tks R q len)) :
    fresh R q e = plusI (fresh R q (e + tks R q len)) len := by
  have ht := tks_nn R q len
  have hr' : ∀ t, t ≤ tks R q len → Rm u (e + t) := fun t ht' m hm => by have := hr m hm; omega
  have hut : ∀ t, 0 ≤ t → t ≤ tks R q len → up R.cuts (e + t) = u := fun t h0 h1 => up_at hA hu h0 fun m hm => by have := hr' t h1 m hm; omega
  have r0 : Rm u e := by have := hr' 0 ht.1; simpa using this
  have h0 : exq R q = false := G.near 0 G.pos
  have hlen : len = 1 ∨ len = 2 := by have := G.pos; omega
  rcases hlen with e0 | e0
  · subst e0
    have hb : nx R q = q := G.back
    have e1 : tks R q 1 = tk R q := by simp [tks, ch]
    have key := near_step hA hu r0 h0
    rw [hb, ← e1] at key
    refine leI_ext fun k => ?_
    rw [key, leI_max, leI_plus, leI_plus]
    exact ⟨fun h => h.elim (fun h => leI_mono (show k - 1 ≤ k by omega) (late_le (hut _ ht.1 (Int.le_refl _)) h)) id, .inr⟩
  · subst e0
    have hb : nx R (nx R q) = q := G.back
    have h1 : exq R (nx R q) = false := G.near 1 (by omega)
    have e2 : tks R q 2 = tk R q + tk R (nx R q) := by simp [tks, ch]
    have t1 := tk_nn R q
    have t2 := tk_nn R (nx R q)
    have key := near_step hA hu r0 h0
    have key2 := near_step hA (hut (tk R q) (by omega) (by omega)) (hr' (tk R q) (by omega)) h1
    rw [hb, Int.add_assoc, ← e2] at key2
    have key3 := near_step hA (hut _ ht.1 (Int.le_refl _)) hr h0
    have hu3 : up R.cuts (e + tks R q 2 + tk R q) = u := by
      rw [Int.add_assoc]
      refine up_at hA hu (by omega) fun m hm => ?_
      have := hr m hm
      omega
    refine leI_ext fun k => ?_
    rw [leI_plus]
    constructor
    · rw [key, leI_max, leI_plus, key2, leI_max, leI_plus]
      rintro (h | h | h)
      · exact leI_mono (show k - ((2 : Nat) : Int) ≤ k by omega) (late_le (hut _ ht.1 (Int.le_refl _)) h)
      · rw [key3, leI_max, leI_plus]
        exact .inr (leI_mono (show k - ((2 : Nat) : Int) - 1 ≤ k - 1 by omega) (late_le hu3 h))
      · exact leI_mono (show k - ((2 : Nat) : Int) ≤ k - 1 - 1 by omega) h
    · intro h
      rw [key, leI_max, leI_plus, key2, leI_max, leI_plus]
      exact .inr (.inr (leI_mono (show k - 1 - 1 ≤ k - ((2 : Nat) : Int) by omega) h))
theorem Ring.turns {R : Rule} (hA : Asc R.cuts) {n q len : Nat} (G : Ring R n q len) (hl : len ≤ 2) {e : Int} {u : Option Int} (hu : up R.cuts e = u) :
    ∀ t : Nat, (1 ≤ t → Rm u (e + t * tks R q len)) → fresh R q e = plusI (fresh R q (e + t * tks R q len)) (t * len)
  | 0, _ => by
    refine leI_ext fun k => ?_
    rw [leI_plus]; simp
  | t + 1, hr => by
    have ht := tks_nn R q len
    have hm : (t : Int) * tks R q len ≤ ((t + 1 : Nat) : Int) * tks R q len := Int.mul_le_mul_of_nonneg_right (by omega) ht.1
    have hp : 0 ≤ (t : Int) * tks R q len := Int.mul_nonneg (by omega) ht.1
    have ex : ((t + 1 : Nat) : Int) * tks R q len = (t : Int) * tks R q len + tks R q len := by
      rw [show ((t + 1 : Nat) : Int) = (t : Int) + 1 by omega, Int.add_mul, Int.one_mul]
    have ey : ((t + 1 : Nat) : Int) * (len : Int) = (t : Int) * (len : Int) + len := by
      rw [show ((t + 1 : Nat) : Int) = (t : Int) + 1 by omega, Int.add_mul, Int.one_mul]
    have hr1 := hr (by omega)
    have ih := G.turns hA hl hu t fun _ m hm' => by have := hr1 m hm'; omega
    have hu2 : up R.cuts (e + t * tks R q len) = u := up_at hA hu hp fun m hm' => by have := hr1 m hm'; omega
    have sh := G.shift hA hl hu2 (by rw [Int.add_assoc, ← ex]; exact hr1)
    rw [ih, sh]
    refine leI_ext fun k => ?_
    rw [leI_plus, leI_plus, leI_plus, ex, ey, Int.add_assoc]
    constructor <;> exact fun h => leI_mono (by omega) h

/-! ## the loop of fresh_value -/
def Cov (x : Option Int) (S : List (Option Int)) : Prop := ∀ k, leI k x ↔ ∃ v ∈ S, leI k v
theorem Cov.great {x : Option Int} {S : List (Option Int)} (h : Cov x S) (hS : S ≠ []) : greatI S = x := leI_ext fun k => (leI_great hS).trans (h k).symm
theorem cov_app {x v : Option Int} {S : List (Option Int)} : Cov x (S ++ [v]) ↔ ∀ k, leI k x ↔ (∃ w ∈ S, leI k w) ∨ leI k v := by
  unfold Cov
  refine forall_congr' fun k => ?_
  simp only [List.mem_append, List.mem_singleton, or_and_right, exists_or, exists_eq_left]
/-- ahead of a turn of the loop: met holds the chain from ps, L phases long; the end is e0 + taken -/
structure FI (R : Rule) (n p0 : Nat) (e0 : Int) (u : Option Int) (found : List (Option Int)) (ps L : Nat) (ms ts : Int) : Prop where
  asc : Asc R.cuts
  hn : n ≤ 3
  hu : up R.cuts e0 = u
  near : ∀ i, i < L → exq R (ch R ps i) = false
  nd : ∀ i j, i < L → j < L → ch R ps i = ch R ps j → i = j
  lt : ∀ i, i ≤ L → ch R ps i < n
  room : ∀ i, i < L → Rm u (e0 + ts + tks R ps i)
  ms0 : 0 ≤ ms
  ts0 : 0 ≤ ts
  fin : ∀ m, u = some m → e0 + ts + tks R ps L + 1 ≤ m
  cov : Exits R ∨ u = none → Cov (fresh R p0 e0) (found ++ [plusI (fresh R (ch R ps L) (e0 + ts + tks R ps L)) (ms + L)])
section
variable {R : Rule} {n p0 : Nat} {e0 : Int} {u : Option Int} {found : List (Option Int)} {ps L : Nat} {ms ts : Int}
theorem FI.upat (F : FI R n p0 e0 u found ps L ms ts) : up R.cuts (e0 + ts + tks R ps L) = u := by
  have := tks_nn R ps L
  rw [Int.add_assoc]
  exact up_at F.asc F.hu (by have := F.ts0; omega) fun m hm => by have := F.fin m hm; omega
theorem FI.upts (F : FI R n p0 e0 u found ps L ms ts) : up R.cuts (e0 + ts) = u := by
  have := tks_nn R ps L
  exact up_at F.asc F.hu F.ts0 fun m hm => by have := F.fin m hm; omega
theorem FI.start (hA : Asc R.cuts) (hn : n ≤ 3) (hp : p0 < n) : FI R n p0 e0 (up R.cuts e0) [] p0 0 0 0 where
  asc := hA
  hn := hn
  hu := rfl
  near := fun i h => by omega
  nd := fun i j h => by omega
  lt := fun i h => by have : i = 0 := by omega
                      subst this; exact hp
  room := fun i h => by omega
  ms0 := Int.le_refl _
  ts0 := Int.le_refl _
  fin := fun m hm => by have := (up_lt hm).2; simp only [tks]; omega
  cov := fun _ k => by
    simp only [List.nil_append, List.mem_singleton, exists_eq_left, leI_plus, ch, tks, Int.add_zero, Int.natCast_zero, Int.sub_zero]
/-- the late value is noted -/
theorem FI.noted (F : FI R n p0 e0 u found ps L ms ts) {v : Option Int} (hv : Exits R ∨ u = none → v = late R (ch R ps L) u) : FI R n p0 e0 u (found ++ [plusI v (ms + L)]) ps L ms ts := by
  refine { F with cov := fun c => ?_ }
  have h := cov_app.mp (F.cov c)
  refine cov_app.mpr fun k => ?_
  rw [h k]
  constructor
  · rintro (⟨w, hw, q⟩ | q)
    · exact .inl ⟨w, List.mem_append_left _ hw, q⟩
    · exact .inr q
  · rintro (⟨w, hw, q⟩ | q)
    · rcases List.mem_append.mp hw with hw | hw
      · exact .inl ⟨w, hw, q⟩
      · rw [List.mem_singleton] at hw
        subst hw
        rw [hv c, leI_plus] at q
        exact .inr (leI_plus.mpr (late_le F.upat q))
    · exact .inr q
/-- no room is left: the answer stands -/
theorem FI.done (F : FI R n p0 e0 u found ps L ms ts) {v : Option Int} {m : Int} (hv : Exits R ∨ u = none → v = late R (ch R ps L) u) (hm : u = some m) (hr : m - 1 - e0 ≤ ts + tks R ps L) (c : Exits R ∨ u = none) :
    greatI (found ++ [plusI v (ms + L)]) = fresh R p0 e0 := by
  refine Cov.great ?_ (by simp)
  have h := F.cov c
  have e : fresh R (ch R ps L) (e0 + ts + tks R ps L) = late R (ch R ps L) u := by
    rw [hm]
    exact fresh_stop (by rw [F.upat, hm]) (by omega)
  rw [e, ← hv c] at h
  exact h
/-- a ring of the phases that were met -/
theorem FI.ring (F : FI R n p0 e0 u found ps L ms ts) {i : Nat} (hi : i < L) (he : ch R ps i = ch R ps L) : Ring R n (ch R ps i) (L - i) where
  pos := by omega
  back := by rw [← ch_add, show i + (L - i) = L by omega]; exact he.symm
  near := fun j hj => by rw [← ch_add]; exact F.near _ (by omega)
  nd := fun a b ha hb e => by
    rw [← ch_add, ← ch_add] at e
    have := F.nd _ _ (by omega) (by omega) e
    omega
  lt := fun j hj => by rw [← ch_add]; exact F.lt _ (by omega)
theorem FI.used (F : FI R n p0 e0 u found ps L ms ts) {i : Nat} (hi : i < L) : tks R ps L - tks R ps i = tks R (ch R ps i) (L - i) := by
  have e := tks_add R ps i (L - i)
  rw [show i + (L - i) = L by omega] at e
  omega
/-- a ring without an end: no greatest number -/
theorem FI.endless (F : FI R n p0 e0 u found ps L ms ts) {i : Nat} (hi : i < L) (he : ch R ps i = ch R ps L) (h : u = none ∨ tks R ps L - tks R ps i = 0) (c : Exits R ∨ u = none) : fresh R p0 e0 = none := by
  have hk : ∀ k, leI k (fresh R (ch R ps L) (e0 + ts + tks R ps L)) → leI (k + ((L - i : Nat) : Int)) (fresh R (ch R ps L) (e0 + ts + tks R ps L)) := by
    intro k hk
    have hti := tks_nn R ps i
    have hmono := tks_mono R ps (show i ≤ L by omega)
    have hui : up R.cuts (e0 + ts + tks R ps i) = u := up_at F.asc F.upts hti.1 fun m hm => by have := F.fin m hm; omega
    have eL : e0 + ts + tks R ps i + tks R (ch R ps i) (L - i) = e0 + ts + tks R ps L := by rw [← F.used hi]; omega
    have := chain_le F.asc (L - i) (ch R ps i) (e0 + ts + tks R ps i) hui (fun j hj => by rw [← ch_add]; exact F.near _ (by omega)) (fun j hj => by
      rw [Int.add_assoc, ← tks_add]; exact F.room _ (by omega)) (fun m hm => by have := F.fin m hm; omega) k (by
      rw [← ch_add, show i + (L - i) = L by omega, eL]; exact hk)
    rw [he] at this
    rcases h with h | h
    · rw [fresh_outer (a := e0 + ts + tks R ps L) (b := e0 + ts + tks R ps i) (by rw [F.upat, h]) (by rw [hui, h])]
      exact this
    · rw [show tks R ps L = tks R ps i by omega]
      exact this
  have z := leI_none (n := ((L - i : Nat) : Int)) (by omega) fresh_nn hk
  have h2 := cov_app.mp (F.cov c)
  refine leI_ext fun k => ?_
  rw [h2 k, z]
  exact ⟨fun _ => trivial, fun _ => .inr (by simp [plusI, leI])⟩
/-- whole turns of the ring at once -/
theorem FI.jump (F : FI R n p0 e0 u found ps L ms ts) {i : Nat} (hi : i < L) (he : ch R ps i = ch R ps L) {m t : Int} (hm : u = some m) (hpos : 0 < tks R ps L - tks R ps i)
    (ht : t = max 0 ((m - 1 - e0 - (ts + tks R ps L)) / (tks R ps L - tks R ps i) - 1)) {v : Option Int} (hv : Exits R ∨ u = none → v = late R (ch R ps L) u) :
    FI R n p0 e0 u (found ++ [plusI v (ms + L + t * ((L - i : Nat) : Int))]) (ch R ps L) 0 (ms + L + t * ((L - i : Nat) : Int)) (ts + tks R ps L + t * (tks R ps L - tks R ps i)) := by
  have G := F.ring hi he
  have hU := F.used hi
  have htL := tks_nn R ps L
  have t0 : 0 ≤ t := by omega
  have hfin := F.fin m hm
  have hts := F.ts0
  generalize hw : tks R ps L - tks R ps i = w at *
  have hd : 1 ≤ t → e0 + ts + tks R ps L + t * w + w + 1 ≤ m := by
    intro h1
    have h2 : (m - 1 - e0 - (ts + tks R ps L)) / w = t + 1 := by omega
    have h3 := Int.ediv_mul_le (m - 1 - e0 - (ts + tks R ps L)) (show w ≠ 0 by omega)
    rw [h2, Int.add_mul, Int.one_mul] at h3
    omega
  have hle : e0 + ts + tks R ps L + t * w + 1 ≤ m := by
    by_cases h1 : 1 ≤ t
    · have := hd h1; omega
    · have : t = 0 := by omega
      subst this; omega
  have hw0 : 0 ≤ t * w := Int.mul_nonneg t0 (by omega)
  have hml : 0 ≤ t * ((L - i : Nat) : Int) := Int.mul_nonneg t0 (by omega)
  have hms := F.ms0
  have hb : FI R n p0 e0 u found (ch R ps L) 0 (ms + L + t * ((L - i : Nat) : Int)) (ts + tks R ps L + t * w) :=
    { asc := F.asc, hn := F.hn, hu := F.hu, near := fun i h => by omega, nd := fun i j h => by omega
      lt := fun j hj => by have : j = 0 := by omega
                           subst this; exact F.lt L (Nat.le_refl _)
      room := fun i h => by omega
      ms0 := by omega
      ts0 := by omega
      fin := fun m' hm' => by
        rw [hm] at hm'; cases hm'
        simp only [tks]; omega
      cov := fun c => by
        have hE : Exits R := c.elim id fun z => by rw [hm] at z; cases z
        have h2 := cov_app.mp (F.cov c)
        refine cov_app.mpr fun k => ?_
        rw [h2 k]
        have hT := G.turns F.asc (G.short F.hn hE) (e := e0 + ts + tks R ps L) (u := u) F.upat t.toNat (by
          intro h1 m' hm'
          rw [hm] at hm'; cases hm'
          have := hd (by omega)
          rw [← hU, show ((t.toNat : Nat) : Int) = t by omega]
          omega)
        rw [← hU, show ((t.toNat : Nat) : Int) = t by omega, he] at hT
        rw [hT]
        have e1 : e0 + (ts + tks R ps L + t * w) + tks R (ch R ps L) 0 = e0 + ts + tks R ps L + t * w := by simp only [tks]; omega
        have e2 : ch R (ch R ps L) 0 = ch R ps L := rfl
        rw [e1, e2, leI_plus, leI_plus, leI_plus]
        have e3 : k - (ms + (L : Int)) - t * ((L - i : Nat) : Int) = k - (ms + (L : Int) + t * ((L - i : Nat) : Int) + ((0 : Nat) : Int)) := by omega
        rw [e3] }
  have := hb.noted (v := v) hv
  simpa using this
/-- one near move that takes or waits -/
theorem FI.move (F : FI R n p0 e0 u found ps L ms ts) (hv : Exits R ∨ u = none → plusI (late R (ch R ps L) u) (ms + L) ∈ found) (hx : exq R (ch R ps L) = false) (hnew : ∀ i, i < L → ch R ps i ≠ ch R ps L)
    (hl : nx R (ch R ps L) < n) (hr : Rm u (e0 + ts + tks R ps L)) : FI R n p0 e0 u found ps (L + 1) ms ts := by
  refine { asc := F.asc, hn := F.hn, hu := F.hu, ms0 := F.ms0, ts0 := F.ts0, near := fun i h => ?_, nd := fun i j hi hj e => ?_, lt := fun i hi => ?_, room := fun i h => ?_, fin := fun m hm => ?_, cov := fun c => ?_ }
  · by_cases e : i = L
    · subst e; exact hx
    · exact F.near i (by omega)
  · by_cases e1 : i = L
    · subst e1
      by_cases e2 : j = i
      · exact e2.symm
      · exact absurd e.symm (hnew j (by omega))
    · by_cases e2 : j = L
      · subst e2
        exact absurd e (hnew i (by omega))
      · exact F.nd i j (by omega) (by omega) e
  · by_cases e : i = L + 1
    · subst e; exact hl
    · exact F.lt i (by omega)
  · by_cases e : i = L
    · subst e; exact hr
    · exact F.room i (by omega)
  · have := hr m hm
    have := tk_nn R (ch R ps L)
    simp only [tks]; omega
  · have h2 := cov_app.mp (F.cov c)
    refine cov_app.mpr fun k => ?_
    have key := near_step F.asc F.upat hr hx
    have e1 : e0 + ts + tks R ps (L + 1) = e0 + ts + tks R ps L + tk R (ch R ps L) := by simp only [tks]; omega
    have e2 : ch R ps (L + 1) = nx R (ch R ps L) := rfl
    rw [h2 k, leI_plus, key, leI_max, leI_plus, e1, e2, leI_plus]
    have e3 : k - (ms + (L : Int)) - 1 = k - (ms + ((L + 1 : Nat) : Int)) := by omega
    rw [e3]
    constructor
    · rintro (h | h | h)
      · exact .inl h
      · exact .inl ⟨_, hv c, leI_plus.mpr h⟩
      · exact .inr h
    · rintro (h | h)
      · exact .inl h
      · exact .inr (.inr h)
/-- a near move out, or to the mark: the answer stands -/
theorem FI.leave (F : FI R n p0 e0 u found ps L ms ts) (hv : Exits R ∨ u = none → plusI (late R (ch R ps L) u) (ms + L) ∈ found) {w : Option Int} (hr : Rm u (e0 + ts + tks R ps L))
    (hw : Exits R ∨ u = none → fresh R (ch R ps L) (e0 + ts + tks R ps L) = maxI (late R (ch R ps L) u) (plusI w 1)) (c : Exits R ∨ u = none) : greatI (found ++ [plusI w (ms + L + 1)]) = fresh R p0 e0 := by
  refine Cov.great (cov_app.mpr fun k => ?_) (by simp)
  have h2 := cov_app.mp (F.cov c)
  rw [h2 k, leI_plus, hw c, leI_max, leI_plus, leI_plus]
  have e3 : k - (ms + (L : Int)) - 1 = k - (ms + (L : Int) + 1) := by omega
  rw [e3]
  constructor
  · rintro (h | h | h)
    · exact .inl h
    · exact .inl ⟨_, hv c, leI_plus.mpr h⟩
    · exact .inr h
  · rintro (h | h)
    · exact .inl h
    · exact .inr (.inr h)
end
end K37
set_option linter.all false
namespace K37

/-! ## the law's own comparison -/
theorem fresh_leI {R : Rule} {p : Nat} {k a b : Int} (hab : a ≤ b) (h : up R.cuts a = up R.cuts b) (hb : leI k (fresh R p b)) : leI k (fresh R p a) := by
  by_cases hk : 0 ≤ k
  · obtain ⟨n, rfl⟩ := Int.eq_ofNat_of_zero_le hk
    exact fresh_le hab h hb
  · exact leI_mono (by omega) fresh_nn
theorem not_exits_none {R : Rule} (hA : Asc R.cuts) (h : ¬ Exits R) {e : Int} (hu : up R.cuts e = none) : fresh R 0 e = none := by
  have hn : ∀ j, exq R (ch R 0 j) = false := fun j => by
    cases q : exq R (ch R 0 j) with
    | false => rfl
    | true => exact absurd ⟨j, q⟩ h
  cases hf : fresh R 0 e with
  | none => rfl
  | some m =>
    have h0 : 0 ≤ m := by have := fresh_nn (R := R) (p := 0) (e := e); rw [hf] at this; exact this
    have key := chain_le hA (m.toNat + 1) 0 e hu (fun j _ => hn j) (fun j _ z hz => nomatch hz) (fun z hz => nomatch hz) 0 fresh_nn
    rw [hf] at key
    simp only [leI] at key
    omega
/-- the exit stands among the first n phases of the chain -/
theorem exit_soon {R : Rule} {n : Nat} (hn : n ≤ 3) (h0 : 0 < n) (hl : ∀ p, p < n → nx R p < n) (h : Exits R) : ∃ j, j < n ∧ exq R (ch R 0 j) = true ∧ ∀ i, i < j → exq R (ch R 0 i) = false := by
  have hlt : ∀ j, ch R 0 j < n := by
    intro j
    induction j with
    | zero => exact h0
    | succ j ih => exact hl _ ih
  -- a phase that comes twice
  have rep : ∃ i j, i < j ∧ j ≤ n ∧ ch R 0 i = ch R 0 j := by
    have a0 := hlt 0
    have a1 := hlt 1
    have a2 := hlt 2
    have a3 := hlt 3
    refine Classical.byContradiction fun z => ?_
    have q : ∀ i j, i < j → j ≤ n → ch R 0 i ≠ ch R 0 j := fun i j hi hj e => z ⟨i, j, hi, hj, e⟩
    have z0 : ch R 0 0 = 0 := rfl
    have hnn : n = 1 ∨ n = 2 ∨ n = 3 := by omega
    rcases hnn with rfl | rfl | rfl
    · have := q 0 1 (by omega) (by omega); omega
    · have := q 0 1 (by omega) (by omega)
      have := q 0 2 (by omega) (by omega)
      have := q 1 2 (by omega) (by omega)
      omega
    · have := q 0 1 (by omega) (by omega)
      have := q 0 2 (by omega) (by omega)
      have := q 0 3 (by omega) (by omega)
      have := q 1 2 (by omega) (by omega)
      have := q 1 3 (by omega) (by omega)
      have := q 2 3 (by omega) (by omega)
      omega
  obtain ⟨i, j, hij, hjn, e⟩ := rep
  have ex : ∃ t, t < n ∧ exq R (ch R 0 t) = true := by
    refine Classical.byContradiction fun z => ?_
    have no : ∀ t, t < n → exq R (ch R 0 t) = false := fun t ht => by
      cases q : exq R (ch R 0 t) with
      | false => rfl
      | true => exact absurd ⟨t, ht, q⟩ z
    have all : ∀ t, ∃ s, s < j ∧ ch R 0 t = ch R 0 s := by
      intro t
      induction t with
      | zero => exact ⟨0, by omega, rfl⟩
      | succ t ih =>
        obtain ⟨s, hs, es⟩ := ih
        have e1 : ch R 0 (t + 1) = ch R 0 (s + 1) := by show nx R (ch R 0 t) = nx R (ch R 0 s); rw [es]
        by_cases hh : s + 1 < j
        · exact ⟨s + 1, hh, e1⟩
        · refine ⟨i, hij, ?_⟩
          have : s + 1 = j := by omega
          rw [e1, this, e]
    obtain ⟨t, ht⟩ := h
    obtain ⟨s, hs, es⟩ := all t
    rw [es, no s (by omega)] at ht
    cases ht
  obtain ⟨t, ht, hx⟩ := ex
  -- the first one
  have first : ∀ t, exq R (ch R 0 t) = true → ∃ j, j ≤ t ∧ exq R (ch R 0 j) = true ∧ ∀ i, i < j → exq R (ch R 0 i) = false := by
    intro t
    induction t using Nat.strongRecOn with
    | ind t ih =>
      intro hx
      by_cases q : ∃ i, i < t ∧ exq R (ch R 0 i) = true
      · obtain ⟨i, hi, hxi⟩ := q
        obtain ⟨j, hj, r⟩ := ih i hi hxi
        exact ⟨j, by omega, r⟩
      · refine ⟨t, Nat.le_refl _, hx, fun i hi => ?_⟩
        cases r : exq R (ch R 0 i) with
        | false => rfl
        | true => exact absurd ⟨i, hi, r⟩ q
  obtain ⟨j, hj, r⟩ := first t hx
  exact ⟨j, by omega, r⟩
/-- far below the mark the room does not matter -/
theorem rooms_same {R : Rule} (hA : Asc R.cuts) {m : Int} {j : Nat} (hx : exq R (ch R 0 j) = true) (hno : ∀ i, i < j → exq R (ch R 0 i) = false) :
    ∀ (d i : Nat), i + d = j → ∀ e e' : Int, up R.cuts e = some m → up R.cuts e' = some m → e + d + 1 < m → e' + d + 1 < m → fresh R (ch R 0 i) e = fresh R (ch R 0 i) e'
  | 0, i, hi, e, e', hu, hu', he, he' => by
    have : i = j := by omega
    subst this
    unfold exq at hx
    cases hm : R.pr (ch R 0 i) 0 with
    | mk mv q =>
      rw [hm] at hx
      cases mv with
      | take => simp at hx
      | wait => simp at hx
      | next => rw [near_next hA hu (by omega) hm, near_next hA hu' (by omega) hm]
      | out => rw [near_out hu (fun n z => by cases z; omega) hm, near_out hu' (fun n z => by cases z; omega) hm]
  | d + 1, i, hi, e, e', hu, hu', he, he' => by
    have h0 := hno i (by omega)
    have r : Rm (some m) e := fun n z => by cases z; omega
    have r' : Rm (some m) e' := fun n z => by cases z; omega
    have ht := tk_nn R (ch R 0 i)
    rw [near_step hA hu r h0, near_step hA hu' r' h0]
    have ih := rooms_same hA hx hno d (i + 1) (by omega) (e + tk R (ch R 0 i)) (e' + tk R (ch R 0 i)) (up_at hA hu ht.1 fun n z => by cases z; omega) (up_at hA hu' ht.1 fun n z => by cases z; omega) (by omega) (by omega)
    have e1 : nx R (ch R 0 i) = ch R 0 (i + 1) := rfl
    rw [e1, ih]

/-- the program's answers for a list of first elements -/
inductive Ans (R : Rule) : List Int → List (Option Int) → Prop
  | nil : Ans R [] []
  | snoc {es : List Int} {vs : List (Option Int)} {e : Int} {v : Option Int} (h : Ans R es vs) (hv : Exits R ∨ up R.cuts e = none → v = fresh R 0 e) : Ans R (es ++ [e]) (vs ++ [v])
theorem Ans.length {R : Rule} {es : List Int} {vs : List (Option Int)} (h : Ans R es vs) : vs.length = es.length := by
  induction h with
  | nil => rfl
  | snoc _ _ ih => simp [ih]
theorem Ans.exits {R : Rule} {es : List Int} {vs : List (Option Int)} (h : Ans R es vs) (hE : Exits R) : vs = es.map (fresh R 0) := by
  induction h with
  | nil => rfl
  | snoc _ hv ih => rw [ih, hv (.inl hE)]; simp
theorem Ans.outer {R : Rule} {es : List Int} {vs : List (Option Int)} (h : Ans R es vs) {e : Int} (he : e ∈ es) (hu : up R.cuts e = none) : fresh R 0 e ∈ vs := by
  induction h with
  | nil => cases he
  | @snoc es vs e' v _ hv ih =>
    rcases List.mem_append.mp he with he | he
    · exact List.mem_append_left _ (ih he)
    · rw [List.mem_singleton] at he
      subst he
      rw [hv (.inr hu)]
      simp
theorem Ans.ne {R : Rule} {es : List Int} {vs : List (Option Int)} (h : Ans R es vs) (hn : es ≠ []) : vs ≠ [] := by
  intro z
  have := h.length
  rw [z] at this
  cases es with
  | nil => exact hn rfl
  | cons _ _ => simp at this
/-- both lists have one greatest number -/
theorem great_same {S T : List (Option Int)} (hS : S ≠ []) (hT : T ≠ []) (h1 : ∀ v ∈ S, ∀ k, leI k v → ∃ w ∈ T, leI k w) (h2 : ∀ w ∈ T, ∀ k, leI k w → ∃ v ∈ S, leI k v) : greatI S = greatI T := by
  refine leI_ext fun k => ?_
  rw [leI_great hS, leI_great hT]
  exact ⟨fun ⟨v, hv, q⟩ => h1 v hv k q, fun ⟨v, hv, q⟩ => h2 v hv k q⟩

/-- the least mark (or the one drawn), the greatest one, and where the law starts -/
def lawStarts (cs : List Int) (n : Nat) : List Int := (cs.headD 0 - 2 - n) :: cs
noncomputable def lawDue (R : Rule) (cs : List Int) : Option Int := greatI ((lawStarts cs R.ph.length).map (fresh R 0))
structure Fits (R : Rule) : Prop where
  asc : Asc R.cuts
  n3 : R.ph.length ≤ 3
  n1 : 0 < R.ph.length
  nxt : ∀ p c, p < R.ph.length → (R.pr p c).2 < R.ph.length

theorem outer_last {cuts : List Int} (hA : Asc cuts) {l : Int} (hl : cuts.getLast? = some l) : up cuts l = none := by
  rw [up_none]
  intro m hm
  induction cuts with
  | nil => cases hm
  | cons c r ih =>
    unfold Asc at hA
    rw [List.pairwise_cons] at hA
    cases r with
    | nil =>
      simp at hl hm
      omega
    | cons d r =>
      rw [List.getLast?_cons_cons] at hl
      rcases List.mem_cons.mp hm with rfl | hm
      · have hl' : l ∈ d :: r := List.mem_of_getLast? hl
        have := hA.1 l hl'
        omega
      · exact ih hA.2 hl hm
theorem head_least {cuts : List Int} (hA : Asc cuts) {c : Int} {r : List Int} (e : cuts = c :: r) : ∀ m ∈ cuts, c ≤ m := by
  subst e
  unfold Asc at hA
  rw [List.pairwise_cons] at hA
  intro m hm
  rcases List.mem_cons.mp hm with rfl | hm
  · exact Int.le_refl _
  · have := hA.1 m hm; omega
/-- below all marks -/
theorem up_below {cuts : List Int} (hA : Asc cuts) {c : Int} {r : List Int} (e : cuts = c :: r) {x : Int} (hx : x < c) : up cuts x = some c :=
  up_eq hA (by rw [e]; exact List.mem_cons_self) hx fun n hn _ => head_least hA e n hn
/-- the greatest mark that is at most e -/
theorem mark_below {cuts : List Int} (hA : Asc cuts) {c : Int} {r : List Int} (e : cuts = c :: r) {x : Int} (hx : c ≤ x) : ∃ m ∈ cuts, m ≤ x ∧ up cuts m = up cuts x := by
  have key : ∀ l : List Int, (∀ m ∈ l, m ∈ cuts) → ∃ m ∈ cuts, m ≤ x ∧ ∀ n ∈ l, n ≤ m ∨ x < n := by
    intro l
    induction l with
    | nil => intro _; exact ⟨c, by rw [e]; exact List.mem_cons_self, hx, by simp⟩
    | cons d t ih =>
      intro hs
      obtain ⟨m, hm, hmx, h⟩ := ih fun y hy => hs y (List.mem_cons_of_mem _ hy)
      by_cases hd : d ≤ m ∨ x < d
      · exact ⟨m, hm, hmx, fun n hn => by
          rcases List.mem_cons.mp hn with rfl | hn
          · exact hd
          · exact h n hn⟩
      · refine ⟨d, hs d List.mem_cons_self, by omega, fun n hn => ?_⟩
        rcases List.mem_cons.mp hn with rfl | hn
        · omega
        · have := h n hn; omega
  obtain ⟨m, hm, hmx, h⟩ := key cuts fun _ h => h
  exact ⟨m, hm, hmx, up_same hA hmx h⟩
/-- with marks: the answers over es have the same greatest number as the law's -/
theorem due_marks {R : Rule} (F : Fits R) {c : Int} {r es : List Int} {vs : List (Option Int)} (e : R.cuts = c :: r) (A : Ans R es vs) (hin : ∀ m ∈ R.cuts, m ∈ es)
    (hlow : ∃ x ∈ es, x ≤ c - 1 - R.ph.length) (hge : ∀ x ∈ es, c - 3 - R.ph.length ≤ x) : greatI vs = lawDue R R.cuts := by
  have hc : c ∈ R.cuts := by rw [e]; exact List.mem_cons_self
  have hne : es ≠ [] := List.ne_nil_of_mem (hin c hc)
  have hS : (lawStarts R.cuts R.ph.length).map (fresh R 0) ≠ [] := by simp [lawStarts]
  have hh : R.cuts.headD 0 = c := by rw [e]; rfl
  obtain ⟨l, hl⟩ : ∃ l, R.cuts.getLast? = some l := by
    rw [e]
    exact ⟨_, List.getLast?_cons⟩
  have hlm : l ∈ R.cuts := List.mem_of_getLast? hl
  have hul := outer_last F.asc hl
  by_cases hE : Exits R
  · have ev := A.exits hE
    subst ev
    have hnx : ∀ p, p < R.ph.length → nx R p < R.ph.length := fun p hp => F.nxt p 0 hp
    obtain ⟨j, hj, hx, hno⟩ := exit_soon F.n3 F.n1 hnx hE
    have same : ∀ x y : Int, x ≤ c - 1 - R.ph.length → y ≤ c - 1 - R.ph.length → fresh R 0 x = fresh R 0 y := fun x y h1 h2 =>
      rooms_same F.asc hx hno j 0 (by omega) x y (up_below F.asc e (by omega)) (up_below F.asc e (by omega)) (by omega) (by omega)
    refine great_same (A.ne hne) hS ?_ ?_
    · intro v hv k hk
      obtain ⟨x, hx, rfl⟩ := List.mem_map.mp hv
      have hxl := hge x hx
      by_cases h1 : c ≤ x
      · obtain ⟨m, hm, hmx, hu⟩ := mark_below F.asc e h1
        exact ⟨fresh R 0 m, List.mem_map.mpr ⟨m, List.mem_cons_of_mem _ hm, rfl⟩, fresh_leI hmx hu hk⟩
      · refine ⟨fresh R 0 (R.cuts.headD 0 - 2 - R.ph.length), List.mem_map.mpr ⟨_, List.mem_cons_self, rfl⟩, ?_⟩
        rw [hh]
        by_cases h2 : c - 2 - R.ph.length ≤ x
        · exact fresh_leI h2 ((up_below F.asc e (by omega)).trans (up_below F.asc e (by omega)).symm) hk
        · rw [same _ x (by omega) (by omega)]
          exact hk
    · intro w hw k hk
      obtain ⟨x, hx, rfl⟩ := List.mem_map.mp hw
      rcases List.mem_cons.mp hx with rfl | hx
      · obtain ⟨y, hy, hyl⟩ := hlow
        refine ⟨fresh R 0 y, List.mem_map.mpr ⟨y, hy, rfl⟩, ?_⟩
        rw [hh] at hk
        rw [same y _ hyl (show c - 2 - R.ph.length ≤ c - 1 - R.ph.length by omega)]
        exact hk
      · exact ⟨fresh R 0 x, List.mem_map.mpr ⟨x, hin x hx, rfl⟩, hk⟩
  · have z := not_exits_none F.asc hE hul
    have h1 := A.outer (hin l hlm) hul
    rw [z] at h1
    rw [greatI_none h1]
    refine (greatI_none ?_).symm
    rw [← z]
    exact List.mem_map.mpr ⟨l, List.mem_cons_of_mem _ hlm, rfl⟩
/-- without marks all answers are one -/
theorem due_none {R : Rule} (e : R.cuts = []) {es cs : List Int} {vs : List (Option Int)} (A : Ans R es vs) (hne : es ≠ []) (hcs : cs ≠ []) : greatI vs = lawDue R cs := by
  have hu : ∀ x, up R.cuts x = none := fun x => by rw [e]; rfl
  have all : ∀ {l : List Int} {ws : List (Option Int)}, Ans R l ws → ∀ w ∈ ws, w = fresh R 0 0 := by
    intro l ws h
    induction h with
    | nil => intro w hw; cases hw
    | snoc _ hv ih =>
      intro w hw
      rcases List.mem_append.mp hw with hw | hw
      · exact ih w hw
      · rw [List.mem_singleton] at hw
        rw [hw, hv (.inr (hu _))]
        exact fresh_outer (hu _) (hu _)
  have hS : (lawStarts cs R.ph.length).map (fresh R 0) ≠ [] := by simp [lawStarts]
  refine great_same (A.ne hne) hS ?_ ?_
  · intro v hv k hk
    refine ⟨fresh R 0 (cs.headD 0 - 2 - R.ph.length), List.mem_map.mpr ⟨_, List.mem_cons_self, rfl⟩, ?_⟩
    rw [all A v hv] at hk
    rw [fresh_outer (hu _) (hu 0)]
    exact hk
  · intro w hw k hk
    obtain ⟨x, hx, rfl⟩ := List.mem_map.mp hw
    cases vs with
    | nil => exact absurd rfl (A.ne hne)
    | cons v vs =>
      refine ⟨v, List.mem_cons_self, ?_⟩
      rw [all A v List.mem_cons_self, fresh_outer (hu 0) (hu x)]
      exact hk
end K37
set_option linter.all false
namespace K37

/-! ## the law's own net of nodes -/
abbrev Node := Nat × Int × Option Int
def lowOf (x : Node) : Option Int := x.2.2.map fun l => if x.2.1 < l then l else x.2.1 + 1
def rng (a b : Int) : List Int := (List.range (b - a).toNat).map fun i : Nat => a + (i : Int)
def things (x : Node) (edge : Int) : List (Option Int) :=
  match lowOf x with
  | none => [none]
  | some l => (rng l (edge + 1)).map some ++ [none]
def movedP (R : Rule) (p : Nat) (here : Int) (y : Option Int) : Nat × Option Int :=
  match R.pr p (caseO (up R.cuts here) y) with
  | (.take, q) => (q, y)
  | (.wait, q) => (q, some here)
  | (.next, q) => (q, y.bind (ceil R.cuts))
  | (.out, q) => (q, none)
def follow (R : Rule) (outer : Int) (x : Node) (y : Option Int) : Option Node :=
  match (movedP R x.1 x.2.1 y).2 with
  | none => none
  | some e => some (if e = x.2.1 then ((movedP R x.1 x.2.1 y).1, x.2.1, y) else ((movedP R x.1 x.2.1 y).1, min e outer, some (min e outer)))
def succ (R : Rule) (outer : Int) (x : Node) : List Node := (things x (outer + 1)).filterMap (follow R outer x)
def Path (R : Rule) (outer : Int) : Nat → Node → Prop
  | 0, _ => True
  | k + 1, x => ∃ z ∈ succ R outer x, Path R outer k z
/-- a node of the net -/
structure WF (n : Nat) (lo outer : Int) (x : Node) : Prop where
  ph : x.1 < n
  lo : lo ≤ x.2.1
  hi : x.2.1 ≤ outer
  la : ∀ l, x.2.2 = some l → x.2.1 ≤ l ∧ l ≤ outer + 1

theorem mem_rng {a b v : Int} : v ∈ rng a b ↔ a ≤ v ∧ v < b := by
  unfold rng
  rw [List.mem_map]
  constructor
  · rintro ⟨i, hi, rfl⟩
    have := List.mem_range.mp hi
    omega
  · rintro ⟨h1, h2⟩
    exact ⟨(v - a).toNat, List.mem_range.mpr (by omega), by omega⟩
theorem mem_things {x : Node} {edge : Int} {y : Option Int} : y ∈ things x edge ↔ geO (lowOf x) y ∧ ∀ v, y = some v → v ≤ edge := by
  unfold things
  cases lowOf x with
  | none =>
    cases y with
    | none => simp [geO]
    | some v => simp [geO]
  | some l =>
    cases y with
    | none => simp [geO]
    | some v =>
      simp only [List.mem_append, List.mem_map, List.mem_singleton, Option.some.injEq, exists_eq_right, mem_rng, geO, reduceCtorEq, or_false, forall_eq']
      omega
theorem low_gt {n : Nat} {lo outer : Int} {x : Node} (W : WF n lo outer x) {v : Int} (h : geO (lowOf x) (some v)) : x.2.1 < v := by
  obtain ⟨p, e, l⟩ := x
  cases l with
  | none => exact h.elim
  | some l =>
    simp only [lowOf, Option.map_some, geO] at h
    show e < v
    split at h <;> omega
theorem low_le {n : Nat} {lo outer : Int} {x : Node} (W : WF n lo outer x) {v : Int} (h : geO (lowOf x) (some v)) (hv : outer + 1 ≤ v) : geO (lowOf x) (some (outer + 1)) := by
  have h2 := W.la
  have h3 := W.hi
  obtain ⟨p, e, l⟩ := x
  cases l with
  | none => exact h.elim
  | some l =>
    have := h2 l rfl
    simp only [lowOf, Option.map_some, geO] at *
    split <;> omega
/-- a round that takes, or goes to a mark -/
theorem follow_gets {R : Rule} {outer : Int} {x : Node} {y : Option Int} {q : Nat} {e : Int} (h : movedP R x.1 x.2.1 y = (q, some e)) (hne : e ≠ x.2.1) : follow R outer x y = some (q, min e outer, some (min e outer)) := by
  unfold follow
  rw [h]
  simp only [if_neg hne]
theorem follow_stop {R : Rule} {outer : Int} {x : Node} {y : Option Int} {q : Nat} (h : movedP R x.1 x.2.1 y = (q, none)) : follow R outer x y = none := by
  unfold follow
  rw [h]
theorem follow_wait {R : Rule} {outer : Int} {x : Node} {y : Option Int} {q : Nat} (h : movedP R x.1 x.2.1 y = (q, some x.2.1)) : follow R outer x y = some (q, x.2.1, y) := by
  unfold follow
  rw [h]
  simp
/-- the nodes that follow are nodes of the net -/
theorem follow_wf {R : Rule} {lo outer : Int} (F : Fits R) (hO : ∀ m ∈ R.cuts, m ≤ outer) {x z : Node} (W : WF R.ph.length lo outer x) {y : Option Int} (hy : y ∈ things x (outer + 1)) (h : follow R outer x y = some z) : WF R.ph.length lo outer z := by
  obtain ⟨hg, hv⟩ := mem_things.mp hy
  have hq := F.nxt x.1 (caseO (up R.cuts x.2.1) y) W.ph
  have w1 := W.lo
  have w2 := W.hi
  cases hm : R.pr x.1 (caseO (up R.cuts x.2.1) y) with
  | mk m q =>
    rw [hm] at hq
    cases m with
    | wait =>
      rw [follow_wait (q := q) (by unfold movedP; rw [hm])] at h
      cases h
      exact ⟨hq, w1, w2, fun l hl => by have e : y = some l := hl; subst e; have h1 := low_gt W hg; have h2 := hv l rfl; exact ⟨show x.2.1 ≤ l by omega, by omega⟩⟩
    | take =>
      cases y with
      | none =>
        rw [follow_stop (q := q) (by unfold movedP; rw [hm])] at h
        cases h
      | some v =>
        have hgt := low_gt W hg
        rw [follow_gets (q := q) (e := v) (by unfold movedP; rw [hm]) (by omega)] at h
        cases h
        exact ⟨hq, by show lo ≤ min v outer; omega, by show min v outer ≤ outer; omega, fun l hl => by have e : some (min v outer) = some l := hl; cases e; show min v outer ≤ min v outer ∧ _; omega⟩
    | next =>
      cases hc : y.bind (ceil R.cuts) with
      | none =>
        rw [follow_stop (q := q) (by unfold movedP; rw [hm, hc])] at h
        cases h
      | some c =>
        cases y with
        | none => cases hc
        | some v =>
          have hgt := low_gt W hg
          have hcl := ceil_le (show ceil R.cuts v = some c from hc)
          rw [follow_gets (q := q) (e := c) (by unfold movedP; rw [hm, hc]) (by omega)] at h
          cases h
          exact ⟨hq, by show lo ≤ min c outer; have := hO c hcl.1; omega, by show min c outer ≤ outer; omega, fun l hl => by have e : some (min c outer) = some l := hl; cases e; show min c outer ≤ min c outer ∧ _; omega⟩
    | out =>
      rw [follow_stop (q := q) (by unfold movedP; rw [hm])] at h
      cases h
theorem outer_up {R : Rule} {outer : Int} (hO : ∀ m ∈ R.cuts, m ≤ outer) {v : Int} (hv : outer ≤ v) : up R.cuts v = none := by
  rw [up_none]
  intro m hm
  have := hO m hm
  omega
theorem path_can {R : Rule} {lo outer : Int} (F : Fits R) (hO : ∀ m ∈ R.cuts, m ≤ outer) : ∀ (k : Nat) (x : Node), WF R.ph.length lo outer x → (Path R outer k x ↔ Can R (k + 1) x.1 (up R.cuts x.2.1) (lowOf x))
  | 0, x, _ => ⟨fun _ => Can.one, fun _ => trivial⟩
  | k + 1, x, W => by
    -- one round
    have one : ∀ y, y ∈ things x (outer + 1) → ((∃ z, follow R outer x y = some z ∧ Path R outer k z) ↔ Aft R (Can R (k + 1)) (k + 1 = 0) (up R.cuts x.2.1) y (R.pr x.1 (caseO (up R.cuts x.2.1) y))) := by
      intro y hy
      obtain ⟨hg, hv⟩ := mem_things.mp hy
      have wf : ∀ z, follow R outer x y = some z → (Path R outer k z ↔ Can R (k + 1) z.1 (up R.cuts z.2.1) (lowOf z)) := fun z hz => path_can F hO k z (follow_wf F hO W hy hz)
      have gets : ∀ q e, follow R outer x y = some (q, min e outer, some (min e outer)) → e ≤ outer + 1 → ((∃ z, follow R outer x y = some z ∧ Path R outer k z) ↔ Can R (k + 1) q (up R.cuts e) (some (e + 1))) := by
        intro q e hf he
        have hlow : lowOf (q, min e outer, some (min e outer)) = some (min e outer + 1) := by
          simp only [lowOf, Option.map_some]
          rw [if_neg (by omega)]
        have h1 := wf _ hf
        rw [hlow] at h1
        have h2 : (∃ z, follow R outer x y = some z ∧ Path R outer k z) ↔ Path R outer k (q, min e outer, some (min e outer)) := by
          rw [hf]
          exact ⟨fun ⟨z, hz, p⟩ => by cases hz; exact p, fun p => ⟨_, rfl, p⟩⟩
        rw [h2, h1]
        by_cases ho : e ≤ outer
        · rw [show min e outer = e by omega]
        · have u1 : up R.cuts (min e outer) = none := outer_up hO (by omega)
          have u2 : up R.cuts e = none := outer_up hO (by omega)
          show Can R (k + 1) q (up R.cuts (min e outer)) (some (min e outer + 1)) ↔ _
          rw [u1, u2]
          exact ⟨Can.outer u1 u2, Can.outer u2 u1⟩
      have stop : ∀ q, movedP R x.1 x.2.1 y = (q, none) → ((∃ z, follow R outer x y = some z ∧ Path R outer k z) ↔ False) := fun q hq => by
        rw [follow_stop hq]
        exact ⟨fun ⟨z, hz, _⟩ => (nomatch hz), False.elim⟩
      cases hm : R.pr x.1 (caseO (up R.cuts x.2.1) y) with
      | mk m q =>
        cases m with
        | wait =>
          have hf : follow R outer x y = some (q, x.2.1, y) := follow_wait (by unfold movedP; rw [hm])
          have h1 := wf _ hf
          have hlow : lowOf (q, x.2.1, y) = y := by
            cases y with
            | none => rfl
            | some v =>
              have := low_gt W hg
              simp only [lowOf, Option.map_some]
              rw [if_pos this]
          rw [hlow] at h1
          rw [hf]
          exact ⟨fun ⟨z, hz, p⟩ => by cases hz; exact h1.mp p, fun p => ⟨_, rfl, h1.mpr p⟩⟩
        | take =>
          cases y with
          | none =>
            rw [stop q (by unfold movedP; rw [hm])]
            exact ⟨False.elim, fun z => by cases (show k + 1 = 0 from z)⟩
          | some v =>
            have hgt := low_gt W hg
            exact gets q v (follow_gets (by unfold movedP; rw [hm]) (by omega)) (hv v rfl)
        | next =>
          show _ ↔ Gets R (Can R (k + 1)) (k + 1 = 0) q (y.bind (ceil R.cuts))
          cases hc : y.bind (ceil R.cuts) with
          | none =>
            rw [stop q (by unfold movedP; rw [hm, hc])]
            exact ⟨False.elim, fun z => by cases (show k + 1 = 0 from z)⟩
          | some c =>
            cases y with
            | none => cases hc
            | some v =>
              have hgt := low_gt W hg
              have hcl := ceil_le (show ceil R.cuts v = some c from hc)
              have := hO c hcl.1
              exact gets q c (follow_gets (by unfold movedP; rw [hm, hc]) (by omega)) (by omega)
        | out =>
          rw [stop q (by unfold movedP; rw [hm])]
          exact ⟨False.elim, fun z => by cases (show k + 1 = 0 from z)⟩
    have split : Path R outer (k + 1) x ↔ ∃ y, y ∈ things x (outer + 1) ∧ ∃ z, follow R outer x y = some z ∧ Path R outer k z := by
      constructor
      · rintro ⟨z, hz, p⟩
        obtain ⟨y, hy, hf⟩ := List.mem_filterMap.mp hz
        exact ⟨y, hy, z, hf, p⟩
      · rintro ⟨y, hy, z, hf, p⟩
        exact ⟨z, List.mem_filterMap.mpr ⟨y, hy, hf⟩, p⟩
    rw [split]
    constructor
    · rintro ⟨y, hy, h⟩
      exact ⟨y, (mem_things.mp hy).1, (one y hy).mp h⟩
    · rintro ⟨y, hg, hA⟩
      by_cases hb : ∃ v, y = some v ∧ outer + 1 < v
      · obtain ⟨v, rfl, hv⟩ := hb
        have hg' := low_le W hg (by omega)
        have hy' : some (outer + 1) ∈ things x (outer + 1) := mem_things.mpr ⟨hg', fun w hw => by cases hw; exact Int.le_refl _⟩
        refine ⟨some (outer + 1), hy', (one _ hy').mpr ?_⟩
        have ec : caseO (up R.cuts x.2.1) (some (outer + 1)) = caseO (up R.cuts x.2.1) (some v) := by
          cases hu : up R.cuts x.2.1 with
          | none => rfl
          | some m =>
            have := hO m (up_lt hu).1
            rw [case_far (by omega), case_far (by omega)]
        rw [ec]
        have u1 : up R.cuts v = none := outer_up hO (by omega)
        have u2 : up R.cuts (outer + 1) = none := outer_up hO (by omega)
        revert hA
        generalize R.pr x.1 (caseO (up R.cuts x.2.1) (some v)) = mq
        obtain ⟨m, q⟩ := mq
        intro hA
        cases m with
        | wait => exact Can.low (show Can R (k + 1) q _ (some v) from hA) (by simp only [geO]; omega)
        | take =>
          have h2 : Can R (k + 1) q (up R.cuts v) (some (v + 1)) := hA
          show Can R (k + 1) q (up R.cuts (outer + 1)) (some (outer + 1 + 1))
          rw [u1] at h2
          rw [u2]
          exact Can.outer u1 u2 h2
        | next =>
          have h2 : Gets R (Can R (k + 1)) (k + 1 = 0) q ((some v).bind (ceil R.cuts)) := hA
          have e : (some v).bind (ceil R.cuts) = none := by
            show ceil R.cuts v = none
            rw [ceil_none]
            intro m hm
            have := hO m hm
            omega
          rw [e] at h2
          cases (show k + 1 = 0 from h2)
        | out => cases (show k + 1 = 0 from hA)
      · have hy : y ∈ things x (outer + 1) := mem_things.mpr ⟨hg, fun v hv => Classical.byContradiction fun z => hb ⟨v, hv, by omega⟩⟩
        exact ⟨y, hy, (one y hy).mpr hA⟩
/-- the value of a first element, by the net's ways -/
theorem path_fresh {R : Rule} {lo outer : Int} (F : Fits R) (hO : ∀ m ∈ R.cuts, m ≤ outer) {s : Int} (h1 : lo ≤ s) (h2 : s ≤ outer) (k : Nat) : Path R outer k (0, s, some s) ↔ leI ((k + 1 : Nat) : Int) (fresh R 0 s) := by
  rw [path_can (lo := lo) F hO k (0, s, some s) ⟨F.n1, h1, h2, fun l hl => by cases hl; exact ⟨Int.le_refl _, by omega⟩⟩]
  have : lowOf (0, s, some s) = some (s + 1) := by
    simp only [lowOf, Option.map_some]
    rw [if_neg (by omega)]
  rw [this]
  exact val_can

/-! ### the net, node by node -/
/-- one node met: the list of nodes, and the places found -/
def bstep (f : Option Node) (st : List Node × List Nat) : List Node × List Nat :=
  match f with
  | none => st
  | some z => if z ∈ st.1 then (st.1, st.2 ++ [st.1.idxOf z]) else (st.1 ++ [z], st.2 ++ [st.1.length])
/-- ahead of turn outs.length -/
structure BI (R : Rule) (lo outer s : Int) (nodes : List Node) (outs : List (List Nat)) : Prop where
  nd : nodes.Nodup
  first : nodes[0]? = some (0, s, some s)
  wf : ∀ x ∈ nodes, WF R.ph.length lo outer x
  le : outs.length ≤ nodes.length
  asc : ∀ o ∈ outs, o.Pairwise (· < ·)
  ok : ∀ (j : Nat) (o : List Nat) (x : Node), outs[j]? = some o → nodes[j]? = some x → ∀ i : Nat, i ∈ o ↔ ∃ y, nodes[i]? = some y ∧ y ∈ succ R outer x
  cl : ∀ (j : Nat) (x : Node), j < outs.length → nodes[j]? = some x → ∀ y ∈ succ R outer x, y ∈ nodes
  par : ∀ (i : Nat) (y : Node), 0 < i → nodes[i]? = some y → ∃ (j : Nat) (x : Node), j < i ∧ nodes[j]? = some x ∧ y ∈ succ R outer x
/-- within the turn of x: what came in so far is dn -/
structure BJ (R : Rule) (lo outer s : Int) (outs : List (List Nat)) (x : Node) (dn : List (Option Int)) (nodes : List Node) (found : List Nat) : Prop where
  base : BI R lo outer s nodes outs
  here : nodes[outs.length]? = some x
  fnd : ∀ i : Nat, i ∈ found ↔ ∃ y, nodes[i]? = some y ∧ ∃ c ∈ dn, follow R outer x c = some y
  all : ∀ c ∈ dn, ∀ y, follow R outer x c = some y → y ∈ nodes
  len : found.length ≤ dn.length
theorem nodup_at {α : Type} {l : List α} (h : l.Nodup) {i j : Nat} {x : α} (hi : l[i]? = some x) (hj : l[j]? = some x) : i = j := by
  obtain ⟨h1, e1⟩ := List.getElem?_eq_some_iff.mp hi
  obtain ⟨h2, e2⟩ := List.getElem?_eq_some_iff.mp hj
  exact (List.getElem_inj h).mp (e1.trans e2.symm)
theorem BI.start {R : Rule} {lo outer s : Int} (F : Fits R) (h1 : lo ≤ s) (h2 : s ≤ outer) : BI R lo outer s [(0, s, some s)] [] where
  nd := by simp
  first := rfl
  wf := fun x hx => by
    rw [List.mem_singleton] at hx
    subst hx
    exact ⟨F.n1, h1, h2, fun l hl => by cases hl; exact ⟨Int.le_refl _, by omega⟩⟩
  le := by simp
  asc := fun o h => by cases h
  ok := fun j o x h => by simp at h
  cl := fun j x h => by simp at h
  par := fun i y hi h => by
    cases i with
    | zero => omega
    | succ i => simp at h
theorem BJ.start {R : Rule} {lo outer s : Int} {outs : List (List Nat)} {x : Node} {nodes : List Node} (B : BI R lo outer s nodes outs) (hx : nodes[outs.length]? = some x) : BJ R lo outer s outs x [] nodes [] where
  base := B
  here := hx
  fnd := fun i => by simp
  all := fun c hc => by cases hc
  len := Nat.le_refl _
theorem get_app {α : Type} {l : List α} {z x : α} {i : Nat} : (l ++ [z])[i]? = some x ↔ l[i]? = some x ∨ (i = l.length ∧ z = x) := by
  by_cases h : i < l.length
  · rw [List.getElem?_append_left h]
    exact ⟨.inl, fun q => q.elim id fun q => by omega⟩
  · rw [List.getElem?_append_right (by omega), List.getElem?_eq_none (l := l) (by omega)]
    by_cases e : i = l.length
    · subst e; simp
    · rw [List.getElem?_eq_none (by simp; omega)]
      simp [e]
theorem BJ.step {R : Rule} {lo outer s : Int} {outs : List (List Nat)} {x : Node} {dn : List (Option Int)} {nodes : List Node} {found : List Nat} (F : Fits R) (hO : ∀ m ∈ R.cuts, m ≤ outer) (J : BJ R lo outer s outs x dn nodes found) {c : Option Int}
    (hc : c ∈ things x (outer + 1)) : BJ R lo outer s outs x (dn ++ [c]) (bstep (follow R outer x c) (nodes, found)).1 (bstep (follow R outer x c) (nodes, found)).2 := by
  have B := J.base
  have hxm : x ∈ nodes := List.mem_of_getElem? J.here
  cases hf : follow R outer x c with
  | none =>
    refine ⟨B, J.here, fun i => ?_, fun d hd y hy => ?_, by have := J.len; simp [bstep]; omega⟩
    · rw [show (bstep none (nodes, found)).2 = found from rfl, show (bstep none (nodes, found)).1 = nodes from rfl, J.fnd i]
      constructor
      · rintro ⟨y, h1, d, hd, h2⟩
        exact ⟨y, h1, d, List.mem_append_left _ hd, h2⟩
      · rintro ⟨y, h1, d, hd, h2⟩
        rcases List.mem_append.mp hd with hd | hd
        · exact ⟨y, h1, d, hd, h2⟩
        · rw [List.mem_singleton] at hd
          subst hd
          rw [hf] at h2; cases h2
    · rcases List.mem_append.mp hd with hd | hd
      · exact J.all d hd y hy
      · rw [List.mem_singleton] at hd
        subst hd
        rw [hf] at hy; cases hy
  | some z =>
    have hzs : z ∈ succ R outer x := List.mem_filterMap.mpr ⟨c, hc, hf⟩
    by_cases hz : z ∈ nodes
    · have e : bstep (some z) (nodes, found) = (nodes, found ++ [nodes.idxOf z]) := by simp [bstep, hz]
      rw [e]
      have hidx : nodes[nodes.idxOf z]? = some z := by
        have := List.idxOf_lt_length_of_mem hz
        rw [List.getElem?_eq_getElem this, List.getElem_idxOf this]
      refine ⟨B, J.here, fun i => ?_, fun d hd y hy => ?_, by have := J.len; simp; omega⟩
      · rw [List.mem_append, J.fnd i, List.mem_singleton]
        constructor
        · rintro (⟨y, h1, d, hd, h2⟩ | rfl)
          · exact ⟨y, h1, d, List.mem_append_left _ hd, h2⟩
          · exact ⟨z, hidx, c, by simp, hf⟩
        · rintro ⟨y, h1, d, hd, h2⟩
          rcases List.mem_append.mp hd with hd | hd
          · exact .inl ⟨y, h1, d, hd, h2⟩
          · rw [List.mem_singleton] at hd
            subst hd
            rw [hf] at h2; cases h2
            exact .inr (nodup_at B.nd h1 hidx)
      · rcases List.mem_append.mp hd with hd | hd
        · exact J.all d hd y hy
        · rw [List.mem_singleton] at hd
          subst hd
          rw [hf] at hy; cases hy
          exact hz
    · have e : bstep (some z) (nodes, found) = (nodes ++ [z], found ++ [nodes.length]) := by simp [bstep, hz]
      rw [e]
      have old : ∀ {i : Nat} {y : Node}, nodes[i]? = some y → (nodes ++ [z])[i]? = some y := fun h => get_app.mpr (.inl h)
      refine ⟨⟨?_, old B.first, fun y hy => ?_, by have := B.le; simp; omega, B.asc, fun j o w h1 h2 i => ?_, fun j w h1 h2 y hy => ?_, fun i y hi h => ?_⟩, old J.here, fun i => ?_, fun d hd y hy => ?_, by have := J.len; simp; omega⟩
      · rw [List.nodup_append]
        exact ⟨B.nd, by simp, fun a ha b hb eab => by rw [List.mem_singleton] at hb; rw [eab, hb] at ha; exact hz ha⟩
      · rcases List.mem_append.mp hy with hy | hy
        · exact B.wf y hy
        · rw [List.mem_singleton] at hy
          subst hy
          exact follow_wf F hO (B.wf x hxm) hc hf
      · have hj : j < outs.length := (List.getElem?_eq_some_iff.mp h1).1
        have h2' : nodes[j]? = some w := by
          rcases get_app.mp h2 with q | ⟨q, _⟩
          · exact q
          · have := B.le; omega
        rw [B.ok j o w h1 h2' i]
        constructor
        · rintro ⟨y, q1, q2⟩
          exact ⟨y, old q1, q2⟩
        · rintro ⟨y, q1, q2⟩
          rcases get_app.mp q1 with q | ⟨_, q⟩
          · exact ⟨y, q, q2⟩
          · subst q
            exact absurd (B.cl j w hj h2' _ q2) hz
      · have h2' : nodes[j]? = some w := by
          rcases get_app.mp h2 with q | ⟨q, _⟩
          · exact q
          · have := B.le; omega
        exact List.mem_append_left _ (B.cl j w h1 h2' y hy)
      · rcases get_app.mp h with q | ⟨q, q2⟩
        · obtain ⟨j, w, r1, r2, r3⟩ := B.par i y hi q
          exact ⟨j, w, r1, old r2, r3⟩
        · subst q2
          refine ⟨outs.length, x, ?_, old J.here, hzs⟩
          have := (List.getElem?_eq_some_iff.mp J.here).1
          omega
      · rw [List.mem_append, J.fnd i, List.mem_singleton]
        constructor
        · rintro (⟨y, h1, d, hd, h2⟩ | rfl)
          · exact ⟨y, old h1, d, List.mem_append_left _ hd, h2⟩
          · exact ⟨z, get_app.mpr (.inr ⟨rfl, rfl⟩), c, by simp, hf⟩
        · rintro ⟨y, h1, d, hd, h2⟩
          rcases get_app.mp h1 with h1 | ⟨h1, e2⟩
          · rcases List.mem_append.mp hd with hd | hd
            · exact .inl ⟨y, h1, d, hd, h2⟩
            · rw [List.mem_singleton] at hd
              subst hd
              rw [hf] at h2; cases h2
              exact absurd (List.mem_of_getElem? h1) hz
          · exact .inr h1
      · rcases List.mem_append.mp hd with hd | hd
        · exact List.mem_append_left _ (J.all d hd y hy)
        · rw [List.mem_singleton] at hd
          subst hd
          rw [hf] at hy; cases hy
          simp
/-- the turn's end: o has the places found, each once, ascending -/
theorem BJ.done {R : Rule} {lo outer s : Int} {outs : List (List Nat)} {x : Node} {nodes : List Node} {found o : List Nat} (J : BJ R lo outer s outs x (things x (outer + 1)) nodes found) (ho : o.Pairwise (· < ·)) (hm : ∀ i, i ∈ o ↔ i ∈ found) :
    BI R lo outer s nodes (outs ++ [o]) := by
  have B := J.base
  have hlt := (List.getElem?_eq_some_iff.mp J.here).1
  have hin : ∀ y, y ∈ succ R outer x ↔ ∃ c ∈ things x (outer + 1), follow R outer x c = some y := fun y => List.mem_filterMap
  refine ⟨B.nd, B.first, B.wf, by simp; omega, fun p hp => ?_, fun j p w h1 h2 i => ?_, fun j w h1 h2 y hy => ?_, B.par⟩
  · rcases List.mem_append.mp hp with hp | hp
    · exact B.asc p hp
    · rw [List.mem_singleton] at hp
      subst hp; exact ho
  · rcases get_app.mp h1 with q | ⟨q, q2⟩
    · exact B.ok j p w q h2 i
    · subst q2
      rw [q, J.here] at h2
      cases h2
      rw [hm i, J.fnd i]
      constructor
      · rintro ⟨y, r1, r2⟩
        exact ⟨y, r1, (hin y).mpr r2⟩
      · rintro ⟨y, r1, r2⟩
        exact ⟨y, r1, (hin y).mp r2⟩
  · rw [List.length_append, List.length_singleton] at h1
    by_cases q : j < outs.length
    · exact B.cl j w q h2 y hy
    · have : j = outs.length := by omega
      subst this
      rw [J.here] at h2
      cases h2
      obtain ⟨c, hc, hf⟩ := (hin y).mp hy
      exact J.all c hc y hf

/-! ### how many nodes there can be -/
theorem nodup_le {α : Type} [DecidableEq α] : ∀ {l U : List α}, l.Nodup → (∀ x ∈ l, x ∈ U) → l.length ≤ U.length
  | [], _, _, _ => Nat.zero_le _
  | x :: l, U, h, hs => by
    rw [List.nodup_cons] at h
    have hx := hs x List.mem_cons_self
    have := nodup_le (U := U.erase x) h.2 fun y hy => by
      have hne : y ≠ x := fun e => h.1 (e ▸ hy)
      exact (List.mem_erase_of_ne hne).mpr (hs y (List.mem_cons_of_mem _ hy))
    rw [List.length_erase_of_mem hx] at this
    have hp : 0 < U.length := List.length_pos_of_mem hx
    rw [List.length_cons]
    omega
def univ (n : Nat) (lo outer : Int) : List Node :=
  (List.range n).flatMap fun p => (rng lo (outer + 1)).flatMap fun e => (none :: (rng lo (outer + 2)).map some).map fun l => (p, e, l)
theorem mem_univ {n : Nat} {lo outer : Int} {x : Node} (W : WF n lo outer x) : x ∈ univ n lo outer := by
  obtain ⟨p, e, l⟩ := x
  have h1 : lo ≤ e := W.lo
  have h2 : e ≤ outer := W.hi
  unfold univ
  refine List.mem_flatMap.mpr ⟨p, List.mem_range.mpr W.ph, List.mem_flatMap.mpr ⟨e, mem_rng.mpr ⟨h1, by omega⟩, List.mem_map.mpr ⟨l, ?_, rfl⟩⟩⟩
  cases l with
  | none => exact List.mem_cons_self
  | some l =>
    have h3 : e ≤ l ∧ l ≤ outer + 1 := W.la l rfl
    exact List.mem_cons_of_mem _ (List.mem_map.mpr ⟨l, mem_rng.mpr ⟨by omega, by omega⟩, rfl⟩)
theorem univ_length {n : Nat} {lo outer : Int} {w : Nat} (h : outer - lo ≤ w) : (univ n lo outer).length ≤ n * ((w + 1) * (w + 3)) := by
  have hr : ∀ a b : Int, (rng a b).length = (b - a).toNat := fun a b => by simp [rng]
  unfold univ
  have inner : ∀ p : Nat, ((rng lo (outer + 1)).flatMap fun e => (none :: (rng lo (outer + 2)).map some).map fun l => (p, e, l)).length ≤ (w + 1) * (w + 3) := by
    intro p
    rw [List.length_flatMap]
    have hc : ((rng lo (outer + 1)).map fun e => ((none :: (rng lo (outer + 2)).map some).map fun l => (p, e, l)).length) = (rng lo (outer + 1)).map fun _ => ((outer + 2 - lo).toNat + 1) := by
      apply List.map_congr_left
      intro e _
      simp [hr]
    rw [hc, List.map_const', List.sum_replicate_nat, hr]
    exact Nat.mul_le_mul (by omega) (by omega)
  rw [List.length_flatMap]
  have hs : ∀ l : List Nat, (l.map fun p => ((rng lo (outer + 1)).flatMap fun e => (none :: (rng lo (outer + 2)).map some).map fun l => (p, e, l)).length).sum ≤ l.length * ((w + 1) * (w + 3)) := by
    intro l
    induction l with
    | nil => simp
    | cons p r ih =>
      rw [List.map_cons, List.sum_cons, List.length_cons, Nat.succ_mul]
      have := inner p
      omega
  have := hs (List.range n)
  rw [List.length_range] at this
  exact this
theorem BI.few {R : Rule} {lo outer s : Int} {nodes : List Node} {outs : List (List Nat)} (F : Fits R) (B : BI R lo outer s nodes outs) {w : Nat} (h : outer - lo ≤ w) : nodes.length ≤ 3 * ((w + 1) * (w + 3)) := by
  have h1 := nodup_le B.nd fun x hx => mem_univ (B.wf x hx)
  have h2 := univ_length (n := R.ph.length) h
  have h3 : R.ph.length * ((w + 1) * (w + 3)) ≤ 3 * ((w + 1) * (w + 3)) := Nat.mul_le_mul_right _ F.n3
  omega
end K37
set_option linter.all false
namespace K37

/-! ## the longest way, from the ends back -/
/-- k steps can be gone from j -/
def GP (G : Nat → List Nat) : Nat → Nat → Prop
  | 0, _ => True
  | k + 1, j => ∃ i ∈ G j, GP G k i
def og (outs : List (List Nat)) (j : Nat) : List Nat := outs.getD j []
theorem path_gp {R : Rule} {lo outer s : Int} {nodes : List Node} {outs : List (List Nat)} (B : BI R lo outer s nodes outs) (hl : outs.length = nodes.length) :
    ∀ (k j : Nat) (x : Node), nodes[j]? = some x → (Path R outer k x ↔ GP (og outs) k j)
  | 0, _, _, _ => Iff.rfl
  | k + 1, j, x, hx => by
    have hj : j < outs.length := by rw [hl]; exact (List.getElem?_eq_some_iff.mp hx).1
    have ho : outs[j]? = some (og outs j) := by
      unfold og
      rw [List.getD_eq_getElem?_getD, List.getElem?_eq_getElem hj]; rfl
    have hok := B.ok j _ x ho hx
    constructor
    · rintro ⟨z, hz, p⟩
      obtain ⟨i, hi, e⟩ := List.getElem_of_mem (B.cl j x hj hx z hz)
      have hi' : nodes[i]? = some z := by rw [List.getElem?_eq_getElem hi, e]
      exact ⟨i, (hok i).mpr ⟨z, hi', hz⟩, (path_gp B hl k i z hi').mp p⟩
    · rintro ⟨i, hi, p⟩
      obtain ⟨z, hz, hs⟩ := (hok i).mp hi
      exact ⟨z, hs, (path_gp B hl k i z hz).mpr p⟩
/-- what the later loops ask of the net -/
structure Net (outs : List (List Nat)) : Prop where
  lt : ∀ j i, i ∈ og outs j → i < outs.length
  nd : ∀ j, (og outs j).Nodup
theorem BI.net {R : Rule} {lo outer s : Int} {nodes : List Node} {outs : List (List Nat)} (B : BI R lo outer s nodes outs) (hl : outs.length = nodes.length) : Net outs := by
  have at_ : ∀ j, j < outs.length → outs[j]? = some (og outs j) := fun j hj => by
    unfold og
    rw [List.getD_eq_getElem?_getD, List.getElem?_eq_getElem hj]; rfl
  refine ⟨fun j i hi => ?_, fun j => ?_⟩
  · by_cases hj : j < outs.length
    · have hjn : j < nodes.length := by omega
      obtain ⟨y, hy, _⟩ := (B.ok j _ nodes[j] (at_ j hj) (List.getElem?_eq_getElem hjn) i).mp hi
      have := (List.getElem?_eq_some_iff.mp hy).1
      omega
    · unfold og at hi
      rw [List.getD_eq_getElem?_getD, List.getElem?_eq_none (by omega)] at hi
      cases hi
  · by_cases hj : j < outs.length
    · have := B.asc _ (List.mem_of_getElem? (at_ j hj))
      exact this.imp fun h => by omega
    · unfold og
      rw [List.getD_eq_getElem?_getD, List.getElem?_eq_none (by omega)]
      exact List.nodup_nil

/-- how many of l are not in D -/
def lack (l D : List Nat) : Nat := l.countP fun i => decide (i ∉ D)
theorem lack_zero {l D : List Nat} : lack l D = 0 ↔ ∀ i ∈ l, i ∈ D := by
  unfold lack
  rw [List.countP_eq_zero]
  refine ⟨fun h i hi => ?_, fun h i hi => ?_⟩
  · have := h i hi; simpa using this
  · have := h i hi; simpa using this
theorem lack_nil (l : List Nat) : lack l [] = l.length := by
  unfold lack
  rw [List.countP_eq_length]
  intro a _
  simp
theorem lack_snoc {D : List Nat} {d : Nat} (hD : d ∉ D) : ∀ {l : List Nat}, l.Nodup → lack l D = lack l (D ++ [d]) + (if d ∈ l then 1 else 0)
  | [], _ => by simp [lack]
  | a :: l, h => by
    rw [List.nodup_cons] at h
    have ih := lack_snoc hD h.2
    unfold lack at ih ⊢
    rw [List.countP_cons, List.countP_cons, ih]
    by_cases e : d = a
    · subst e
      simp [h.1, hD]
    · have e' : ¬ a = d := fun z => e z.symm
      simp only [List.mem_cons, e, false_or, List.mem_append, e', List.not_mem_nil, or_false]
      split <;> split <;> omega
/-- ahead of an update: D k is what of k's followers has been used -/
structure KJ (outs : List (List Nat)) (D : Nat → List Nat) (top : Int) (left best : List Int) (done : List Nat) : Prop where
  lenL : left.length = outs.length
  lenB : best.length = outs.length
  nd : done.Nodup
  lt : ∀ k ∈ done, k < outs.length
  lf : ∀ k, k < outs.length → left[k]? = some (lack (og outs k) (D k) : Int)
  zero : ∀ k, k < outs.length → (k ∈ done ↔ ∀ i ∈ og outs k, i ∈ D k)
  use : ∀ j i, j < outs.length → i ∈ D j → i ∈ done
  bs : ∀ k, k < outs.length → ∃ b, best[k]? = some b ∧ 1 ≤ b ∧ b ≤ top ∧ ∀ n : Nat, (n : Int) + 1 ≤ b ↔ n = 0 ∨ ∃ i ∈ og outs k, i ∈ D k ∧ ∃ c, best[i]? = some c ∧ (n : Int) ≤ c
/-- one update: k's follower d, the one whose turn it is, is used now -/
def kstep (d k : Nat) (st : List Int × List Int × List Nat) : List Int × List Int × List Nat :=
  let b := max (st.2.1.getD k 0) (st.2.1.getD d 0 + 1)
  let l := st.1.getD k 0 - 1
  (st.1.set k l, st.2.1.set k b, if l = 0 then st.2.2 ++ [k] else st.2.2)
theorem KJ.step {outs : List (List Nat)} {D D' : Nat → List Nat} {top : Int} {left best : List Int} {done : List Nat} {d k : Nat} (N : Net outs) (J : KJ outs D top left best done) (hd : d ∈ done) (hk : k < outs.length) (hdk : d ∈ og outs k) (hnew : d ∉ D k)
    (hb : ∀ c, best[d]? = some c → c + 1 ≤ top) (hD : D' = fun j => if j = k then D k ++ [d] else D j) : KJ outs D' top (kstep d k (left, best, done)).1 (kstep d k (left, best, done)).2.1 (kstep d k (left, best, done)).2.2 := by
  have hnk : k ∉ done := fun h => hnew ((J.zero k hk).mp h d hdk)
  have hne : d ≠ k := fun e => hnk (e ▸ hd)
  have hdl := J.lt d hd
  obtain ⟨bk, ebk, bk1, bkt, bkn⟩ := J.bs k hk
  obtain ⟨bd, ebd, bd1, bdt, bdn⟩ := J.bs d hdl
  have elk := J.lf k hk
  have hls := lack_snoc (D := D k) hnew (N.nd k)
  rw [if_pos hdk] at hls
  have gl : left.getD k 0 = (lack (og outs k) (D k) : Int) := by rw [List.getD_eq_getElem?_getD, elk]; rfl
  have gb : best.getD k 0 = bk := by rw [List.getD_eq_getElem?_getD, ebk]; rfl
  have gd : best.getD d 0 = bd := by rw [List.getD_eq_getElem?_getD, ebd]; rfl
  have el : left.getD k 0 - 1 = (lack (og outs k) (D k ++ [d]) : Int) := by rw [gl, hls]; omega
  have Dk : D' k = D k ++ [d] := by rw [hD]; simp
  have Dj : ∀ j, j ≠ k → D' j = D j := fun j h => by rw [hD]; simp [h]
  have lenk : k < left.length := by rw [J.lenL]; exact hk
  have lenkb : k < best.length := by rw [J.lenB]; exact hk
  unfold kstep
  simp only
  rw [el, gb, gd]
  have hzero : ∀ j, j < outs.length → (j ∈ (if (lack (og outs k) (D k ++ [d]) : Int) = 0 then done ++ [k] else done) ↔ ∀ i ∈ og outs j, i ∈ D' j) := by
    intro j hj
    by_cases e : j = k
    · subst e
      rw [Dk, ← lack_zero]
      by_cases z : lack (og outs j) (D j ++ [d]) = 0
      · rw [if_pos (by omega)]
        simp [z]
      · rw [if_neg (by omega)]
        exact ⟨fun h => absurd h hnk, fun h => absurd h z⟩
    · rw [Dj j e, ← J.zero j hj]
      split
      · simp [e]
      · exact Iff.rfl
  have grow : ∀ i, i ∈ done → i ∈ (if (lack (og outs k) (D k ++ [d]) : Int) = 0 then done ++ [k] else done) := fun i hi => by
    split
    · exact List.mem_append_left _ hi
    · exact hi
  have usedD : ∀ j i, j < outs.length → i ∈ D' j → i ∈ done := fun j i hj hi => by
    by_cases e : j = k
    · subst e
      rw [Dk] at hi
      rcases List.mem_append.mp hi with h | h
      · exact J.use _ _ hj h
      · rw [List.mem_singleton] at h; subst h; exact hd
    · rw [Dj j e] at hi
      exact J.use _ _ hj hi
  refine ⟨by simp [J.lenL], by simp [J.lenB], ?_, ?_, fun j hj => ?_, hzero, fun j i hj hi => grow i (usedD j i hj hi), fun j hj => ?_⟩
  · split
    · rw [List.nodup_append]
      exact ⟨J.nd, by simp, fun a ha b hb eab => by rw [List.mem_singleton] at hb; rw [eab, hb] at ha; exact hnk ha⟩
    · exact J.nd
  · intro j hj
    split at hj
    · rcases List.mem_append.mp hj with h | h
      · exact J.lt j h
      · rw [List.mem_singleton] at h; subst h; exact hk
    · exact J.lt j hj
  · by_cases e : j = k
    · subst e
      rw [List.getElem?_set_self lenk, Dk]
    · rw [List.getElem?_set_ne (fun z => e z.symm), Dj j e]
      exact J.lf j hj
  · -- a follower that has been used has its last value
    have keep : ∀ i, i ∈ done → (best.set k (max bk (bd + 1)))[i]? = best[i]? := fun i hi => List.getElem?_set_ne fun z : k = i => hnk (by rw [z]; exact hi)
    by_cases e : j = k
    · subst e
      refine ⟨_, List.getElem?_set_self lenkb, by omega, by have := hb bd ebd; omega, fun n => ?_⟩
      have hmax : (n : Int) + 1 ≤ max bk (bd + 1) ↔ (n : Int) + 1 ≤ bk ∨ (n : Int) ≤ bd := by omega
      rw [hmax, bkn n, Dk]
      constructor
      · rintro ((h | ⟨i, hi, hiD, c, hc, hn⟩) | h)
        · exact .inl h
        · exact .inr ⟨i, hi, List.mem_append_left _ hiD, c, by rw [keep i (J.use _ _ hj hiD)]; exact hc, hn⟩
        · exact .inr ⟨d, hdk, by simp, bd, by rw [keep d hd]; exact ebd, h⟩
      · rintro (h | ⟨i, hi, hiD, c, hc, hn⟩)
        · exact .inl (.inl h)
        · rcases List.mem_append.mp hiD with h | h
          · rw [keep i (J.use _ _ hj h)] at hc
            exact .inl (.inr ⟨i, hi, h, c, hc, hn⟩)
          · rw [List.mem_singleton] at h
            subst h
            rw [keep i hd, ebd] at hc
            cases hc
            exact .inr hn
    · obtain ⟨b, eb, b1, bt, bn⟩ := J.bs j hj
      refine ⟨b, by rw [List.getElem?_set_ne (fun z => e z.symm)]; exact eb, b1, bt, fun n => ?_⟩
      rw [bn n, Dj j e]
      constructor
      · rintro (h | ⟨i, hi, hiD, c, hc, hn⟩)
        · exact .inl h
        · exact .inr ⟨i, hi, hiD, c, by rw [keep i (J.use _ _ hj hiD)]; exact hc, hn⟩
      · rintro (h | ⟨i, hi, hiD, c, hc, hn⟩)
        · exact .inl h
        · rw [keep i (J.use _ _ hj hiD)] at hc
          exact .inr ⟨i, hi, hiD, c, hc, hn⟩
theorem KJ.weak {outs : List (List Nat)} {D D' : Nat → List Nat} {top top' : Int} {left best : List Int} {done : List Nat} (J : KJ outs D top left best done) (ht : top ≤ top') (hD : ∀ j, j < outs.length → ∀ i ∈ og outs j, i ∈ D j ↔ i ∈ D' j)
    (hu : ∀ j i, j < outs.length → i ∈ D' j → i ∈ done) : KJ outs D' top' left best done := by
  have hl : ∀ k, k < outs.length → lack (og outs k) (D k) = lack (og outs k) (D' k) := fun k hk => by
    unfold lack
    refine List.countP_congr fun i hi => ?_
    simp [hD k hk i hi]
  refine ⟨J.lenL, J.lenB, J.nd, J.lt, fun k hk => by rw [← hl k hk]; exact J.lf k hk, fun k hk => ?_, hu, fun k hk => ?_⟩
  · rw [J.zero k hk]
    exact ⟨fun h i hi => (hD k hk i hi).mp (h i hi), fun h i hi => (hD k hk i hi).mpr (h i hi)⟩
  · obtain ⟨b, eb, b1, bt, bn⟩ := J.bs k hk
    refine ⟨b, eb, b1, by omega, fun n => ?_⟩
    rw [bn n]
    constructor
    · rintro (h | ⟨i, hi, hiD, r⟩)
      · exact .inl h
      · exact .inr ⟨i, hi, (hD k hk i hi).mp hiD, r⟩
    · rintro (h | ⟨i, hi, hiD, r⟩)
      · exact .inl h
      · exact .inr ⟨i, hi, (hD k hk i hi).mpr hiD, r⟩
/-- ahead of a turn of the outer loop: the places of P have been used -/
structure KO (outs : List (List Nat)) (P : List Nat) (left best : List Int) (done : List Nat) : Prop where
  j : KJ outs (fun _ => P) ((P.length : Int) + 1) left best done
  pre : ∃ more, done = P ++ more
theorem og_get {outs : List (List Nat)} {j : Nat} (h : j < outs.length) : outs[j]? = some (og outs j) := by
  unfold og
  rw [List.getD_eq_getElem?_getD, List.getElem?_eq_getElem h]; rfl
theorem KO.start {outs : List (List Nat)} {done : List Nat} (hnd : done.Nodup) (hd : ∀ k, k ∈ done ↔ k < outs.length ∧ (og outs k).length = 0) : KO outs [] (outs.map fun o => (o.length : Int)) (outs.map fun _ => (1 : Int)) done := by
  refine ⟨⟨by simp, by simp, hnd, fun k hk => ((hd k).mp hk).1, fun k hk => ?_, fun k hk => ?_, fun _ i _ h => (by cases h), fun k hk => ⟨1, ?_, Int.le_refl _, by simp, fun n => ?_⟩⟩, ⟨done, rfl⟩⟩
  · rw [List.getElem?_map, og_get hk, lack_nil]; rfl
  · rw [hd k]
    constructor
    · rintro ⟨_, h⟩ i hi
      rw [List.length_eq_zero_iff.mp h] at hi
      exact hi
    · intro h
      refine ⟨hk, ?_⟩
      cases e : og outs k with
      | nil => rfl
      | cons a r => exact absurd (h a (by rw [e]; exact List.mem_cons_self)) (by simp)
  · rw [List.getElem?_map, og_get hk]; rfl
  · constructor
    · intro h; exact .inl (by omega)
    · rintro (h | ⟨_, _, h, _⟩)
      · omega
      · cases h
/-- within the turn of d: B is what has been done of its callers -/
structure KB (outs : List (List Nat)) (P : List Nat) (d : Nat) (B : List Nat) (left best : List Int) (done : List Nat) : Prop where
  j : KJ outs (fun j => if j ∈ B then P ++ [d] else P) ((P.length : Int) + 2) left best done
  pre : ∃ more, done = P ++ d :: more
  bd : ∃ c, best[d]? = some c ∧ c ≤ (P.length : Int) + 1
theorem KO.enter {outs : List (List Nat)} {P : List Nat} {left best : List Int} {done : List Nat} {d : Nat} (K : KO outs P left best done) (hd : done[P.length]? = some d) : KB outs P d [] left best done := by
  obtain ⟨more, e⟩ := K.pre
  have hm : ∃ r, more = d :: r := by
    rw [e, List.getElem?_append_right (Nat.le_refl _), Nat.sub_self] at hd
    cases more with
    | nil => simp at hd
    | cons a r => simp at hd; exact ⟨r, by rw [hd]⟩
  obtain ⟨r, rfl⟩ := hm
  obtain ⟨c, ec, _, ct, _⟩ := K.j.bs d (K.j.lt d (by rw [e]; simp))
  exact ⟨K.j.weak (by omega) (fun _ _ _ _ => by simp) fun j i hj hi => by simp at hi; rw [e]; simp [hi], ⟨r, e⟩, ⟨c, ec, ct⟩⟩
theorem KB.fresh_d {outs : List (List Nat)} {P : List Nat} {d : Nat} {B : List Nat} {left best : List Int} {done : List Nat} (K : KB outs P d B left best done) : d ∉ P ∧ d ∈ done := by
  obtain ⟨more, e⟩ := K.pre
  have h := K.j.nd
  rw [e, List.nodup_append] at h
  exact ⟨fun hp => h.2.2 d hp d List.mem_cons_self rfl, by rw [e]; simp⟩
theorem KB.step {outs : List (List Nat)} {P : List Nat} {d k : Nat} {B : List Nat} {left best : List Int} {done : List Nat} (N : Net outs) (K : KB outs P d B left best done) (hk : k < outs.length) (hdk : d ∈ og outs k) (hB : k ∉ B) :
    KB outs P d (B ++ [k]) (kstep d k (left, best, done)).1 (kstep d k (left, best, done)).2.1 (kstep d k (left, best, done)).2.2 := by
  obtain ⟨hdP, hdd⟩ := K.fresh_d
  obtain ⟨c, ec, ct⟩ := K.bd
  have hnk : k ∉ done := fun h => by
    have := (K.j.zero k hk).mp h d hdk
    rw [if_neg hB] at this
    exact hdP this
  have hne : d ≠ k := fun e => hnk (e ▸ hdd)
  refine ⟨K.j.step N hdd hk hdk (by simp only [if_neg hB]; exact hdP) (fun c' ec' => by rw [ec] at ec'; cases ec'; omega) ?_, ?_, ⟨c, ?_, ct⟩⟩
  · funext j
    by_cases e : j = k
    · subst e; simp [hB]
    · simp [e]
  · obtain ⟨more, e⟩ := K.pre
    unfold kstep
    simp only
    split
    · exact ⟨more ++ [k], by rw [e]; simp⟩
    · exact ⟨more, e⟩
  · unfold kstep
    simp only
    rw [List.getElem?_set_ne (fun z => hne z.symm)]
    exact ec
theorem KB.leave {outs : List (List Nat)} {P : List Nat} {d : Nat} {B : List Nat} {left best : List Int} {done : List Nat} (K : KB outs P d B left best done) (hB : ∀ k, k < outs.length → (k ∈ B ↔ d ∈ og outs k)) : KO outs (P ++ [d]) left best done := by
  obtain ⟨hdP, hdd⟩ := K.fresh_d
  obtain ⟨more, e⟩ := K.pre
  refine ⟨K.j.weak (by simp; omega) (fun j hj i hi => ?_) (fun j i hj hi => ?_), ⟨more, by rw [e]; simp⟩⟩
  · by_cases h : j ∈ B
    · simp [h]
    · have hn : d ∉ og outs j := fun q => h ((hB j hj).mpr q)
      have : i ≠ d := fun z => hn (z ▸ hi)
      simp [h, this]
  · rw [e]
    simp at hi ⊢
    rcases hi with h | h
    · exact .inl h
    · exact .inr (.inl h)
theorem KO.done_le {outs : List (List Nat)} {P : List Nat} {left best : List Int} {done : List Nat} (K : KO outs P left best done) : done.length ≤ outs.length := by
  have := nodup_le (U := List.range outs.length) K.j.nd fun x hx => List.mem_range.mpr (K.j.lt x hx)
  rw [List.length_range] at this
  exact this
theorem KO.right {outs : List (List Nat)} {P : List Nat} {left best : List Int} (K : KO outs P left best P) : ∀ (n k : Nat) (b : Int), k ∈ P → best[k]? = some b → (GP (og outs) n k ↔ (n : Int) + 1 ≤ b)
  | 0, k, b, hk, hb => by
    obtain ⟨b', eb, b1, _⟩ := K.j.bs k (K.j.lt k hk)
    rw [hb] at eb; cases eb
    exact ⟨fun _ => by omega, fun _ => trivial⟩
  | n + 1, k, b, hk, hb => by
    have hkl := K.j.lt k hk
    obtain ⟨b', eb, b1, _, bn⟩ := K.j.bs k hkl
    rw [hb] at eb; cases eb
    have hall := (K.j.zero k hkl).mp hk
    rw [bn (n + 1)]
    constructor
    · rintro ⟨i, hi, p⟩
      have hiP := hall i hi
      obtain ⟨c, ec, _⟩ := K.j.bs i (K.j.lt i hiP)
      have := (K.right n i c hiP ec).mp p
      exact .inr ⟨i, hi, hiP, c, ec, by omega⟩
    · rintro (h | ⟨i, hi, hiP, c, ec, hn⟩)
      · omega
      · exact ⟨i, hi, (K.right n i c hiP ec).mpr (by omega)⟩
theorem KO.endless {outs : List (List Nat)} {P : List Nat} {left best : List Int} (N : Net outs) (K : KO outs P left best P) : ∀ (n k : Nat), k < outs.length → k ∉ P → GP (og outs) n k
  | 0, _, _, _ => trivial
  | n + 1, k, hk, h => by
    have : ¬ ∀ i ∈ og outs k, i ∈ P := fun z => h ((K.j.zero k hk).mpr z)
    have ⟨i, hi, hP⟩ : ∃ i, i ∈ og outs k ∧ i ∉ P := Classical.byContradiction fun z => this fun i hi => Classical.byContradiction fun q => z ⟨i, hi, q⟩
    exact ⟨i, hi, KO.endless N K n i (N.lt k i hi) hP⟩
/-- the law's own answer is the value -/
theorem longest_is {R : Rule} {lo outer s : Int} {nodes : List Node} {outs : List (List Nat)} {P : List Nat} {left best : List Int} (F : Fits R) (hO : ∀ m ∈ R.cuts, m ≤ outer) (h1 : lo ≤ s) (h2 : s ≤ outer) (B : BI R lo outer s nodes outs)
    (hl : outs.length = nodes.length) (K : KO outs P left best P) : (if P.length = outs.length then best[0]? else none) = fresh R 0 s ∧ ∀ b, fresh R 0 s = some b → 1 ≤ b ∧ b ≤ (outs.length : Int) + 1 := by
  have N := B.net hl
  have h0 : 0 < outs.length := by rw [hl]; exact (List.getElem?_eq_some_iff.mp B.first).1
  have val : ∀ k : Nat, GP (og outs) k 0 ↔ leI ((k + 1 : Nat) : Int) (fresh R 0 s) := fun k => by
    rw [← path_gp B hl k 0 _ B.first]
    exact path_fresh F hO h1 h2 k
  by_cases hP : P.length = outs.length
  · rw [if_pos hP]
    have hin : 0 ∈ P := by
      refine Classical.byContradiction fun z => ?_
      have := nodup_le (l := 0 :: P) (U := List.range outs.length) (List.nodup_cons.mpr ⟨z, K.j.nd⟩) fun x hx => by
        rcases List.mem_cons.mp hx with rfl | hx
        · exact List.mem_range.mpr h0
        · exact List.mem_range.mpr (K.j.lt x hx)
      rw [List.length_cons, List.length_range] at this
      omega
    obtain ⟨b, eb, b1, bt, _⟩ := K.j.bs 0 h0
    have e : some b = fresh R 0 s := by
      refine leI_ext fun k => ?_
      by_cases hk : 1 ≤ k
      · obtain ⟨n, rfl⟩ : ∃ n : Nat, k = ((n + 1 : Nat) : Int) := ⟨(k - 1).toNat, by omega⟩
        rw [← val n, K.right n 0 b hin eb]
        simp only [leI]; omega
      · exact ⟨fun _ => leI_mono (by omega) fresh_pos, fun _ => by simp only [leI]; omega⟩
    refine ⟨by rw [eb]; exact e, fun c hc => ?_⟩
    rw [← e] at hc
    cases hc
    exact ⟨b1, by rw [← hP]; exact bt⟩
  · rw [if_neg hP]
    have hex : ∃ k, k < outs.length ∧ k ∉ P := by
      refine Classical.byContradiction fun z => hP ?_
      have := nodup_le (l := List.range outs.length) (U := P) List.nodup_range fun x hx => Classical.byContradiction fun q => z ⟨x, List.mem_range.mp hx, q⟩
      rw [List.length_range] at this
      have h2 := K.done_le
      omega
    obtain ⟨k, hk, hkP⟩ := hex
    have inf : ∀ k, k < outs.length → (∀ n, GP (og outs) n k) → ∀ n, GP (og outs) n 0 := by
      intro k
      induction k using Nat.strongRecOn with
      | ind k ih =>
        intro hk h
        by_cases h0 : k = 0
        · subst h0; exact h
        · have hkn : k < nodes.length := by omega
          obtain ⟨j, x, hj, hx, hs⟩ := B.par k nodes[k] (by omega) (List.getElem?_eq_getElem hkn)
          have hjl : j < outs.length := by omega
          have hjk : k ∈ og outs j := (B.ok j _ x (og_get hjl) hx k).mpr ⟨nodes[k], List.getElem?_eq_getElem hkn, hs⟩
          refine ih j hj hjl fun n => ?_
          cases n with
          | zero => trivial
          | succ n => exact ⟨k, hjk, h n⟩
    have all := inf k hk fun n => K.endless N n k hk hkP
    have e : none = fresh R 0 s := by
      refine leI_ext fun k => ⟨fun _ => ?_, fun _ => trivial⟩
      by_cases hk : 1 ≤ k
      · obtain ⟨n, rfl⟩ : ∃ n : Nat, k = ((n + 1 : Nat) : Int) := ⟨(k - 1).toNat, by omega⟩
        exact (val n).mp (all n)
      · exact leI_mono (by omega) fresh_pos
    exact ⟨e, fun b hb => by rw [← e] at hb; cases hb⟩
end K37
set_option Elab.async false
set_option linter.all false
set_option maxRecDepth 100000
/-! The walk's own words: the text by places, calls by their promises. -/
namespace K37
open PySem PySem.Spec PyProof.Rows L2
/-! ### the text -/
def topS (i : Nat) : Stmt := PySem.Challenge.pw_endclimbs_k37_whole_greatest_rounds.main.body.getD i (.Pass ⟨0, 0, 0, 0⟩)
/-! ### values -/
/-- a number of rounds, an end -/
def oV : Option Int → V
  | none => .non
  | some i => .int i
theorem oV_flat (o : Option Int) : flatV (oV o) = true := by cases o <;> rfl
theorem oV_inj {a b : Option Int} (h : oV a = oV b) : a = b := by
  cases a <;> cases b <;> simp_all [oV]
theorem oV_non {a : Option Int} : oV a = .non ↔ a = none := by cases a <;> simp [oV]
/-! ### heaps -/
theorem same_upd {H : Hp} {p : Addr} {o : HO} (h : H p = none) : Same H (upd H p o) := fun b x e => by
  rw [upd_ne (ne_of_none e h)]
  exact e
theorem same_self {H : Hp} {p : Addr} {o u : HO} (h : H p = none) : Same H (upd (upd H p u) p o) := fun b x e => by
  have hb := ne_of_none e h
  rw [upd_ne hb, upd_ne hb]
  exact e
theorem seqT_same {K : PySem.W.Frag} {H H' : Hp} {a : Addr} {xs : List V} (e : Same H H') (h : SqT K H a xs) : SqT K H' a xs := by
  rcases h with (h | ⟨o, h⟩) | h
  · exact .inl (.inl (e _ _ h))
  · exact .inl (.inr ⟨o, e _ _ h⟩)
  · exact .inr h
/-! ### calls by their promises -/
section
variable (P : Program) (w : World) (K : PySem.W.Frag) (mg : Str → Option Value) (base : Heap)
/-- the module's name x holds a def that keeps sp, by at most level k -/
structure Cal (k : Nat) (x : Str) (ps : List Str) (sp : Sp) : Prop where
  ex : ∃ (f : Addr) (fd : FuncData), FnOk P w K mg base CX0 k f fd ps sp ∧ Binds K fd ps [] ∧ PySem.W.keepIn K (.ref f) = true ∧ mg x = some (.ref f)
/-- the class at C has the method m that keeps sp -/
structure Met (C : Addr) (k : Nat) (m : Str) (ps : List Str) (sp : Sp) : Prop where
  ex : ∃ (f : Addr) (fd : FuncData), FnOk P w K mg base CX0 k f fd ps sp ∧ Binds K fd ps [] ∧ Meth K C m f
end
section
variable {X : Cx} {k j : Nat} {x m : Str} {ps : List Str} {sp : Sp} {p pos apos : Pos} {e o : Expr} {es : List Expr} {t : TA} {ta : TE} {C : Addr}
theorem pe_cal (c : Cal X.prog X.w X.K X.mg X.base k x ps sp) (hr : Room j X.A) (ha : PA X (e :: es) t) (hk : k ≤ j := by decide) (hg : Gl X x := by rfl) (hdb : (x == ("__debug__" : Str)) = false := by decide)
    (he : starEach (e :: es) X.env = (false, eval e X.env) :: starEach es X.env := by rfl) (hpl : (backTo pos (starEach es X.env)).any (·.1) = false := by rfl) :
    PE X (.Call (.Name x p) (e :: es) [] pos) (tCall sp [] E0 t) := by
  obtain ⟨f, fd, F, hb, kp, hm⟩ := c.ex
  exact pe_call F (hr.mono hk) hg hm kp hb .nil pass0 ha hdb he hpl
theorem pe_cal0 (c : Cal X.prog X.w X.K X.mg X.base k x ps sp) (hr : Room j X.A) (hk : k ≤ j := by decide) (hg : Gl X x := by rfl) (hdb : (x == ("__debug__" : Str)) = false := by decide) :
    PE X (.Call (.Name x p) [] [] pos) (tCall sp [] E0 tNil) := by
  obtain ⟨f, fd, F, hb, kp, hm⟩ := c.ex
  exact pe_call0 F (hr.mono hk) hg hm kp hb .nil pass0 hdb
theorem pe_met {pl : Sem Bool} (c : Met X.prog X.w X.K X.mg X.base C k m ps sp) (cl : Cls X.K C) (ho : PE X o ta) (hr : Room j X.A) (ha : PA X (e :: es) t) (hk : k ≤ j := by decide)
    (hst : starEach (e :: es) X.env = (false, eval e X.env) :: starEach es X.env := by rfl) (hpl : (backTo pos (starEach es X.env)).any (·.1) = false := by rfl)
    (ht : eval (.Call (.Attribute o m apos) (e :: es) [] pos) X.env = (eval o X.env >>= fun ov => standAt apos.atName >>= fun _ => holding [ov] (getMethod ov m pl) >>= fun fm =>
      callWith pos fm.1 fm.2 (backTo pos (starEach (e :: es) X.env)) (backToKw pos (keywordEach [] X.env))) := by rfl) :
    PE X (.Call (.Attribute o m apos) (e :: es) [] pos) (tMeth C m sp [] E0 ta t) := by
  obtain ⟨f, fd, F, hb, hm⟩ := c.ex
  exact pe_meth ho cl hm F (hr.mono hk) hb .nil pass0 ha hst hpl ht
end
/-! ### [c for c in T if p c], T a tuple of ints -/
theorem lc_filter {K : PySem.W.Frag} {a D : Addr} {cs : List Int} {i : Nat} {tt : TT} {σ : L2.St} {H1 : Hp} {Qd : Hp → Prop} (p : Int → Bool) (hi : i < σ.length) (hm : H1 a = some (.tup (cs.map V.int))) (nD : H1 D = none) (hl : cs.length ≤ 100)
    (ht : ∀ (z : Int) (H' : Hp) (Q : Bool → Hp → Prop), z ∈ cs → Same H1 H' → Q (p z) H' → tt ((wipe σ [i]).set i (some (.int z))) H' Q)
    (hd : ∀ H', Same H1 H' → H' D = some (.lst ((cs.filter p).map V.int)) → Qd H') :
    ∃ W : Nat → Nat → Hp → Prop, (∃ m, W 0 m (upd H1 D (.lst []))) ∧ ∀ j m H, W j m H →
      ((Itt K a).stop j H ∧ Qd H) ∨ ((Itt K a).go j H ∧ ∃ Nx : Hp → Prop, (∀ H', Nx H' → ∃ m', m' < m ∧ W (j + 1) m' H') ∧ ∀ x H', (Itt K a).yld j H x H' → gName i x (wipe σ [i]) H' fun σ2 H2 => wipe σ2 [i] = wipe σ [i] ∧ tt σ2 H2 fun b H3 =>
        if b = true then tVar i σ2 H3 fun y H4 => ∃ acc, H4 D = some (.lst acc) ∧ acc.length < sizeLine ∧ Nx (upd H4 D (.lst (acc ++ [y]))) else Nx H3) := by
  refine lc_tup (K := K) (a := a) (xs := cs.map V.int) (fun j H' => Same H1 H' ∧ H' D = some (.lst (((cs.take j).filter p).map V.int))) ⟨same_upd nD, upd_same⟩ (fun j H' _ ⟨s1, _⟩ => SqT.of (s1 _ _ hm)) ?_ ?_
  · rintro j y H' hj ⟨s1, hD⟩
    rw [List.getElem?_map] at hj
    obtain ⟨z, hz, rfl⟩ := Option.map_eq_some_iff.mp hj
    have htk : (cs.take (j + 1)) = cs.take j ++ [z] := by rw [List.take_add_one, hz]; rfl
    refine ⟨by show ((σ.set i none).set i _).set i none = σ.set i none; rw [List.set_set, List.set_set], ht z H' _ (List.mem_of_getElem? hz) s1 ?_⟩
    refine ite2 (fun hc => ?_) (fun hc => ?_)
    · refine ⟨_, by show ((σ.set i none).set i _)[i]? = _; rw [List.getElem?_set_self (by rw [List.length_set]; exact hi)], _, hD, ?_, ?_⟩
      · rw [List.length_map]
        exact Nat.lt_of_le_of_lt (Nat.le_trans (List.length_filter_le _ _) (Nat.le_trans (List.length_take_le' _ _) (show cs.length ≤ 1000 by omega))) (small1000 (Nat.le_refl _))
      · refine ⟨fun b o e => ?_, ?_⟩
        · rw [upd_ne (ne_of_none e nD)]
          exact s1 b o e
        · rw [upd_same, htk, List.filter_append, List.map_append, List.filter_cons, if_pos hc]; rfl
    · refine ⟨s1, ?_⟩
      rw [hD, htk, List.filter_append, List.map_append, List.filter_cons, if_neg hc]
      simp
  · rintro H' ⟨s1, hD⟩
    rw [List.length_map, List.take_length] at hD
    exact hd H' s1 hD
/-! ### endclimbs/casing.py -/
theorem asc_get {cuts : List Int} (hA : Asc cuts) (x : Int) : cuts[cuts.countP fun m => decide (m ≤ x)]? = up cuts x := by
  induction cuts with
  | nil => rfl
  | cons c r ih =>
    unfold Asc at hA
    rw [List.pairwise_cons] at hA
    rw [List.countP_cons]
    unfold up
    rw [List.find?_cons]
    by_cases h : c ≤ x
    · rw [if_pos (by simpa using h), List.getElem?_cons_succ, decide_eq_false (by omega)]
      exact ih hA.2
    · have h0 : r.countP (fun m => decide (m ≤ x)) = 0 := by
        rw [List.countP_eq_zero]
        intro a ha
        have := hA.1 a ha
        simp; omega
      rw [if_neg (by simpa using h), h0, decide_eq_true (by omega)]
      rfl
abbrev sGap : Stmt := topS 8
theorem scGap : FnScope ["marks", "x", "mark"] ["marks", "x"] (defScope sGap) := ⟨rfl, rfl, rfl, by decide +kernel, rfl, by decide +kernel, by decide +kernel⟩
def spGap : Sp := fun vs H Q _ => ∃ (m : Addr) (cs : List Int) (x : Int), vs = [.ref m, .int x] ∧ H m = some (.tup (cs.map V.int)) ∧ cs.length ≤ 100 ∧
  ∀ H', Same H H' → Q (.int (cs.countP fun c => decide (c ≤ x))) H'
section
variable {P : Program} {w : World} {K : PySem.W.Frag} {mg : Str → Option Value} {base : Heap}
theorem ok_gap {f : Addr} {fd : FuncData} (F : Fun K "gap_at" "gap_at" sGap f fd) (ml : mg "len" = none) : FnOk P w K mg base CX0 1 f fd ["marks", "x"] spGap := by
  refine F.ok scGap (fun vs H Q E h => ?_) (fun cdv A outer s H vs Q E hr h => ?_)
  · obtain ⟨m, cs, x, rfl, _⟩ := h
    rfl
  · obtain ⟨m, cs, x, rfl, hm, hl, q⟩ := h
    refine ⟨_, pss_one (ps_ret (pe_callB call_len_seq (by rfl) ml PySem.boot_len (pa_cons (pe_lc (own := [("mark", 2)]) (g := gName 2) (by rfl) scGap.nd (pi_tup (pv 0))
      (blkOk_by (own := [("mark", 2)]) (N := ["marks", "x", "mark"]) (sc := defScope sGap) (by decide +kernel)) (fun _ _ _ _ _ => pg_name (i := 2) scGap.nd rfl (Or.inl rfl))
      (fun _ _ _ _ _ => pts_one (pt_cmpR op_le (pv 2) (pv 1) (nomark _))) (fun _ _ _ _ _ => pv 2)) pa_nil))), ?_⟩
    refine ⟨_, rfl, m, rfl, ⟨_, SqT.of hm⟩, fun D nD => ?_⟩
    refine lc_filter (i := 2) (fun c => decide (c ≤ x)) (by show 2 < 3; decide) hm nD hl (fun z H' Q' _ s1 q' => ⟨_, rfl, _, rfl, _, _, rfl, rfl, _, rfl, q'⟩) fun H' s1 hD => ?_
    refine ⟨D, _, rfl, .inl (SqL.of hD), ?_⟩
    rw [List.length_map, ← List.countP_eq_length_filter]
    exact q H' s1
end
abbrev sUp : Stmt := topS 9
theorem scUp : FnScope ["marks", "x", "gap"] ["marks", "x"] (defScope sUp) := ⟨rfl, rfl, rfl, by decide +kernel, rfl, by decide +kernel, by decide +kernel⟩
def spUp : Sp := fun vs H Q _ => ∃ (m : Addr) (cs : List Int) (x : Int), vs = [.ref m, .int x] ∧ H m = some (.tup (cs.map V.int)) ∧ cs.length ≤ 100 ∧ Asc cs ∧ ∀ H', Same H H' → Q (oV (up cs x)) H'
section
variable {P : Program} {w : World} {K : PySem.W.Frag} {mg : Str → Option Value} {base : Heap}
theorem ok_up {f : Addr} {fd : FuncData} (F : Fun K "upper_at" "upper_at" sUp f fd) (ml : mg "len" = none) (cG : Cal P w K mg base 1 "gap_at" ["marks", "x"] spGap) : FnOk P w K mg base CX0 2 f fd ["marks", "x"] spUp := by
  refine F.ok scUp (fun vs H Q E h => ?_) (fun cdv A outer s H vs Q E hr h => ?_)
  · obtain ⟨m, cs, x, rfl, _⟩ := h
    rfl
  · obtain ⟨m, cs, x, rfl, hm, hl, hA, q⟩ := h
    refine ⟨_, pss_cons (ps_set (i := 2) scUp.nd rfl (Or.inl rfl) (pe_cal cG hr (pa_cons (pv 0) (pa_cons (pv 1) pa_nil))))
      (pss_one (ps_ret (pe_ifExp (pt_cmpR op_lt (pv 2) (pe_callB call_len_seq (by rfl) ml PySem.boot_len (pa_cons (pv 0) pa_nil)) (nomark _)) (pe_ix ix_tup (pv 0) (pv 2) (fun _ _ => rfl)) pe_non))), ?_⟩
    refine ⟨_, rfl, _, rfl, m, cs, x, rfl, hm, hl, fun H1 s1 => ?_⟩
    refine ⟨_, rfl, _, rfl, m, _, rfl, .inr (SqT.of (s1 _ _ hm)), _, _, rfl, rfl, _, rfl, ?_⟩
    have hg := asc_get hA x
    refine ite2 (fun hc => ?_) (fun hc => ?_)
    · rw [List.length_map] at hc
      have hlt : (cs.countP fun c => decide (c ≤ x)) < cs.length := by simpa using hc
      rw [List.getElem?_eq_getElem hlt] at hg
      refine ⟨_, rfl, _, rfl, m, _, _, _, rfl, rfl, SqT.of (s1 _ _ hm), atI_nat (by rw [List.getElem?_map, List.getElem?_eq_getElem hlt]; rfl), ?_⟩
      have := q H1 s1
      rw [← hg] at this
      exact this
    · rw [List.length_map] at hc
      have hge : cs.length ≤ (cs.countP fun c => decide (c ≤ x)) := by
        have : ¬ (cs.countP fun c => decide (c ≤ x)) < cs.length := by simpa using hc
        omega
      rw [List.getElem?_eq_none hge] at hg
      have := q H1 s1
      rw [← hg] at this
      exact this
end
end K37
set_option Elab.async false
set_option linter.all false
set_option maxRecDepth 100000
/-! Dicts whose keys are tuples of ints and None. -/
namespace K37
open PySem PySem.Spec PyProof.Rows L2
abbrev LK := List PySem.Leaf
def lV : PySem.Leaf → V
  | .none => .non
  | .num i => .int i
  | .text x => .str x
theorem lV_is {P : Program} {w : World} {k : PySem.Leaf} {u : Value} (r : RelV (lV k) u) : (leafKind P w).is k u = true := by
  cases k with
  | none =>
    cases (show u = Value.none from r)
    rfl
  | num i =>
    obtain ⟨t, e⟩ := (show ∃ t, u = Value.int i t from r)
    subst e
    exact decide_eq_true rfl
  | text x =>
    obtain ⟨t, e⟩ := (show ∃ t, u = Value.str x t from r)
    subst e
    show (x == x) = true
    simp
theorem lVs_are {P : Program} {w : World} : ∀ {ks : LK} {us : List Value}, Vals (ks.map lV) us → ItemsAre (leafKind P w) ks us
  | [], _, r => by
    cases r
    exact .nil
  | k :: ks, _, r => by
    rw [List.map_cons] at r
    cases r with
    | cons h t => exact .cons (lV_is h) (lVs_are t)
theorem lkey_of {P : Program} {w : World} {H : Hp} {h : Heap} {a : Addr} {ks : LK} (ok : HOk P w H h) (e : H a = some (.tup (ks.map lV))) : (tupleKind (leafKind P w)).is h ks a := by
  obtain ⟨_, its, r, o, h1, h2, n, h3⟩ := (show ObjOk P w H h a (.tup (ks.map lV)) from ok a _ e)
  exact ⟨o, its.toArray, n, h1, h2, h3, by simpa using lVs_are r⟩
/-- the pairs with the places of the keys' own tuples, and the values as they lie -/
abbrev LT : List (LK × Addr × V) → List (LK × Addr × Value) → Prop := Paired fun p q => p.1 = q.1 ∧ p.2.1 = q.2.1 ∧ RelV p.2.2 q.2.2
/-- what stands at a -/
def DLp (P : Program) (w : World) (a : Addr) (xs : List (LK × Addr × V)) (h : Heap) : Prop :=
  xs.length ≤ sizeLine ∧ (a == sysModules) = false ∧ ∃ us, LT xs us ∧ ∃ o es ep, h.get? a = some o ∧ o.ExactDict ∧ o.data = .dict es ep ∧ es.toList = us.map (entryOfKey (tupleKind (leafKind P w))) ∧ (us.map (·.1)).Nodup
/-- a dict with the pairs kvs, its keys tuples of ints, texts, None -/
def DL (P : Program) (w : World) (H : Hp) (a : Addr) (kvs : List (LK × V)) : Prop :=
  ∃ xs : List (LK × Addr × V), xs.map (fun x => (x.1, x.2.2)) = kvs ∧ H a = some (.ext (DLp P w a xs)) ∧ ∀ x ∈ xs, H x.2.1 = some (.tup (x.1.map lV))
section
variable {P : Program} {w : World} {H H' : Hp} {h : Heap} {a : Addr} {kvs : List (LK × V)}
theorem DL.stay (d : DL P w H a kvs) (ha : ∀ o, H a = some o → H' a = some o) (ht : ∀ b ys, H b = some (.tup ys) → H' b = some (.tup ys)) : DL P w H' a kvs := by
  obtain ⟨xs, e, hx, hk⟩ := d
  exact ⟨xs, e, ha _ hx, fun x hm => ht _ _ (hk x hm)⟩
theorem DL.same (d : DL P w H a kvs) (s : Same H H') : DL P w H' a kvs := d.stay (fun o => s a o) fun b ys => s b _
theorem LT.val : ∀ {xs : List (LK × Addr × V)} {us : List (LK × Addr × Value)}, LT xs us → ∀ k : LK, RelO (valV (xs.map fun x => (x.1, x.2.2)) k) ((atKey us k).map (·.2)) := by
  intro xs us r k
  induction r with
  | nil => exact True.intro
  | @cons p q ps qs h t ih =>
    obtain ⟨h1, _, h2⟩ := h
    by_cases e : p.1 = k
    · have e' : q.1 = k := h1.symm.trans e
      have b : atKey (q :: qs) k = some q.2 := by simp [atKey, List.find?_cons, e']
      rw [b, List.map_cons, valV_pos e]
      exact h2
    · have e' : ¬ q.1 = k := fun z => e (h1.trans z)
      have b : atKey (q :: qs) k = atKey qs k := by simp [atKey, List.find?_cons, e']
      rw [b, List.map_cons, valV_neg e]
      exact ih
theorem LT.keys {xs : List (LK × Addr × V)} {us : List (LK × Addr × Value)} (r : LT xs us) : xs.map (·.1) = us.map (·.1) := by
  induction r with
  | nil => rfl
  | cons h t ih => rw [List.map_cons, List.map_cons, ih, h.1]
theorem LT.is {us : List (LK × Addr × Value)} (ok : HOk P w H h) : ∀ {xs : List (LK × Addr × V)}, LT xs us → (∀ x ∈ xs, H x.2.1 = some (.tup (x.1.map lV))) → ∀ u ∈ us, (tupleKind (leafKind P w)).is h u.1 u.2.1 := by
  intro xs r
  induction r with
  | nil => intro _ u hu; cases hu
  | @cons p q ps qs hh t ih =>
    intro hk u hu
    rcases List.mem_cons.mp hu with e | hu
    · subst e
      have := hk p List.mem_cons_self
      rw [hh.1, hh.2.1] at this
      exact lkey_of ok this
    · exact ih (fun x hx => hk x (List.mem_cons_of_mem _ hx)) u hu
/-- the store, beside the values as they lie -/
def storedL (xs : List (LK × Addr × V)) (k : LK) (b : Addr) (y : V) : List (LK × Addr × V) :=
  if (valV (xs.map fun x => (x.1, x.2.2)) k).isSome then xs.map (fun x => if x.1 = k then (x.1, x.2.1, y) else x) else xs ++ [(k, b, y)]
theorem LT.put {xs : List (LK × Addr × V)} {us : List (LK × Addr × Value)} (r : LT xs us) (k : LK) (b : Addr) {y : V} {u : Value} (ry : RelV y u) : LT (storedL xs k b y) (storedH us k b u) := by
  have hv := (LT.val r k).isSome_eq
  rw [Option.isSome_map] at hv
  unfold storedL storedH
  rw [hv]
  by_cases q : (atKey us k).isSome = true
  · rw [if_pos q, if_pos q]
    clear hv q
    induction r with
    | nil => exact .nil
    | @cons p q ps qs h t ih =>
      rw [List.map_cons, List.map_cons]
      refine .cons ?_ ih
      unfold putAt
      by_cases e : p.1 = k
      · rw [if_pos e, if_pos (h.1.symm.trans e)]
        exact ⟨h.1, h.2.1, ry⟩
      · rw [if_neg e, if_neg fun z => e (h.1.trans z)]
        exact h
  · rw [if_neg q, if_neg q]
    exact Paired.snoc r ⟨rfl, rfl, ry⟩
theorem storedL_pairs (xs : List (LK × Addr × V)) (k : LK) (b : Addr) (y : V) : (storedL xs k b y).map (fun x => (x.1, x.2.2)) = putK (xs.map fun x => (x.1, x.2.2)) k y := by
  unfold storedL putK
  rw [valV_any]
  split
  · rw [List.map_map, List.map_map]
    refine List.map_congr_left fun x _ => ?_
    by_cases e : x.1 = k <;> simp [e]
  · rw [List.map_append]
    rfl
theorem storedL_keys {xs : List (LK × Addr × V)} {k : LK} {b : Addr} {y : V} (hk : ∀ x ∈ xs, H x.2.1 = some (.tup (x.1.map lV))) (hb : H b = some (.tup (k.map lV))) : ∀ x ∈ storedL xs k b y, H x.2.1 = some (.tup (x.1.map lV)) := by
  intro x hx
  unfold storedL at hx
  split at hx
  · obtain ⟨z, hz, e⟩ := List.mem_map.mp hx
    have := hk z hz
    split at e
    · subst e; exact this
    · subst e; exact this
  · rcases List.mem_append.mp hx with hx | hx
    · exact hk x hx
    · rw [List.mem_singleton] at hx
      subst hx; exact hb
end
section
variable {X : Cx} {pins : List (Addr × Obj)} {σ : L2.St} {H : Hp} {s : Shared} {a b : Addr} {kvs : List (LK × V)} {k : LK} {y : V} {A : Around} {E : Value → Shared → Prop}
theorem Inv.dl (I : Inv X pins σ H s) (d : DL X.prog X.w H a kvs) : ∃ xs us, xs.map (fun x => (x.1, x.2.2)) = kvs ∧ LT xs us ∧ s.heap.DictOfH (tupleKind (leafKind X.prog X.w)) a us ∧ (a == sysModules) = false ∧ xs.length ≤ sizeLine ∧
    H a = some (.ext (DLp X.prog X.w a xs)) ∧ ∀ x ∈ xs, H x.2.1 = some (.tup (x.1.map lV)) := by
  obtain ⟨xs, e, hx, hk⟩ := d
  obtain ⟨⟨hz, hs, us, r, o, es, ep, h1, h2, h3, h4, h5⟩, _⟩ := I.hok a _ hx
  exact ⟨xs, us, e, r, ⟨o, es, ep, h1, h2, h3, h4, LT.is I.hok r hk, h5⟩, hs, hz, hx, hk⟩
theorem dl_get {v : V} {Q : Value → Shared → Prop} (hu : A.units + 1 < cLine) (I : Inv X pins σ H s) (d : DL X.prog X.w H a kvs) (hb : H b = some (.tup (k.map lV))) (hv : valV kvs k = some v)
    (h : ∀ u s', Inv X pins σ H s' → RelV v u → Q u s') : wpAny (model X.prog X.w) A (getItem (.ref a) (.ref b)) Q E s := by
  obtain ⟨xs, us, e, r, dd, hs, hz, hx, hk⟩ := Inv.dl I d
  have rv := LT.val r k
  rw [e, hv] at rv
  obtain ⟨u, hu2, ru⟩ := RelO.some_of rv
  obtain ⟨p, hp, hp2⟩ := Option.map_eq_some_iff.mp hu2
  refine wpAny_getItem_heap (tupleKind_room_in1 hu) (lkey_of I.hok hb) dd hp ?_
  rw [hp2]
  exact h u _ (I.tok _) ru
theorem dl_notin {Q : Value → Shared → Prop} (hu : A.units + 1 < cLine) (I : Inv X pins σ H s) (d : DL X.prog X.w H a kvs) (hb : H b = some (.tup (k.map lV)))
    (h : ∀ s', Inv X pins σ H s' → Q (.bool (!(valV kvs k).isSome)) s') : wpAny (model X.prog X.w) A (compareOp .NotIn (.ref b) (.ref a)) Q E s := by
  obtain ⟨xs, us, e, r, dd, hs, hz, hx, hk⟩ := Inv.dl I d
  have rv := (LT.val r k).isSome_eq
  rw [e, Option.isSome_map] at rv
  refine wpAny_notIn_heap (tupleKind_room_in1 hu) (lkey_of I.hok hb) hs dd ?_
  rw [← rv]
  exact h _ (I.tok _)
theorem dl_set {r : Value} {Q : Unit → Shared → Prop} (hu : A.units + 1 < cLine) (I : Inv X pins σ H s) (d : DL X.prog X.w H a kvs) (hb : H b = some (.tup (k.map lV))) (hl : kvs.length < sizeLine) (ry : RelV y r)
    (h : ∀ φ s', DL X.prog X.w (upd H a (.ext φ)) a (putK kvs k y) → Inv X pins σ (upd H a (.ext φ)) s' → Q () s') : wpAny (model X.prog X.w) A (setItem (.ref a) (.ref b) r) Q E s := by
  obtain ⟨xs, us, e, rel, dd, hs, hz, hx, hk⟩ := Inv.dl I d
  have hzu : us.length ≤ sizeLine := by rw [← Paired.length rel]; exact hz
  refine wpAny_setItem_heap (hsz := hzu) (tupleKind_room_in1 hu) (lkey_of I.hok hb) dd fun h' dd' hsb => ?_
  obtain ⟨q, es, ep, hq, h2, h3, h4, _, h5⟩ := dd'
  have hput := LT.put rel k b ry
  have hlen : (storedL xs k b y).length ≤ sizeLine := by
    have e1 : (storedL xs k b y).length = (putK kvs k y).length := by rw [← e, ← storedL_pairs xs k b y, List.length_map]
    have := length_putK kvs k y
    omega
  have nt : ∀ c ys, H c = some (.tup ys) → c ≠ a := fun c ys hc z => by rw [z, hx] at hc; cases hc
  have new : DLp X.prog X.w a (storedL xs k b y) h' := ⟨hlen, hs, _, hput, q, es, ep, hq, h2, h3, h4, h5⟩
  refine h (DLp X.prog X.w a (storedL xs k b y)) _ ⟨storedL xs k b y, ?_, upd_same, fun x hm => ?_⟩ (d_write I (by rw [hx]; exact True.intro) hsb ⟨q, hq⟩ ⟨new, ⟨q, hq⟩, fun h1 h2' p hk' => ?_⟩)
  · rw [storedL_pairs, e]
  · have := storedL_keys (y := y) hk hb x hm
    rw [upd_ne (nt _ _ this)]
    exact this
  · obtain ⟨p1, p2, us', p3, o', es', ep', p4, p5⟩ := p
    exact ⟨p1, p2, us', p3, o', es', ep', hk' _ p4, p5⟩
/-! ### the rules -/
def tLGet (P : Program) (w : World) (td ty : TE) : TE := fun σ H Q => td σ H fun x H1 => ty σ H1 fun y H2 => ∃ a b kvs k v, x = .ref a ∧ DL P w H2 a kvs ∧ y = .ref b ∧ H2 b = some (.tup (k.map lV)) ∧ valV kvs k = some v ∧ Q v H2
def tLNotIn (P : Program) (w : World) (ty td : TE) : TE := fun σ H Q => ty σ H fun y H1 => td σ H1 fun x H2 => ∃ a b kvs k, x = .ref a ∧ DL P w H2 a kvs ∧ y = .ref b ∧ H2 b = some (.tup (k.map lV)) ∧ Q (.bl (!(valV kvs k).isSome)) H2
def sLPut (P : Program) (w : World) (td ty tv : TE) : TS := fun D σ H => tv σ H fun v H1 => td σ H1 fun x H2 => ty σ H2 fun y H3 => ∃ a b kvs k, x = .ref a ∧ DL P w H3 a kvs ∧ y = .ref b ∧ H3 b = some (.tup (k.map lV)) ∧ kvs.length < sizeLine ∧
  ∀ φ, DL P w (upd H3 a (.ext φ)) a (putK kvs k v) → D.nx σ (upd H3 a (.ext φ))
variable {o i value : Expr} {pos pos' : Pos} {td ty tv : TE}
theorem pe_lget (hu : X.A.units + 1 < cLine) (ho : PE X o td) (hi : PE X i ty) (hs : NoSl i) : PE X (.Subscript o i pos) (tLGet X.prog X.w td ty) := by
  refine ⟨fun pins s σ H Q I h => ?_⟩
  refine subD_of PySem.F.slot_dict_getitem.lookup hs (thn (ho.run pins s σ H _ I h) fun u s1 ⟨x, H1, I1, rx, q1⟩ => thn (hi.run pins s1 σ H1 _ I1 q1) fun iv s2 ⟨y, H2, I2, ry, a, b, kvs, k, v, ex, d, ey, hb, hv, q2⟩ => ?_)
  subst ex ey
  obtain rfl : u = Value.ref a := rx
  obtain rfl : iv = Value.ref b := ry
  obtain ⟨xs, us, _, _, dd, _⟩ := Inv.dl I2 d
  exact ⟨dd.typeIs, dl_get hu I2 d hb hv fun w' s3 I3 rw' => ⟨v, H2, I3, rw', q2⟩⟩
theorem pc_lnotin (hu : X.A.units + 1 < cLine) (hi : PE X i ty) (ho : PE X o td) : PC X .NotIn i o (tLNotIn X.prog X.w ty td) := by
  refine ⟨fun pins s σ H Q I h => ?_⟩
  refine thn (hi.run pins s σ H _ I h) fun iv s1 ⟨y, H1, I1, ry, q1⟩ => thn (ho.run pins s1 σ H1 _ I1 q1) fun u s2 ⟨x, H2, I2, rx, a, b, kvs, k, ex, d, ey, hb, q2⟩ => ?_
  subst ex ey
  obtain rfl : u = Value.ref a := rx
  obtain rfl : iv = Value.ref b := ry
  exact dl_notin hu I2 d hb fun s3 I3 => ⟨.bl (!(valV kvs k).isSome), H2, I3, rfl, q2⟩
theorem ps_lput (hu : X.A.units + 1 < cLine) (ho : PE X o td) (hi : PE X i ty) (hv : PE X value tv) (hs : swapsWith value (some (.Subscript o i pos')) pos.line X.env = pure false) :
    PS X (.Assign [.Subscript o i pos'] value pos) (sLPut X.prog X.w td ty tv) := by
  refine ⟨fun pins s σ H D I h => ?_⟩
  refine wpAny_Assign_Subscript (thn (hv.run pins s σ H _ I h) fun r s1 ⟨v, H1, I1, rv, q1⟩ => thn (ho.run pins s1 σ H1 _ I1 q1) fun u s2 ⟨x, H2, I2, rx, q2⟩ => thn (hi.run pins s2 σ H2 _ I2 q2) fun iv s3 ⟨y, H3, I3, ry, a, b, kvs, k, ex, d, ey, hb, hl, q3⟩ => ?_) hs
  subst ex ey
  obtain rfl : u = Value.ref a := rx
  obtain rfl : iv = Value.ref b := ry
  exact dl_set hu I3 d hb hl rv fun φ s4 d4 I4 => ⟨σ, _, I4, q3 φ d4⟩
/-- {} -/
def tLNew (P : Program) (w : World) : TE := fun _ H Q => ∀ p φ, H p = none → DL P w (upd H p (.ext φ)) p [] → Q (.ref p) (upd H p (.ext φ))
theorem dl_stable {P : Program} {w : World} {p : Addr} {xs : List (LK × Addr × V)} {h1 h2 : Heap} (d : DLp P w p xs h1) (k : ∀ o, h1.get? p = some o → h2.get? p = some o) : DLp P w p xs h2 := by
  obtain ⟨p1, p2, us', p3, o', es', ep', p4, p5⟩ := d
  exact ⟨p1, p2, us', p3, o', es', ep', k _ p4, p5⟩
theorem dl_fresh {P : Program} {w : World} (h : Heap) (hb : sysModules < h.objs.size) : DLp P w h.objs.size [] (h.push { cls := .type "dict", data := .dict #[] }) := by
  refine ⟨Nat.zero_le _, beq_eq_false_iff_ne.mpr (Ne.symm (Nat.ne_of_lt hb)), [], .nil, ?_⟩
  obtain ⟨o, es, ep, h1, h2, h3, h4, _, h5⟩ := Heap.DictOfH.new (knd := tupleKind (leafKind P w)) h
  exact ⟨o, es, ep, h1, h2, h3, h4, h5⟩
theorem pe_lnew : PE X (.Dict [] [] pos) (tLNew X.prog X.w) := ⟨fun pins s σ H Q I h => by
  have hn := I.hok.fresh (Nat.le_refl s.heap.objs.size)
  have d := dl_fresh (P := X.prog) (w := X.w) s.heap I.big
  refine wpAny_Dict_empty ⟨.ref s.heap.objs.size, _, I.laid (a := s.heap.objs.size) (o := .ext (DLp X.prog X.w s.heap.objs.size [])) (t' := s.toks) (fun _ _ q => Heap.get?_push_of_some _ q) (Nat.le_refl _) ?_, rfl, h _ _ hn ⟨[], rfl, upd_same, fun x hx => by cases hx⟩⟩
  exact ⟨d, ⟨_, Heap.get?_push_size _ rfl⟩, fun h1 h2 => dl_stable⟩⟩
end
end K37
set_option Elab.async false
set_option linter.all false
set_option maxRecDepth 100000
/-! The small defs of the program. -/
namespace K37
open PySem PySem.Spec PyProof.Rows L2
abbrev sIsInt : Stmt := topS 2
abbrev sPlus : Stmt := topS 14
abbrev sGreat : Stmt := topS 15
abbrev sFarT : Stmt := topS 16
abbrev sWant : Stmt := topS 19
abbrev sNeed : Stmt := topS 21
theorem scIsInt : FnScope ["thing"] ["thing"] (defScope sIsInt) := ⟨rfl, rfl, rfl, by decide +kernel, rfl, by decide +kernel, by decide +kernel⟩
theorem scPlus : FnScope ["number", "more"] ["number", "more"] (defScope sPlus) := ⟨rfl, rfl, rfl, by decide +kernel, rfl, by decide +kernel, by decide +kernel⟩
theorem scGreat : FnScope ["numbers"] ["numbers"] (defScope sGreat) := ⟨rfl, rfl, rfl, by decide +kernel, rfl, by decide +kernel, by decide +kernel⟩
theorem scFarT : FnScope ["marks", "upper", "mark"] ["marks", "upper"] (defScope sFarT) := ⟨rfl, rfl, rfl, by decide +kernel, rfl, by decide +kernel, by decide +kernel⟩
theorem scWant : FnScope ["is_right", "word"] ["is_right", "word"] (defScope sWant) := ⟨rfl, rfl, rfl, by decide +kernel, rfl, by decide +kernel, by decide +kernel⟩
theorem scNeed : FnScope ["first"] ["first"] (defScope sNeed) := ⟨rfl, rfl, rfl, by decide +kernel, rfl, by decide +kernel, by decide +kernel⟩
def spIsInt : Sp := fun vs H Q _ => ∃ i : Int, vs = [.int i] ∧ Q (.bl true) H
def spPlus : Sp := fun vs H Q _ => ∃ (v : Option Int) (n : Int), vs = [oV v, .int n] ∧ Q (oV (plusI v n)) H
def spGreat : Sp := fun vs H Q _ => ∃ (a : Addr) (xs : List (Option Int)), vs = [.ref a] ∧ H a = some (.lst (xs.map oV)) ∧ xs ≠ [] ∧ Q (oV (greatI xs)) H
def spFarT : Sp := fun vs H Q _ => ∃ (m : Addr) (cs : List Int) (u : Int), vs = [.ref m, .int u] ∧ H m = some (.tup (cs.map V.int)) ∧ cs.length ≤ 100 ∧ ∀ H' p, Same H H' → H p = none → H' p = some (.lst ((tgs cs u).map V.int)) → Q (.ref p) H'
def spWant : Sp := fun vs H Q _ => ∃ x : V, vs = [.bl true, x] ∧ Q .non H
def spNeed : Sp := fun vs H Q _ => ∃ i : Int, vs = [.int i] ∧ Q .non H
theorem inV_non : ∀ xs : List (Option Int), inV .non (xs.map oV) = decide (none ∈ xs)
  | [] => rfl
  | none :: xs => by simp [inV, oV, eqV]
  | some i :: xs => by
    have ih := inV_non xs
    unfold inV at ih ⊢
    rw [List.map_cons, List.any_cons, ih]
    simp [oV, eqV]
theorem all_some : ∀ {xs : List (Option Int)}, none ∉ xs → ∃ ns : List Int, xs = ns.map some
  | [], _ => ⟨[], rfl⟩
  | none :: xs, h => absurd List.mem_cons_self h
  | some i :: xs, h => by
    obtain ⟨ns, e⟩ := all_some (xs := xs) fun z => h (List.mem_cons_of_mem _ z)
    exact ⟨i :: ns, by rw [e]; rfl⟩
theorem oV_all (xs : List (Option Int)) : (xs.map oV).all flatV = true := by
  rw [List.all_eq_true]
  intro v hv
  obtain ⟨o, _, rfl⟩ := List.mem_map.mp hv
  exact oV_flat o
section
variable {P : Program} {w : World} {K : PySem.W.Frag} {mg : Str → Option Value} {base : Heap} {f : Addr} {fd : FuncData}
theorem ok_isInt (F : Fun K "is_integer" "is_integer" sIsInt f fd) (mi : mg "isinstance" = none) (mI : mg "int" = none) (mB : mg "bool" = none) : FnOk P w K mg base CX0 1 f fd ["thing"] spIsInt := by
  refine F.ok scIsInt (fun vs H Q E h => ?_) (fun cdv A outer s H vs Q E hr h => ?_)
  · obtain ⟨i, rfl, _⟩ := h
    rfl
  · obtain ⟨i, rfl, q⟩ := h
    refine ⟨_, pss_one (ps_ret (pe_and (pe_callB call_isi (by rfl) mi (by decide +kernel) (pa_cons (pv 0) (pa_cons (pe_bltn (v := .ty "int") (by rfl) mI boot_int rfl) pa_nil)))
      (pe_one (pe_not (pe_callB call_isi (by rfl) mi (by decide +kernel) (pa_cons (pv 0) (pa_cons (pe_bltn (v := .ty "bool") (by rfl) mB (by decide +kernel) rfl) pa_nil))))))), ?_⟩
    refine ⟨_, rfl, .int i, .ty "int", .type "int", .type "int", true, rfl, .ty "int", .base (.int i), kit_ty (by decide +kernel), true, rfl, iteT ?_⟩
    exact ⟨_, rfl, .int i, .ty "bool", .type "int", .type "bool", false, rfl, .ty "bool", .base (.int i), kit_ty (by decide +kernel), false, rfl, q⟩
theorem ok_plus (F : Fun K "plus" "plus" sPlus f fd) : FnOk P w K mg base CX0 1 f fd ["number", "more"] spPlus := by
  refine F.ok scPlus (fun vs H Q E h => ?_) (fun cdv A outer s H vs Q E hr h => ?_)
  · obtain ⟨v, n, rfl, _⟩ := h
    rfl
  · obtain ⟨v, n, rfl, q⟩ := h
    refine ⟨_, pss_one (ps_ret (pe_ifExp (pt_cmpR op_isN (pv 0) pe_non (nomark _)) pe_non (pe_op op_add (pv 0) (pv 1)))), ?_⟩
    refine ⟨_, rfl, rfl, _, rfl, ?_⟩
    cases v with
    | none => exact iteT q
    | some i => exact iteF ⟨_, rfl, _, rfl, i, n, rfl, rfl, q⟩
theorem ok_great (F : Fun K "greatest_of" "greatest_of" sGreat f fd) (mm : mg "max" = none) : FnOk P w K mg base CX0 1 f fd ["numbers"] spGreat := by
  refine F.ok scGreat (fun vs H Q E h => ?_) (fun cdv A outer s H vs Q E hr h => ?_)
  · obtain ⟨a, xs, rfl, _⟩ := h
    rfl
  · obtain ⟨a, xs, rfl, ha, hne, q⟩ := h
    refine ⟨_, pss_one (ps_ret (pe_ifExp (pt_cmpR op_in_seq pe_non (pv 0) (by rfl)) pe_non (pe_callB (cr_max rfl) (by rfl) mm (by decide +kernel) (pa_cons (pv 0) pa_nil)))), ?_⟩
    refine ⟨_, rfl, a, xs.map oV, rfl, .inl (SqL.of ha), rfl, oV_all xs, _, rfl, ?_⟩
    show if (if false = true then _ else inV .non (xs.map oV)) = true then _ else _
    rw [if_neg Bool.false_ne_true, inV_non]
    by_cases hn : none ∈ xs
    · rw [if_pos (by simpa using hn)]
      rw [greatI_none hn] at q
      exact q
    · rw [if_neg (by simpa using hn)]
      obtain ⟨ns, rfl⟩ := all_some hn
      have e : (ns.map some).map oV = ns.map V.int := by rw [List.map_map]; rfl
      rw [e] at ha
      have hl : 0 < ns.length := by
        cases ns with
        | nil => exact absurd rfl hne
        | cons _ _ => simp
      refine ⟨_, rfl, a, ns, rfl, SqL.of ha, hl, fun m hm hle => ?_⟩
      rw [greatI_some hm hle] at q
      exact q
theorem ok_farT (F : Fun K "far_targets" "far_targets" sFarT f fd) : FnOk P w K mg base CX0 1 f fd ["marks", "upper"] spFarT := by
  refine F.ok scFarT (fun vs H Q E h => ?_) (fun cdv A outer s H vs Q E hr h => ?_)
  · obtain ⟨m, cs, u, rfl, _⟩ := h
    rfl
  · obtain ⟨m, cs, u, rfl, hm, hl, q⟩ := h
    refine ⟨_, pss_one (ps_ret (pe_op op_cat (pe_lst (pa_cons (pe_op op_add (pv 1) pe_int) pa_nil)) (pe_lc (own := [("mark", 2)]) (g := gName 2) (by rfl) scFarT.nd (pi_tup (pv 0))
      (blkOk_by (own := [("mark", 2)]) (N := ["marks", "upper", "mark"]) (sc := defScope sFarT) (by decide +kernel)) (fun _ _ _ _ _ => pg_name (i := 2) scFarT.nd rfl (Or.inl rfl))
      (fun _ _ _ _ _ => pts_one (pt_cmpR op_gt (pv 2) (pe_op op_add (pv 1) pe_int) (nomark _))) (fun _ _ _ _ _ => pv 2)))), ?_⟩
    refine ⟨_, rfl, u, 1, rfl, rfl, by show 1 ≤ sizeLine; decide, fun l nl => ?_⟩
    have s0 : Same H (upd H l (.lst [.int (u + 1)])) := same_upd nl
    refine ⟨_, rfl, m, rfl, ⟨_, SqT.of (s0 _ _ hm)⟩, fun D nD => ?_⟩
    have lD : l ≠ D := ne_of_none upd_same nD
    refine lc_filter (i := 2) (fun c => decide (u + 1 < c)) (by show 2 < 3; decide) (s0 _ _ hm) nD hl (fun z H' Q' _ s1 q' => ⟨_, rfl, _, rfl, u, 1, rfl, rfl, _, _, rfl, rfl, _, rfl, q'⟩) fun H' s1 hD => ?_
    refine ⟨l, D, _, _, rfl, rfl, s1 _ _ upd_same, hD, ?_, fun p np => ?_⟩
    · rw [List.length_map]
      have := List.length_filter_le (fun c => decide (u + 1 < c)) cs
      have h2 : (1 : Nat) + 100 ≤ sizeLine := by decide
      show 1 + _ ≤ sizeLine
      omega
    · have s2 : Same H H' := s0.trans s1
      exact q _ p (s2.trans (same_upd np)) (s2.free np) upd_same
theorem ok_want (F : Fun K "want" "want" sWant f fd) : FnOk P w K mg base CX0 1 f fd ["is_right", "word"] spWant := by
  refine F.ok scWant (fun vs H Q E h => ?_) (fun cdv A outer s H vs Q E hr h => ?_)
  · obtain ⟨x, rfl, _⟩ := h
    rfl
  · obtain ⟨x, rfl, q⟩ := h
    refine ⟨_, pss_one (ps_if (pt_not (pt_val (pv 0))) pss_never pss_nil), ?_⟩
    exact ⟨_, rfl, true, rfl, iteF q⟩
theorem ok_need (F : Fun K "need_first" "need_first" sNeed f fd) (c1 : Cal P w K mg base 1 "is_integer" ["thing"] spIsInt) (c2 : Cal P w K mg base 1 "want" ["is_right", "word"] spWant) : FnOk P w K mg base CX0 2 f fd ["first"] spNeed := by
  refine F.ok scNeed (fun vs H Q E h => ?_) (fun cdv A outer s H vs Q E hr h => ?_)
  · obtain ⟨i, rfl, _⟩ := h
    rfl
  · obtain ⟨i, rfl, q⟩ := h
    refine ⟨_, pss_one (ps_expr (pe_cal c2 hr (pa_cons (pe_cal c1 hr (pa_cons (pv 0) pa_nil)) (pa_cons pe_str pa_nil)))), ?_⟩
    exact ⟨_, rfl, i, rfl, _, rfl, q⟩
end
end K37
set_option Elab.async false
set_option linter.all false
set_option maxRecDepth 100000
/-! RoundValues: what an object of it is; best_far. -/
namespace K37
open PySem PySem.Spec PyProof.Rows L2
/-! ### rules that name the written part (within a comprehension's block) -/
section
variable {X : Cx} {e a b : Expr} {f : Str} {pos : Pos} {ta tb : TE}
theorem pe_fldK (K : PySem.W.Frag) (he : PE X e ta) (hb : attributeBase e f X.env (eval e X.env) = eval e X.env := by rfl) (hK : X.K = K := by rfl) : PE X (.Attribute e f pos) (tFld K ta f) := by
  subst hK
  exact pe_fld he hb
theorem pe_ixT (K : PySem.W.Frag) (ha : PE X a ta) (hb : PE X b tb) (hs : PlainIx b := by intro _ _; rfl) (hK : X.K = K := by rfl) : PE X (.Subscript a b pos) (tOp (rIxT K) ta tb) := by
  subst hK
  exact pe_ix ix_tup ha hb hs
theorem pe_ixL (K : PySem.W.Frag) (ha : PE X a ta) (hb : PE X b tb) (hs : PlainIx b := by intro _ _; rfl) (hK : X.K = K := by rfl) : PE X (.Subscript a b pos) (tOp (rIxL K) ta tb) := by
  subst hK
  exact pe_ix ix_list ha hb hs
end
/-! ### a rule in the heap -/
def Mv.str : Mv → Str
  | .take => "take"
  | .next => "next"
  | .out => "out"
  | .wait => "wait"
theorem mv_out (m : Mv) : decide (V.str m.str = V.str "out") = decide (m = .out) := by cases m <;> decide +kernel
theorem mv_next (m : Mv) : decide (V.str m.str = V.str "next") = decide (m = .next) := by cases m <;> decide +kernel
theorem mv_wait (m : Mv) : decide (V.str m.str = V.str "wait") = decide (m = .wait) := by cases m <;> decide +kernel
theorem mv_take (m : Mv) : decide (V.str m.str = V.str "take") = decide (m = .take) := by cases m <;> decide +kernel
def PairAt (H : Hp) (b : Addr) (m : Mv × Nat) : Prop := H b = some (.tup [.str m.1.str, .int (m.2 : Nat)])
def PhaseAt (H : Hp) (b : Addr) (row : List (Mv × Nat)) : Prop := ∃ bs : List Addr, H b = some (.tup (bs.map V.ref)) ∧ Paired (PairAt H) bs row
def PhAt (H : Hp) (a : Addr) (ph : List (List (Mv × Nat))) : Prop := ∃ bs : List Addr, H a = some (.tup (bs.map V.ref)) ∧ Paired (PhaseAt H) bs ph
theorem Paired.at {α β : Type} {F : α → β → Prop} : ∀ {l : List α} {m : List β}, Paired F l m → ∀ {i : Nat} {y : β}, m[i]? = some y → ∃ x, l[i]? = some x ∧ F x y
  | _, _, .nil, i, y, h => by simp at h
  | _, _, .cons r t, 0, y, h => by
    simp at h
    subst h
    exact ⟨_, rfl, r⟩
  | _, _, .cons r t, i + 1, y, h => by
    obtain ⟨x, hx, q⟩ := Paired.at t (i := i) (y := y) (by simpa using h)
    exact ⟨x, by simpa using hx, q⟩
theorem PhaseAt.same {H H' : Hp} {b : Addr} {row : List (Mv × Nat)} (h : PhaseAt H b row) (s : Same H H') : PhaseAt H' b row := by
  obtain ⟨bs, h1, h2⟩ := h
  exact ⟨bs, s _ _ h1, Paired.mapP h2 fun _ _ q => s _ _ q⟩
theorem PhAt.same {H H' : Hp} {a : Addr} {ph : List (List (Mv × Nat))} (h : PhAt H a ph) (s : Same H H') : PhAt H' a ph := by
  obtain ⟨bs, h1, h2⟩ := h
  exact ⟨bs, s _ _ h1, Paired.mapP h2 fun _ _ q => PhaseAt.same q s⟩
/-- the tuples stay -/
def Tups (H H' : Hp) : Prop := ∀ b xs, H b = some (.tup xs) → H' b = some (.tup xs)
theorem Same.tups {H H' : Hp} (s : Same H H') : Tups H H' := fun b xs => s b _
theorem PhaseAt.tups {H H' : Hp} {b : Addr} {row : List (Mv × Nat)} (h : PhaseAt H b row) (s : Tups H H') : PhaseAt H' b row := by
  obtain ⟨bs, h1, h2⟩ := h
  exact ⟨bs, s _ _ h1, Paired.mapP h2 fun _ _ q => s _ _ q⟩
theorem PhAt.tups {H H' : Hp} {a : Addr} {ph : List (List (Mv × Nat))} (h : PhAt H a ph) (s : Tups H H') : PhAt H' a ph := by
  obtain ⟨bs, h1, h2⟩ := h
  exact ⟨bs, s _ _ h1, Paired.mapP h2 fun _ _ q => PhaseAt.tups q s⟩
/-- a rule as the law draws it -/
structure Good (R : Rule) : Prop extends Fits R where
  rows : ∀ row ∈ R.ph, row.length = 3
  two : R.cuts.length ≤ 2
/-- the pair of a phase for a case -/
theorem PhAt.get {H : Hp} {a : Addr} {R : Rule} (G : Good R) (h : PhAt H a R.ph) {p c : Nat} (hp : p < R.ph.length) (hc : c < 3) :
    ∃ xs b ys d, H a = some (.tup xs) ∧ xs[p]? = some (V.ref b) ∧ H b = some (.tup ys) ∧ ys[c]? = some (V.ref d) ∧ H d = some (.tup [.str (R.pr p c).1.str, .int ((R.pr p c).2 : Nat)]) := by
  obtain ⟨bs, h1, h2⟩ := h
  have e1 : R.ph[p]? = some R.ph[p] := List.getElem?_eq_getElem hp
  obtain ⟨b, hb, ds, h3, h4⟩ := Paired.at h2 e1
  have hl := G.rows R.ph[p] (List.getElem_mem hp)
  have hc' : c < R.ph[p].length := by omega
  have e2 : R.ph[p][c]? = some R.ph[p][c] := List.getElem?_eq_getElem hc'
  obtain ⟨d, hd, h5⟩ := Paired.at h4 e2
  have e3 : R.pr p c = R.ph[p][c] := by
    unfold Rule.pr
    rw [List.getD_eq_getElem?_getD (l := R.ph), e1, Option.getD_some, List.getD_eq_getElem?_getD, e2, Option.getD_some]
  refine ⟨_, b, _, d, h1, by rw [List.getElem?_map, hb]; rfl, h3, by rw [List.getElem?_map, hd]; rfl, ?_⟩
  rw [e3]
  exact h5
/-! ### an object of RoundValues -/
def flds (am ap df dl : Addr) : List (Str × V) := putF "held_late" (.ref dl) (putF "held_fresh" (.ref df) (putF "held_phases" (.ref ap) (putF "held_marks" (.ref am) [])))
theorem flds_marks (am ap df dl : Addr) : (flds am ap df dl).lookup ("held_marks" : Str) = some (.ref am) := by
  unfold flds
  rw [lookup_putF, if_neg (by decide +kernel), lookup_putF, if_neg (by decide +kernel), lookup_putF, if_neg (by decide +kernel), lookup_putF, if_pos rfl]
theorem flds_phases (am ap df dl : Addr) : (flds am ap df dl).lookup ("held_phases" : Str) = some (.ref ap) := by
  unfold flds
  rw [lookup_putF, if_neg (by decide +kernel), lookup_putF, if_neg (by decide +kernel), lookup_putF, if_pos rfl]
theorem flds_fresh (am ap df dl : Addr) : (flds am ap df dl).lookup ("held_fresh" : Str) = some (.ref df) := by
  unfold flds
  rw [lookup_putF, if_neg (by decide +kernel), lookup_putF, if_pos rfl]
theorem flds_late (am ap df dl : Addr) : (flds am ap df dl).lookup ("held_late" : Str) = some (.ref dl) := by
  unfold flds
  rw [lookup_putF, if_pos rfl]
theorem flds_no (am ap df dl : Addr) {m : Str} (h1 : ¬ m = "held_late") (h2 : ¬ m = "held_fresh") (h3 : ¬ m = "held_phases") (h4 : ¬ m = "held_marks") : (flds am ap df dl).lookup m = none := by
  unfold flds
  rw [lookup_putF, if_neg h1, lookup_putF, if_neg h2, lookup_putF, if_neg h3, lookup_putF, if_neg h4]
  rfl
def kF (q : Nat) (e : Int) : List Key := [.inl (q : Int), .inl e]
def oL : Option Int → PySem.Leaf
  | none => .none
  | some i => .num i
theorem lV_oL (u : Option Int) : lV (oL u) = oV u := by cases u <;> rfl
def kL (q : Nat) (u : Option Int) : LK := [.num (q : Int), oL u]
theorem kF_inj {q q' : Nat} {e e' : Int} (h : kF q e = kF q' e') : q = q' ∧ e = e' := by
  unfold kF at h
  injection h with h1 h2
  injection h2 with h2 _
  injection h1 with h1
  injection h2 with h2
  exact ⟨by omega, h2⟩
theorem oL_inj {u v : Option Int} (h : oL u = oL v) : u = v := by
  cases u <;> cases v <;> simp_all [oL]
theorem kL_inj {q q' : Nat} {e e' : Option Int} (h : kL q e = kL q' e') : q = q' ∧ e = e' := by
  unfold kL at h
  injection h with h1 h2
  injection h2 with h2 _
  injection h1 with h1
  exact ⟨by omega, oL_inj h2⟩
/-- the fresh values held: right where they count, and there for the ends of S -/
structure FrOk (R : Rule) (S : Int → Prop) (kvs : List (List Key × V)) : Prop where
  val : ∀ k v, valV kvs k = some v → ∃ q e o, k = kF q e ∧ v = oV o ∧ (Exits R ∨ up R.cuts e = none → o = fresh R q e)
  has : ∀ q e, q < R.ph.length → S e → (valV kvs (kF q e)).isSome = true
theorem FrOk.get {R : Rule} {S : Int → Prop} {kvs : List (List Key × V)} (F : FrOk R S kvs) {q : Nat} {e : Int} (hq : q < R.ph.length) (he : S e) : ∃ o, valV kvs (kF q e) = some (oV o) ∧ (Exits R ∨ up R.cuts e = none → o = fresh R q e) := by
  obtain ⟨v, hv⟩ := Option.isSome_iff_exists.mp (F.has q e hq he)
  obtain ⟨q', e', o, hk, rfl, ho⟩ := F.val _ _ hv
  obtain ⟨rfl, rfl⟩ := kF_inj hk
  exact ⟨o, hv, ho⟩
/-- the late values held -/
structure LtOk (R : Rule) (kvs : List (LK × V)) : Prop where
  val : ∀ k v, valV kvs k = some v → ∃ q u o, k = kL q u ∧ v = oV o ∧ (Exits R ∨ u = none → o = late R q u)
  nd : (kvs.map (·.1)).Nodup
  key : ∀ k ∈ kvs.map (·.1), ∃ q u, q < R.ph.length ∧ (u = none ∨ ∃ m ∈ R.cuts, u = some m) ∧ k = kL q u
theorem LtOk.few {R : Rule} (G : Good R) {kvs : List (LK × V)} (L : LtOk R kvs) : kvs.length ≤ 9 := by
  have h := nodup_le (U := (List.range R.ph.length).flatMap fun q => (none :: R.cuts.map some).map fun u => kL q u) L.nd fun k hk => by
    obtain ⟨q, u, hq, hu, rfl⟩ := L.key k hk
    refine List.mem_flatMap.mpr ⟨q, List.mem_range.mpr hq, List.mem_map.mpr ⟨u, ?_, rfl⟩⟩
    rcases hu with rfl | ⟨m, hm, rfl⟩
    · exact List.mem_cons_self
    · exact List.mem_cons_of_mem _ (List.mem_map.mpr ⟨m, hm, rfl⟩)
  rw [List.length_map, List.length_flatMap] at h
  have e : ∀ l : List Nat, (l.map fun q => ((none :: R.cuts.map some).map fun u => kL q u).length).sum = l.length * (R.cuts.length + 1) := by
    intro l
    induction l with
    | nil => simp
    | cons a r ih =>
      rw [List.map_cons, List.sum_cons, ih, List.length_cons, Nat.succ_mul]
      simp
      omega
  rw [e, List.length_range] at h
  have h1 := G.n3
  have h2 := G.two
  have h3 : R.ph.length * (R.cuts.length + 1) ≤ 3 * 3 := Nat.mul_le_mul h1 (by omega)
  omega
structure RV (P : Program) (w : World) (C : Addr) (R : Rule) (S : Int → Prop) (H : Hp) (x am ap df dl : Addr) : Prop where
  ob : ∃ dx, H x = some (.ins C dx (flds am ap df dl))
  mks : H am = some (.tup (R.cuts.map V.int))
  ph : PhAt H ap R.ph
  fr : ∃ kvs, H df = some (.dT kvs) ∧ FrOk R S kvs
  lt : ∃ kvs, DL P w H dl kvs ∧ LtOk R kvs
theorem RV.same {P : Program} {w : World} {C : Addr} {R : Rule} {S : Int → Prop} {H H' : Hp} {x am ap df dl : Addr} (r : RV P w C R S H x am ap df dl) (s : Same H H') : RV P w C R S H' x am ap df dl := by
  obtain ⟨⟨dx, h1⟩, h2, h3, ⟨k1, h4, h5⟩, ⟨k2, h6, h7⟩⟩ := r
  exact ⟨⟨dx, s _ _ h1⟩, s _ _ h2, h3.same s, ⟨k1, s _ _ h4, h5⟩, ⟨k2, h6.same s, h7⟩⟩
/-- what the walk asks of the class, the constants, the built-ins -/
structure Cs (K : PySem.W.Frag) (mg : Str → Option Value) (C : Addr) : Prop where
  cl : Cls K C
  nM : NoAttr K C "held_marks"
  nP : NoAttr K C "held_phases"
  nF : NoAttr K C "held_fresh"
  nL : NoAttr K C "held_late"
  near : ∃ t, mg "NEAR" = some (.int 0 t)
  att : ∃ t, mg "AT" = some (.int 1 t)
  far : ∃ t, mg "FAR" = some (.int 2 t)
  len : mg "len" = none
  max : mg "max" = none
  range : mg "range" = none
/-! ### best_far -/
/-- the greatest number behind a far round that does not wait -/
noncomputable def bfar (R : Rule) (mv : Mv) (q : Nat) : Option Int → Option Int
  | none => some 0
  | some m => match mv with
    | .out => some 0
    | .next => greatI (some 0 :: (R.cuts.filter fun c => decide (m < c)).map (fresh R q))
    | _ => greatI (some 0 :: (tgs R.cuts m).map (fresh R q))
theorem far_best {R : Rule} (hA : Asc R.cuts) {p q : Nat} {mv : Mv} {u : Option Int} (h : R.pr p 2 = (mv, q)) (hw : mv ≠ .wait) : far R p u = plusI (bfar R mv q u) 1 := by
  cases u with
  | none => exact far_stop h hw (.inr rfl)
  | some m =>
    cases mv with
    | wait => exact absurd rfl hw
    | out => exact far_stop h hw (.inl rfl)
    | next => exact far_next hA h
    | take => exact far_take hA h
abbrev sRV : Stmt := topS 17
abbrev sBest : Stmt := inClass sRV 1
theorem scBest : FnScope ["self", "move", "after", "upper", "ends", "mark", "end"] ["self", "move", "after", "upper"] (defScope sBest) := ⟨rfl, rfl, rfl, by decide +kernel, rfl, by decide +kernel, by decide +kernel⟩
def spBest (P : Program) (w : World) (C : Addr) : Sp := fun vs H Q _ => ∃ (R : Rule) (S : Int → Prop) (x am ap df dl : Addr) (mv : Mv) (q : Nat) (u : Option Int), vs = [.ref x, .str mv.str, .int (q : Nat), oV u] ∧
  Good R ∧ RV P w C R S H x am ap df dl ∧ q < R.ph.length ∧ (∀ m, u = some m → ∀ e ∈ tgs R.cuts m, S e) ∧ ∀ H' b, Same H H' → (Exits R ∨ u = none → b = bfar R mv q u) → Q (oV b) H'
theorem gt_tgs {cuts : List Int} {m c : Int} (hc : c ∈ cuts) (h : m < c) : c ∈ tgs cuts m := by
  unfold tgs
  by_cases e : c = m + 1
  · subst e; exact List.mem_cons_self
  · exact List.mem_cons_of_mem _ (List.mem_filter.mpr ⟨hc, by simp; omega⟩)
section
variable {P : Program} {w : World} {K : PySem.W.Frag} {mg : Str → Option Value} {base : Heap} {f C : Addr} {fd : FuncData}
theorem ok_best (F : Fun K "best_far" "RoundValues.best_far" sBest f fd) (T : Cs K mg C) (cG : Cal P w K mg base 1 "greatest_of" ["numbers"] spGreat) (cF : Cal P w K mg base 1 "far_targets" ["marks", "upper"] spFarT) :
    FnOk P w K mg base CX0 2 f fd ["self", "move", "after", "upper"] (spBest P w C) := by
  refine F.ok scBest (fun vs H Q E h => ?_) (fun cdv A outer s H vs Q E hr h => ?_)
  · obtain ⟨R, S, x, am, ap, df, dl, mv, q, u, rfl, _⟩ := h
    rfl
  · obtain ⟨R, S, x, am, ap, df, dl, mv, q, u, rfl, G, V0, hq, hS, k⟩ := h
    have hu := hu_of hr
    obtain ⟨⟨dx, ho⟩, hm, hp, ⟨kvs, hf, FR⟩, _⟩ := id V0
    refine ⟨_, pss_cons (ps_if (PW.pt (pw_or (pt_cmpR op_eq (pv 1) pe_str (nomark _)) (pw_or1 (pt_cmpR op_isN (pv 3) pe_non (nomark _))))) (pss_one (ps_ret pe_int)) pss_nil)
      (pss_cons (ps_set (i := 4) scBest.nd rfl (Or.inl rfl) (pe_cal cF hr (pa_cons (pe_fld (pv 0) rfl) (pa_cons (pv 3) pa_nil))))
      (C8.pss_cut (ps_if (pt_cmpR op_eq (pv 1) pe_str (nomark _)) (pss_one (ps_setLc (i := 4) (own := [("mark", 5)]) (g := gName 5) (by rfl) scBest.nd rfl rfl (sw_true rfl rfl rfl (by decide +kernel)) (pi_tup (pe_fld (pv 0) rfl))
          (blkOk_by (own := [("mark", 5)]) (N := ["self", "move", "after", "upper", "ends", "mark", "end"]) (sc := defScope sBest) (by decide +kernel)) (fun _ _ _ _ _ => pg_name (i := 5) scBest.nd rfl (Or.inl rfl))
          (fun _ _ _ _ _ => pts_one (pt_cmpR op_gt (pv 5) (pv 3) (nomark _))) (fun _ _ _ _ _ => pv 5))) pss_nil)
      (pss_one (ps_ret (pe_cal cG hr (pa_cons (pe_op op_cat (pe_lst (pa_cons pe_int pa_nil)) (pe_lc (own := [("end", 6)]) (g := gName 6) (by rfl) scBest.nd (pi_list (pv 4))
        (blkOk_by (own := [("end", 6)]) (N := ["self", "move", "after", "upper", "ends", "mark", "end"]) (sc := defScope sBest) (by decide +kernel)) (fun _ _ _ _ _ => pg_name (i := 6) scBest.nd rfl (Or.inl rfl))
        (fun _ _ _ _ _ => pts_nil) (fun _ _ _ _ _ => pe_dget hu (pe_fldK K (pv 0)) (pe_tup (pa_cons (pv 2) (pa_cons (pv 6) pa_nil))) (fun _ _ => rfl)))) pa_nil)))))), ?_⟩
    -- move == 'out' or upper is None
    refine ⟨_, rfl, rfl, _, rfl, ?_⟩
    rw [mv_out]
    refine ite2 (fun hmv => ?_) (fun hmv => ?_)
    · have e : mv = .out := by simpa using hmv
      exact iteT (k H (some 0) (Same.refl H) fun _ => by rw [e]; cases u <;> rfl)
    · refine ⟨_, rfl, rfl, _, rfl, ?_⟩
      cases u with
      | none => exact iteT (k H (some 0) (Same.refl H) fun _ => rfl)
      | some m =>
        refine iteF ?_
        -- ends = far_targets(self.held_marks, upper)
        refine ⟨_, rfl, x, C, dx, _, _, rfl, ho, T.cl, T.nM, flds_marks _ _ _ _, _, rfl, am, R.cuts, m, rfl, hm, by have := G.two; omega, fun H1 l s1 nl hl => ?_⟩
        -- what the ends are, ahead of the return
        refine ⟨fun σ H' => ∃ (l : Addr) (es : List Int), σ = [some (.ref x), some (.str mv.str), some (.int (q : Nat)), some (.int m), some (.ref l), none, none] ∧ Same H H' ∧ H' l = some (.lst (es.map V.int)) ∧ (∀ e ∈ es, e ∈ tgs R.cuts m) ∧ es.length ≤ 10 ∧
          greatI (some 0 :: es.map (fresh R q)) = bfar R mv q (some m), ⟨_, rfl, rfl, _, rfl, ?_⟩, ?_⟩
        · rw [mv_next]
          refine ite2 (fun hn => ?_) (fun hn => ?_)
          · have e : mv = .next := by simpa using hn
            obtain ho1 := s1 _ _ ho
            refine ⟨_, rfl, x, C, dx, _, _, rfl, ho1, T.cl, T.nM, flds_marks _ _ _ _, am, rfl, ⟨_, SqT.of (s1 _ _ hm)⟩, fun D nD => ?_⟩
            refine lc_filter (i := 5) (fun c => decide (m < c)) (by show 5 < 7; decide) (s1 _ _ hm) nD (by have := G.two; omega) (fun z H' Q' _ s2 q' => ⟨_, rfl, _, rfl, _, _, rfl, rfl, _, rfl, q'⟩) fun H' s2 hD => ?_
            refine ⟨D, _, rfl, s1.trans s2, hD, fun c hc => ?_, ?_, ?_⟩
            · obtain ⟨h1, h2⟩ := List.mem_filter.mp hc
              exact gt_tgs h1 (by simpa using h2)
            · have h1 := List.length_filter_le (fun c => decide (m < c)) R.cuts
              have h2 := G.two
              omega
            · rw [e]; rfl
          · have e : mv ≠ .next := by simpa using hn
            have e2 : mv ≠ .out := by simpa using hmv
            refine ⟨l, tgs R.cuts m, rfl, s1, hl, fun _ h => h, ?_, ?_⟩
            · have h1 := List.length_filter_le (fun c => decide (m + 1 < c)) R.cuts
              have h2 := G.two
              unfold tgs
              rw [List.length_cons]
              omega
            · cases mv with
              | next => exact absurd rfl e
              | out => exact absurd rfl e2
              | take => rfl
              | wait => rfl
        · rintro σ H2 ⟨l2, es, rfl, s2, hl2, hes, hlen, hg⟩
          -- [0] + [self.held_fresh[after, end] for end in ends]
          refine ⟨by show 1 ≤ sizeLine; decide, fun z nz => ?_⟩
          have s3 : Same H2 (upd H2 z (.lst [.int 0])) := same_upd nz
          have hl3 := s3 _ _ hl2
          refine ⟨_, rfl, l2, rfl, ⟨_, SqL.of hl3⟩, fun D nD => ?_⟩
          have zD : z ≠ D := ne_of_none upd_same nD
          refine lc_list (K := K) (a := l2) (xs := es.map V.int) (fun i H' => Same (upd H2 z (.lst [.int 0])) H' ∧ ∃ os : List (Option Int), H' D = some (.lst (os.map oV)) ∧ os.length = i ∧ (Exits R → os = (es.take i).map (fresh R q)))
            ⟨same_upd nD, [], upd_same, rfl, fun _ => rfl⟩ (fun i H' _ ⟨s4, _⟩ => SqL.of (s4 _ _ hl3)) ?_ ?_
          · rintro i y H' hi ⟨s4, os, hD, hol, hos⟩
            rw [List.getElem?_map] at hi
            obtain ⟨e, he, rfl⟩ := Option.map_eq_some_iff.mp hi
            have s5 := (s2.trans s3).trans s4
            have hemem := hes e (List.mem_of_getElem? he)
            obtain ⟨o, hv, hvo⟩ := FR.get hq (hS m rfl e hemem)
            refine ⟨rfl, ?_⟩
            refine ⟨_, rfl, x, C, dx, _, _, rfl, s5 _ _ ho, T.cl, T.nF, flds_fresh _ _ _ _, _, rfl, _, rfl, by show 2 ≤ sizeLine; decide, fun t nt => ?_⟩
            refine ⟨df, oV o, rfl, ?_, _, by rw [upd_ne (ne_of_none hD nt)]; exact hD, ?_, ?_, os ++ [o], ?_, by rw [List.length_append, hol]; rfl, fun hE => ?_⟩
            · rw [← hv]
              exact DGet.t (k := kF q e) (by rw [upd_ne (ne_of_none (s5 _ _ hf) nt)]; exact s5 _ _ hf) upd_same
            · rw [List.length_map, hol]
              have : i < es.length := (List.getElem?_eq_some_iff.mp he).1
              exact small1000 (by omega)
            · intro b o' hb
              have hbD : b ≠ D := ne_of_none hb nD
              rw [upd_ne hbD, upd_ne (ne_of_none (s4 _ _ hb) nt)]
              exact s4 _ _ hb
            · rw [upd_same, List.map_append]; rfl
            · rw [hos hE, hvo (.inl hE), List.take_add_one, he]
              simp
          · rintro H' ⟨s4, os, hD, hol, hos⟩
            rw [List.length_map] at hol hos
            have s5 := (s2.trans s3).trans s4
            refine ⟨z, D, _, _, rfl, rfl, s4 _ _ upd_same, hD, ?_, fun r nr => ?_⟩
            · rw [List.length_map, hol]
              have : (1 : Nat) + 10 ≤ sizeLine := by decide
              show 1 + _ ≤ sizeLine
              omega
            · refine ⟨r, some 0 :: os, rfl, upd_same, by simp, ?_⟩
              refine k _ _ (s5.trans (same_upd nr)) fun c => ?_
              have hE : Exits R := c.elim id fun z => by cases z
              rw [hos hE, List.take_length]
              exact hg
end
end K37
set_option Elab.async false
set_option linter.all false
set_option maxRecDepth 100000
/-! far_value, at_value, late_value. -/
namespace K37
open PySem PySem.Spec PyProof.Rows L2
def nV (n : Nat) : V := .int (n : Int)
theorem inV_nat (p : Nat) : ∀ met : List Nat, inV (.int (p : Int)) (met.map nV) = decide (p ∈ met)
  | [] => rfl
  | q :: met => by
    have ih := inV_nat p met
    unfold inV at ih ⊢
    rw [List.map_cons, List.any_cons, ih]
    have e : eqV (nV q) (.int (p : Int)) = decide (p = q) := by
      show ((q : Int) == (p : Int)) = decide (p = q)
      by_cases h : p = q
      · subst h; simp
      · rw [decide_eq_false h]
        exact beq_eq_false_iff_ne.mpr fun z => h (by omega)
    rw [e]
    by_cases h : p = q <;> simp [h]
theorem nV_all (met : List Nat) : (met.map nV).all flatV = true := by
  rw [List.all_eq_true]
  intro v hv
  obtain ⟨o, _, rfl⟩ := List.mem_map.mp hv
  rfl
theorem plus_self {v : Option Int} {c : Int} (h0 : leI 1 v) (hc : 1 ≤ c) (h : v = plusI v c) : v = none :=
  leI_none (n := c) (by omega) h0 fun k hk => by
    rw [h]
    exact leI_plus.mpr (leI_mono (by omega) hk)
theorem plus_plus (v : Option Int) (a b : Int) : plusI (plusI v a) b = plusI v (a + b) := by
  cases v with
  | none => rfl
  | some m => simp only [plusI, Option.map_some, Option.some.injEq]; omega
theorem met_le {met : List Nat} {n : Nat} (hn : met.Nodup) (hl : ∀ q ∈ met, q < n) : met.length ≤ n := by
  have := nodup_le (U := List.range n) hn fun q hq => List.mem_range.mpr (hl q hq)
  rwa [List.length_range] at this
theorem nodup_snoc {met : List Nat} {p : Nat} (hn : met.Nodup) (h : p ∉ met) : (met ++ [p]).Nodup := by
  rw [List.nodup_append]
  exact ⟨hn, by simp, fun a ha b hb e => by rw [List.mem_singleton] at hb; subst hb; subst e; exact h ha⟩
/-! ### far_value -/
abbrev sFar : Stmt := inClass sRV 2
abbrev sAt : Stmt := inClass sRV 3
abbrev sLate : Stmt := inClass sRV 4
theorem scFar : FnScope ["self", "phase", "upper", "met", "move", "after"] ["self", "phase", "upper"] (defScope sFar) := ⟨rfl, rfl, rfl, by decide +kernel, rfl, by decide +kernel, by decide +kernel⟩
theorem scAt : FnScope ["self", "phase", "upper", "met", "found", "move", "after", "behind"] ["self", "phase", "upper"] (defScope sAt) := ⟨rfl, rfl, rfl, by decide +kernel, rfl, by decide +kernel, by decide +kernel⟩
theorem scLate : FnScope ["self", "phase", "upper", "key"] ["self", "phase", "upper"] (defScope sLate) := ⟨rfl, rfl, rfl, by decide +kernel, rfl, by decide +kernel, by decide +kernel⟩
def spFar (P : Program) (w : World) (C : Addr) : Sp := fun vs H Q _ => ∃ (R : Rule) (S : Int → Prop) (x am ap df dl : Addr) (p : Nat) (u : Option Int), vs = [.ref x, .int (p : Nat), oV u] ∧
  Good R ∧ RV P w C R S H x am ap df dl ∧ p < R.ph.length ∧ (∀ m, u = some m → ∀ e ∈ tgs R.cuts m, S e) ∧ ∀ H' v, Same H H' → (Exits R ∨ u = none → v = far R p u) → Q (oV v) H'
def spAt (P : Program) (w : World) (C : Addr) : Sp := fun vs H Q _ => ∃ (R : Rule) (S : Int → Prop) (x am ap df dl : Addr) (p : Nat) (m : Int), vs = [.ref x, .int (p : Nat), .int m] ∧
  Good R ∧ RV P w C R S H x am ap df dl ∧ p < R.ph.length ∧ m ∈ R.cuts ∧ S m ∧ (∀ e ∈ tgs R.cuts m, S e) ∧ ∀ H' v, Same H H' → (Exits R → v = att R p m) → Q (oV v) H'
def spLate (P : Program) (w : World) (C : Addr) : Sp := fun vs H Q _ => ∃ (R : Rule) (S : Int → Prop) (x am ap df dl : Addr) (p : Nat) (u : Option Int), vs = [.ref x, .int (p : Nat), oV u] ∧
  Good R ∧ RV P w C R S H x am ap df dl ∧ p < R.ph.length ∧ (∀ m, u = some m → m ∈ R.cuts ∧ S m ∧ ∀ e ∈ tgs R.cuts m, S e) ∧
  ∀ H' v, (∀ b o, H b = some o → b ≠ dl → H' b = some o) → RV P w C R S H' x am ap df dl → (Exits R ∨ u = none → v = late R p u) → Q (oV v) H'
section
variable {P : Program} {w : World} {K : PySem.W.Frag} {mg : Str → Option Value} {base : Heap} {f C : Addr} {fd : FuncData}
theorem ok_far (F : Fun K "far_value" "RoundValues.far_value" sFar f fd) (T : Cs K mg C) (cP : Cal P w K mg base 1 "plus" ["number", "more"] spPlus) (mB : Met P w K mg base C 2 "best_far" ["self", "move", "after", "upper"] (spBest P w C)) :
    FnOk P w K mg base CX0 3 f fd ["self", "phase", "upper"] (spFar P w C) := by
  obtain ⟨tf, hFar⟩ := T.far
  refine F.ok scFar (fun vs H Q E h => ?_) (fun cdv A outer s H vs Q E hr h => ?_)
  · obtain ⟨R, S, x, am, ap, df, dl, p, u, rfl, _⟩ := h
    rfl
  · obtain ⟨R, S, x, am, ap, df, dl, p, u, rfl, G, V0, hp, hS, k⟩ := h
    refine ⟨_, pss_cons (ps_set (i := 3) scFar.nd rfl (Or.inl rfl) (pe_lst pa_nil))
      (pss_cons (ps_while PassesOwn.never (pt_cmpR op_notIn_seq (pv 1) (pv 3) (by rfl))
        (pss_cons (ps_asg (pe_ix ix_tup (pe_ix ix_tup (pe_fld (pv 0) rfl) (pv 1) (fun _ _ => rfl)) (pe_glob (v := .int 2) rfl hFar ⟨_, rfl⟩) (fun _ _ => rfl))
            (pg_tup rfl (pgs_cons (pg_name (i := 4) scFar.nd rfl (.inl rfl)) (pgs_cons (pg_name (i := 5) scFar.nd rfl (.inl rfl)) pgs_nil))))
        (pss_cons (ps_if (pt_cmpR op_ne (pv 4) pe_str (nomark _)) (pss_one (ps_ret (pe_cal cP hr (pa_cons (pe_met mB T.cl (pv 0) hr (pa_cons (pv 4) (pa_cons (pv 5) (pa_cons (pv 2) pa_nil))))
            (pa_cons (pe_op op_add (pe_callB call_len_seq (by rfl) T.len PySem.boot_len (pa_cons (pv 3) pa_nil)) pe_int) pa_nil))))) pss_nil)
        (pss_cons (ps_expr (pe_bm PySem.F.plainAttrs_list PySem.F.slot_list_append PySem.F.type_list_append mt_append (pv 3) (pa_cons (pv 1) pa_nil)))
        (pss_one (ps_set (i := 1) scFar.nd rfl (Or.inl rfl) (pv 5)))))))
      (pss_one (ps_ret pe_non))), ?_⟩
    refine ⟨Nat.zero_le _, fun l nl => ?_⟩
    refine ⟨fun m σ H' => ∃ (met : List Nat) (ph : Nat) (a b : Option V), σ = [some (.ref x), some (.int (ph : Nat)), some (oV u), some (.ref l), a, b] ∧ m = R.ph.length - met.length ∧ Same H H' ∧ H' l = some (.lst (met.map nV)) ∧
      met.Nodup ∧ (∀ q ∈ met, q < R.ph.length) ∧ ph < R.ph.length ∧ far R p u = plusI (far R ph u) met.length ∧ ∀ q ∈ met, ∃ c : Int, 1 ≤ c ∧ far R q u = plusI (far R ph u) c,
      ⟨_, [], p, none, none, rfl, rfl, same_upd nl, upd_same, List.nodup_nil, by simp, hp, ?_, by simp⟩, ?_⟩
    · cases far R p u with
      | none => rfl
      | some z => simp [plusI]
    · rintro m σ H1 ⟨met, ph, a, b, rfl, rfl, s1, hl, hnd, hlt, hph, he, hring⟩
      refine ⟨_, rfl, _, rfl, l, met.map nV, rfl, .inl (SqL.of hl), rfl, nV_all met, _, rfl, ?_⟩
      show if (if true = true then !inV (.int (ph : Int)) (met.map nV) else _) = true then _ else _
      rw [if_pos rfl, inV_nat]
      have V1 := V0.same s1
      obtain ⟨⟨dx, ho⟩, hm, hpa, _, _⟩ := id V1
      by_cases hin : ph ∈ met
      · rw [if_neg (by simp [hin])]
        obtain ⟨c, hc, e⟩ := hring ph hin
        have hn := plus_self far_pos hc e
        rw [hn] at he
        refine k H1 none s1 fun _ => ?_
        rw [he]; rfl
      · rw [if_pos (by simp [hin])]
        obtain ⟨xs, b1, ys, d, h1, hx1, h3, h4, h5⟩ := hpa.get G hph (c := 2) (by decide)
        have hq : (R.pr ph 2).2 < R.ph.length := G.nxt ph 2 hph
        cases hmq : R.pr ph 2 with
        | mk mv q =>
          rw [hmq] at h5 hq
          refine ⟨fun σ' H' => ∃ (a b : Option V), σ' = [some (.ref x), some (.int (q : Nat)), some (oV u), some (.ref l), a, b] ∧ Same H H' ∧ H' l = some (.lst ((met ++ [ph]).map nV)) ∧ mv = .wait, ?_, ?_⟩
          · rintro σ' H' ⟨a', b', rfl, s2, hl2, rfl⟩
            have hle := met_le (nodup_snoc hnd hin) (n := R.ph.length) (fun z hz => by
              rcases List.mem_append.mp hz with hz | hz
              · exact hlt z hz
              · rw [List.mem_singleton] at hz; subst hz; exact hph)
            have hw := far_wait (u := u) hmq
            refine ⟨_, ?_, met ++ [ph], q, a', b', rfl, rfl, s2, hl2, nodup_snoc hnd hin, fun z hz => ?_, hq, ?_, fun z hz => ?_⟩
            · rw [List.length_append] at hle ⊢
              simp at hle ⊢
              omega
            · rcases List.mem_append.mp hz with hz | hz
              · exact hlt z hz
              · rw [List.mem_singleton] at hz; subst hz; exact hph
            · rw [he, hw, plus_plus, List.length_append]
              congr 1
              simp
              omega
            · rcases List.mem_append.mp hz with hz | hz
              · obtain ⟨c, hc, e⟩ := hring z hz
                exact ⟨1 + c, by omega, by rw [e, hw, plus_plus]⟩
              · rw [List.mem_singleton] at hz
                subst hz
                exact ⟨1, by omega, hw⟩
          · -- move, after = self.held_phases[phase][FAR]
            refine ⟨_, rfl, x, C, dx, _, _, rfl, ho, T.cl, T.nP, flds_phases _ _ _ _, _, rfl, ap, xs, (ph : Int), _, rfl, rfl, SqT.of h1, atI_nat hx1, b1, ys, 2, _, rfl, rfl, SqT.of h3, atI_nat (j := 2) h4, d, _, rfl, SqT.of h5, rfl, _, _, rfl, _, _, rfl, rfl, ?_⟩
            -- move != 'wait'
            refine ⟨_, rfl, rfl, _, rfl, ?_⟩
            rw [mv_wait]
            refine ite2 (fun hw' => ?_) (fun hw' => ?_)
            rotate_left
            · have hw : mv = .wait := by simpa using hw'
              -- met.append(phase); phase = after
              refine ⟨_, rfl, .inl ⟨rfl, _, SqL.of hl⟩, _, rfl, l, _, _, rfl, rfl, hl, ?_, _, rfl, _, _, rfl, ?_, ?_, hw⟩
              · rw [List.length_map]
                have := met_le hnd hlt
                have := G.n3
                exact small1000 (by omega)
              · intro b0 o0 e0
                rw [upd_ne (ne_of_none e0 nl)]
                exact s1 _ _ e0
              · rw [upd_same, List.map_append]; rfl
            · have hw : mv ≠ .wait := by simpa using hw'
              refine ⟨_, rfl, x, dx, _, rfl, ho, flds_no _ _ _ _ (by decide +kernel) (by decide +kernel) (by decide +kernel) (by decide +kernel), _, rfl, _, rfl, _, rfl, ?_⟩
              refine ⟨R, S, x, am, ap, df, dl, mv, q, u, rfl, G, V1, hq, hS, fun H2 bv s2 hb => ?_⟩
              refine ⟨_, rfl, l, _, rfl, .inl (SqL.of (s2 _ _ hl)), _, _, rfl, rfl, bv, _, rfl, ?_⟩
              refine k H2 _ (s1.trans s2) fun c => ?_
              rw [hb c, he, far_best G.asc hmq hw, plus_plus, List.length_map]
              congr 1
              omega
theorem ok_at (F : Fun K "at_value" "RoundValues.at_value" sAt f fd) (T : Cs K mg C) (cP : Cal P w K mg base 1 "plus" ["number", "more"] spPlus) (cG : Cal P w K mg base 1 "greatest_of" ["numbers"] spGreat)
    (mF : Met P w K mg base C 3 "far_value" ["self", "phase", "upper"] (spFar P w C)) : FnOk P w K mg base CX0 4 f fd ["self", "phase", "upper"] (spAt P w C) := by
  obtain ⟨tf, hAt⟩ := T.att
  refine F.ok scAt (fun vs H Q E h => ?_) (fun cdv A outer s H vs Q E hr h => ?_)
  · obtain ⟨R, S, x, am, ap, df, dl, p, m, rfl, _⟩ := h
    rfl
  · obtain ⟨R, S, x, am, ap, df, dl, p, m, rfl, G, V0, hp, hmc, hSm, hS, k⟩ := h
    have hu := hu_of hr
    refine ⟨_, pss_cons (ps_set (i := 3) scAt.nd rfl (Or.inl rfl) (pe_lst pa_nil))
      (pss_cons (ps_set (i := 4) scAt.nd rfl (Or.inl rfl) (pe_lst pa_nil))
      (pss_cons (ps_while PassesOwn.never (pt_cmpR op_notIn_seq (pv 1) (pv 3) (by rfl))
        (pss_cons (ps_expr (pe_bm PySem.F.plainAttrs_list PySem.F.slot_list_append PySem.F.type_list_append mt_append (pv 4) (pa_cons (pe_cal cP hr (pa_cons (pe_met mF T.cl (pv 0) hr (pa_cons (pv 1) (pa_cons (pv 2) pa_nil)))
          (pa_cons (pe_callB call_len_seq (by rfl) T.len PySem.boot_len (pa_cons (pv 3) pa_nil)) pa_nil))) pa_nil)))
        (pss_cons (ps_asg (pe_ix ix_tup (pe_ix ix_tup (pe_fld (pv 0) rfl) (pv 1) (fun _ _ => rfl)) (pe_glob (v := .int 1) rfl hAt ⟨_, rfl⟩) (fun _ _ => rfl))
            (pg_tup rfl (pgs_cons (pg_name (i := 5) scAt.nd rfl (.inl rfl)) (pgs_cons (pg_name (i := 6) scAt.nd rfl (.inl rfl)) pgs_nil))))
        (pss_cons (ps_if (pt_cmpR op_ne (pv 5) pe_str (nomark _))
          (pss_cons (ps_set (i := 7) scAt.nd rfl (Or.inl rfl) (pe_ifExp (pt_cmpR op_eq (pv 5) pe_str (nomark _)) pe_int (pe_dget hu (pe_fld (pv 0) rfl) (pe_tup (pa_cons (pv 6) (pa_cons (pv 2) pa_nil))) (fun _ _ => rfl))))
          (pss_cons (ps_expr (pe_bm PySem.F.plainAttrs_list PySem.F.slot_list_append PySem.F.type_list_append mt_append (pv 4) (pa_cons (pe_cal cP hr (pa_cons (pv 7)
            (pa_cons (pe_op op_add (pe_callB call_len_seq (by rfl) T.len PySem.boot_len (pa_cons (pv 3) pa_nil)) pe_int) pa_nil))) pa_nil)))
          (pss_one (ps_ret (pe_cal cG hr (pa_cons (pv 4) pa_nil)))))) pss_nil)
        (pss_cons (ps_expr (pe_bm PySem.F.plainAttrs_list PySem.F.slot_list_append PySem.F.type_list_append mt_append (pv 3) (pa_cons (pv 1) pa_nil)))
        (pss_one (ps_set (i := 1) scAt.nd rfl (Or.inl rfl) (pv 6))))))))
      (pss_one (ps_ret pe_non)))), ?_⟩
    refine ⟨Nat.zero_le _, fun l nl => ?_⟩
    refine ⟨Nat.zero_le _, fun g ng => ?_⟩
    have lg : l ≠ g := ne_of_none upd_same ng
    have ng0 : H g = none := by rw [upd_ne lg.symm] at ng; exact ng
    refine ⟨fun mm σ H' => ∃ (met : List Nat) (found : List (Option Int)) (ph : Nat) (a b c : Option V), σ = [some (.ref x), some (.int (ph : Nat)), some (.int m), some (.ref l), some (.ref g), a, b, c] ∧ mm = R.ph.length - met.length ∧ Same H H' ∧
      H' l = some (.lst (met.map nV)) ∧ H' g = some (.lst (found.map oV)) ∧ found.length = met.length ∧ met.Nodup ∧ (∀ q ∈ met, q < R.ph.length) ∧ ph < R.ph.length ∧ (Exits R → Cov (att R p m) (found ++ [plusI (att R ph m) met.length])) ∧
      ∀ q ∈ met, ∃ c : Int, 1 ≤ c ∧ ∀ k, leI k (att R ph m) → leI (k + c) (att R q m),
      ⟨_, [], [], p, none, none, none, rfl, rfl, ?_, ?_, upd_same, rfl, List.nodup_nil, by simp, hp, fun _ => ?_, by simp⟩, ?_⟩
    · intro b o e
      rw [upd_ne (ne_of_none e ng0), upd_ne (ne_of_none e nl)]
      exact e
    · rw [upd_ne lg, upd_same]; rfl
    · refine cov_app.mpr fun k => ?_
      rw [leI_plus]
      simp
    · rintro mm σ H1 ⟨met, found, ph, a, b, c, rfl, rfl, s1, hl, hg, hfl, hnd, hlt, hph, hcov, hring⟩
      refine ⟨_, rfl, _, rfl, l, met.map nV, rfl, .inl (SqL.of hl), rfl, nV_all met, _, rfl, ?_⟩
      show if (if true = true then !inV (.int (ph : Int)) (met.map nV) else _) = true then _ else _
      rw [if_pos rfl, inV_nat]
      have V1 := V0.same s1
      have hmet := met_le hnd hlt
      have hn3 := G.n3
      by_cases hin : ph ∈ met
      · rw [if_neg (by simp [hin])]
        obtain ⟨c, hc, e⟩ := hring ph hin
        have hn : att R ph m = none := leI_none (n := c) (by omega) att_pos e
        refine k H1 none s1 fun hE => ?_
        refine leI_ext fun z => ?_
        rw [cov_app.mp (hcov hE) z, hn]
        exact ⟨fun _ => .inr trivial, fun _ => trivial⟩
      · rw [if_pos (by simp [hin])]
        have hq : (R.pr ph 1).2 < R.ph.length := G.nxt ph 1 hph
        cases hmq : R.pr ph 1 with
        | mk mv q =>
          rw [hmq] at hq
          refine ⟨fun σ' H' => ∃ (v : Option Int) (a b c : Option V), σ' = [some (.ref x), some (.int (q : Nat)), some (.int m), some (.ref l), some (.ref g), a, b, c] ∧ Same H H' ∧ H' l = some (.lst ((met ++ [ph]).map nV)) ∧
            H' g = some (.lst ((found ++ [plusI v met.length]).map oV)) ∧ (Exits R → v = far R ph (some m)) ∧ mv = .wait, ?_, ?_⟩
          · rintro σ' H' ⟨v, a', b', c', rfl, s2, hl2, hg2, hv, rfl⟩
            have hle := met_le (nodup_snoc hnd hin) (n := R.ph.length) (fun z hz => by
              rcases List.mem_append.mp hz with hz | hz
              · exact hlt z hz
              · rw [List.mem_singleton] at hz; subst hz; exact hph)
            have hw := att_wait (m := m) hmq
            refine ⟨_, ?_, met ++ [ph], found ++ [plusI v met.length], q, a', b', c', rfl, rfl, s2, hl2, hg2, by simp [hfl], nodup_snoc hnd hin, fun z hz => ?_, hq, fun hE => ?_, fun z hz => ?_⟩
            · rw [List.length_append] at hle ⊢
              simp at hle ⊢
              omega
            · rcases List.mem_append.mp hz with hz | hz
              · exact hlt z hz
              · rw [List.mem_singleton] at hz; subst hz; exact hph
            · refine cov_app.mpr fun z => ?_
              rw [cov_app.mp (hcov hE) z, hw, leI_plus, leI_max, leI_plus, leI_plus, hv hE]
              simp only [List.mem_append, List.mem_singleton, or_and_right, exists_or, exists_eq_left, leI_plus]
              have e : z - (((met ++ [ph]).length : Nat) : Int) = z - (met.length : Int) - 1 := by simp; omega
              rw [e, or_assoc]
            · have h1 : ∀ z, leI z (att R q m) → leI (z + 1) (att R ph m) := fun z hz => by
                rw [hw, leI_max, leI_plus]
                exact .inr (leI_mono (by omega) hz)
              rcases List.mem_append.mp hz with hz | hz
              · obtain ⟨c, hc, e⟩ := hring z hz
                exact ⟨1 + c, by omega, fun y hy => leI_mono (by omega) (e _ (h1 y hy))⟩
              · rw [List.mem_singleton] at hz
                subst hz
                exact ⟨1, by omega, h1⟩
          · obtain ⟨⟨dx, ho⟩, _⟩ := id V1
            -- found.append(plus(self.far_value(phase, upper), len(met)))
            refine ⟨_, rfl, .inl ⟨rfl, _, SqL.of hg⟩, ?_⟩
            refine ⟨_, rfl, x, dx, _, rfl, ho, flds_no _ _ _ _ (by decide +kernel) (by decide +kernel) (by decide +kernel) (by decide +kernel), _, rfl, _, rfl, ?_⟩
            refine ⟨R, S, x, am, ap, df, dl, ph, some m, rfl, G, V1, hph, fun m' hm' => by cases hm'; exact hS, fun H2 v s2 hv => ?_⟩
            have s12 := s1.trans s2
            refine ⟨_, rfl, l, _, rfl, .inl (SqL.of (s2 _ _ hl)), v, _, rfl, ?_⟩
            have hg2 := s2 _ _ hg
            refine ⟨g, _, _, rfl, rfl, hg2, ?_, ?_⟩
            · rw [List.length_map, hfl]
              exact small1000 (by omega)
            have hl3 : ∀ o, (upd H2 g o) l = some (.lst (met.map nV)) := fun o => by rw [upd_ne lg]; exact s2 _ _ hl
            have s3 : ∀ o, Same H (upd H2 g o) := fun o b0 o0 e0 => by
              rw [upd_ne (ne_of_none e0 ng0)]
              exact s12 _ _ e0
            have V3 := V0.same (s3 (.lst (List.map oV found ++ [oV (plusI v ((met.map nV).length : Nat))])))
            obtain ⟨⟨dx3, ho3⟩, _, hpa, ⟨kvs, hf, FR⟩, _⟩ := id V3
            obtain ⟨xs, b1, ys, d, h1, hx1, h3, h4, h5⟩ := hpa.get G hph (c := 1) (by decide)
            rw [hmq] at h5
            -- move, after = self.held_phases[phase][AT]
            refine ⟨_, rfl, x, C, dx3, _, _, rfl, ho3, T.cl, T.nP, flds_phases _ _ _ _, _, rfl, ap, xs, (ph : Int), _, rfl, rfl, SqT.of h1, atI_nat hx1, b1, ys, 1, _, rfl, rfl, SqT.of h3, atI_nat (j := 1) h4, d, _, rfl, SqT.of h5, rfl, _, _, rfl, _, _, rfl, rfl, ?_⟩
            -- move != 'wait'
            refine ⟨_, rfl, rfl, _, rfl, ?_⟩
            rw [mv_wait]
            refine ite2 (fun hw' => ?_) (fun hw' => ?_)
            rotate_left
            · have hw : mv = .wait := by simpa using hw'
              refine ⟨_, rfl, .inl ⟨rfl, _, SqL.of (hl3 _)⟩, _, rfl, l, _, _, rfl, rfl, hl3 _, ?_, _, rfl, v, _, _, _, rfl, ?_, ?_, ?_, fun hE => hv (.inl hE), hw⟩
              · rw [List.length_map]
                exact small1000 (by omega)
              · intro b0 o0 e0
                rw [upd_ne (ne_of_none e0 nl)]
                exact s3 _ _ _ e0
              · rw [upd_same, List.map_append]; rfl
              · rw [upd_ne lg.symm, upd_same, List.length_map, List.map_append]; rfl
            · have hw : mv ≠ .wait := by simpa using hw'
              -- behind: 0, or the value held at the mark
              have rest : ∀ (H4 : Hp) (bh : Option Int), Same (upd H2 g (.lst (List.map oV found ++ [oV (plusI v ((met.map nV).length : Nat))]))) H4 → (Exits R → att R ph m = maxI (far R ph (some m)) (plusI bh 1)) →
                  tSeq (tDrop (tBM K "list" rAppend (tVar 4) (tCons (tCall spPlus [] E0 (tCons (tVar 7) (tCons (tOp (rI0 fun i j => .int (i + j)) (tCB (fun xs H Q => ∃ p ys, xs = [.ref p] ∧ (SqL K H p ys ∨ SqT K H p ys) ∧ Q (.int (ys.length : Nat)) H) (tCons (tVar 3) tNil)) (tC (.int 1))) tNil))) tNil)))
                    (tRet (tCall spGreat [] E0 (tCons (tVar 4) tNil))) { nx := fun _ _ => False, rt := Q } [some (.ref x), some (.int (ph : Nat)), some (.int m), some (.ref l), some (.ref g), some (.str mv.str), some (.int (q : Nat)), some (oV bh)] H4 := by
                intro H4 bh s4 hbh
                have hg4 := s4 _ _ upd_same
                have hl4 := s4 _ _ (hl3 _)
                refine ⟨_, rfl, .inl ⟨rfl, _, SqL.of hg4⟩, _, rfl, _, rfl, l, _, rfl, .inl (SqL.of hl4), _, _, rfl, rfl, bh, _, rfl, ?_⟩
                refine ⟨g, _, _, rfl, rfl, hg4, ?_, ?_⟩
                · rw [List.length_append, List.length_map, hfl]
                  show met.length + 1 < sizeLine
                  exact small1000 (by omega)
                refine ⟨_, rfl, g, found ++ [plusI v met.length] ++ [plusI bh (met.length + 1)], rfl, ?_, by simp, ?_⟩
                · rw [upd_same, List.map_append, List.map_append, List.length_map]; rfl
                · refine k _ _ (fun b0 o0 e0 => ?_) fun hE => ?_
                  · rw [upd_ne (ne_of_none e0 ng0)]
                    exact s4 _ _ (s3 _ _ _ e0)
                  · refine Cov.great ?_ (by simp)
                    refine cov_app.mpr fun z => ?_
                    rw [cov_app.mp (hcov hE) z, hbh hE, leI_plus, leI_max, leI_plus, leI_plus, hv (.inl hE)]
                    simp only [List.mem_append, List.mem_singleton, or_and_right, exists_or, exists_eq_left, leI_plus]
                    have e : z - (met.length : Int) - 1 = z - ((met.length : Int) + 1) := by omega
                    rw [e, or_assoc]
              refine ⟨_, rfl, rfl, _, rfl, ?_⟩
              rw [mv_out]
              refine ite2 (fun ho' => ?_) (fun ho' => ?_)
              · have e : mv = .out := by simpa using ho'
                exact rest _ (some 0) (Same.refl _) fun _ => by rw [e] at hmq; exact att_out hmq
              · have e : mv ≠ .out := by simpa using ho'
                obtain ⟨o, hvv, hvo⟩ := FR.get hq hSm
                refine ⟨_, rfl, x, C, dx3, _, _, rfl, ho3, T.cl, T.nF, flds_fresh _ _ _ _, _, rfl, _, rfl, by show 2 ≤ sizeLine; decide, fun t nt => ?_⟩
                refine ⟨df, oV o, rfl, ?_, ?_⟩
                · rw [← hvv]
                  exact DGet.t (k := kF q m) (by rw [upd_ne (ne_of_none hf nt)]; exact hf) upd_same
                · exact rest _ o (same_upd nt) fun hE => by rw [att_go G.asc hmc hmq hw e, hvo (.inl hE)]
theorem ok_late (F : Fun K "late_value" "RoundValues.late_value" sLate f fd) (T : Cs K mg C) (mF : Met P w K mg base C 3 "far_value" ["self", "phase", "upper"] (spFar P w C)) (mA : Met P w K mg base C 4 "at_value" ["self", "phase", "upper"] (spAt P w C)) :
    FnOk P w K mg base CX0 5 f fd ["self", "phase", "upper"] (spLate P w C) := by
  refine F.ok scLate (fun vs H Q E h => ?_) (fun cdv A outer s H vs Q E hr h => ?_)
  · obtain ⟨R, S, x, am, ap, df, dl, p, u, rfl, _⟩ := h
    rfl
  · obtain ⟨R, S, x, am, ap, df, dl, p, u, rfl, G, V0, hp, hS, k⟩ := h
    have hu := hu_of hr
    refine ⟨_, pss_cons (ps_set (i := 3) scLate.nd rfl (Or.inl rfl) (pe_tup (pa_cons (pv 1) (pa_cons (pv 2) pa_nil))))
      (C8.pss_cut (ps_if (pt_cmp (pc_lnotin hu (pv 3) (pe_fld (pv 0) rfl))) (pss_one (ps_lput hu (pe_fld (pv 0) rfl) (pv 3) (pe_ifExp (pt_cmpR op_isN (pv 2) pe_non (nomark _))
          (pe_met mF T.cl (pv 0) hr (pa_cons (pv 1) (pa_cons (pv 2) pa_nil))) (pe_met mA T.cl (pv 0) hr (pa_cons (pv 1) (pa_cons (pv 2) pa_nil)))) rfl)) pss_nil)
      (pss_one (ps_ret (pe_lget hu (pe_fld (pv 0) rfl) (pv 3) (fun _ _ => rfl))))), ?_⟩
    refine ⟨_, rfl, _, rfl, by show 2 ≤ sizeLine; decide, fun t nt => ?_⟩
    have s0 : Same H (upd H t (.tup [.int (p : Nat), oV u])) := same_upd nt
    have V1 := V0.same s0
    obtain ⟨⟨dx, ho⟩, _, _, _, ⟨kvs, hd, L⟩⟩ := id V1
    have hkey : ((kL p u).map lV) = [.int (p : Nat), oV u] := by
      show [V.int (p : Int), lV (oL u)] = _
      rw [lV_oL]
    -- behind the if: the key is there
    refine ⟨fun σ H' => σ = [some (.ref x), some (.int (p : Nat)), some (oV u), some (.ref t)] ∧ (∀ b o, H b = some o → b ≠ dl → H' b = some o) ∧ RV P w C R S H' x am ap df dl ∧ H' t = some (.tup [.int (p : Nat), oV u]) ∧
      ∃ kvs v, DL P w H' dl kvs ∧ valV kvs (kL p u) = some (oV v) ∧ (Exits R ∨ u = none → v = late R p u), ?_, ?_⟩
    · refine ⟨_, rfl, _, rfl, x, C, dx, _, _, rfl, ho, T.cl, T.nL, flds_late _ _ _ _, dl, t, kvs, kL p u, rfl, hd, rfl, by rw [hkey]; exact upd_same, _, rfl, ?_⟩
      cases hv : valV kvs (kL p u) with
      | some v =>
        refine iteF ?_
        obtain ⟨q, u', o, hk, rfl, ho'⟩ := L.val _ _ hv
        obtain ⟨rfl, rfl⟩ := kL_inj hk
        exact ⟨rfl, fun b o' e _ => s0 _ _ e, V1, upd_same, kvs, o, hd, hv, ho'⟩
      | none =>
        refine iteT ?_
        -- the store, whatever the value is
        have rest : ∀ (H2 : Hp) (v : Option Int), Same (upd H t (.tup [.int (p : Nat), oV u])) H2 → (Exits R ∨ u = none → v = late R p u) →
            tFld K (tVar 0) "held_late" [some (.ref x), some (.int (p : Nat)), some (oV u), some (.ref t)] H2 fun x' H3 => tVar 3 [some (.ref x), some (.int (p : Nat)), some (oV u), some (.ref t)] H3 fun y H4 => ∃ a b kvs k, x' = .ref a ∧ DL P w H4 a kvs ∧ y = .ref b ∧ H4 b = some (.tup (k.map lV)) ∧ kvs.length < sizeLine ∧
              ∀ φ, DL P w (upd H4 a (.ext φ)) a (putK kvs k (oV v)) → [some (.ref x), some (.int (p : Nat)), some (oV u), some (.ref t)] = [some (.ref x), some (.int (p : Nat)), some (oV u), some (.ref t)] ∧ (∀ b o, H b = some o → b ≠ dl → (upd H4 a (.ext φ)) b = some o) ∧ RV P w C R S (upd H4 a (.ext φ)) x am ap df dl ∧ (upd H4 a (.ext φ)) t = some (.tup [.int (p : Nat), oV u]) ∧
                ∃ kvs v, DL P w (upd H4 a (.ext φ)) dl kvs ∧ valV kvs (kL p u) = some (oV v) ∧ (Exits R ∨ u = none → v = late R p u) := by
          intro H2 v s2 hval
          have V2 := V1.same s2
          obtain ⟨⟨dx2, ho2⟩, hm2, hp2, ⟨fk, hf2, FR⟩, _⟩ := id V2
          have hd2 := hd.same s2
          have ht2 := s2 _ _ upd_same
          obtain ⟨_, _, hraw, _⟩ := id hd2
          refine ⟨_, rfl, x, C, dx2, _, _, rfl, ho2, T.cl, T.nL, flds_late _ _ _ _, _, rfl, dl, t, kvs, kL p u, rfl, hd2, rfl, by rw [hkey]; exact ht2, ?_, fun φ d4 => ?_⟩
          · have := L.few G
            exact small1000 (by omega)
          · have ne : ∀ {b : Addr} {o : HO}, H2 b = some o → (∀ ψ, o ≠ .ext ψ) → b ≠ dl := fun hb hn e => by
              rw [e, hraw] at hb
              exact hn _ (Option.some.inj hb).symm
            have keep : ∀ {b : Addr} {o : HO}, H2 b = some o → (∀ ψ, o ≠ .ext ψ) → (upd H2 dl (.ext φ)) b = some o := fun hb hn => by
              rw [upd_ne (ne hb hn)]
              exact hb
            have tk : Tups H2 (upd H2 dl (.ext φ)) := fun b xs hb => keep hb (fun _ z => nomatch z)
            refine ⟨rfl, fun b o e hb => ?_, ⟨⟨dx2, keep ho2 (fun _ z => nomatch z)⟩, keep hm2 (fun _ z => nomatch z), hp2.tups tk, ⟨fk, keep hf2 (fun _ z => nomatch z), FR⟩, ⟨_, d4, ?_⟩⟩, keep ht2 (fun _ z => nomatch z), _, v, d4, by rw [valV_put, if_pos rfl], hval⟩
            · rw [upd_ne hb]
              exact s2 _ _ (s0 _ _ e)
            · refine ⟨fun k' v' hv' => ?_, nd_putK _ L.nd hv, fun k' hk' => ?_⟩
              · rw [valV_put] at hv'
                by_cases e : k' = kL p u
                · rw [if_pos e] at hv'
                  cases hv'
                  exact ⟨p, u, v, e, rfl, hval⟩
                · rw [if_neg e] at hv'
                  exact L.val _ _ hv'
              · rw [putK_new _ hv, List.map_append] at hk'
                rcases List.mem_append.mp hk' with hk' | hk'
                · exact L.key _ hk'
                · have e : k' = kL p u := by simpa using hk'
                  refine ⟨p, u, hp, ?_, e⟩
                  cases u with
                  | none => exact .inl rfl
                  | some m => exact .inr ⟨m, (hS m rfl).1, rfl⟩
        refine ⟨_, rfl, rfl, _, rfl, ?_⟩
        cases u with
        | none =>
          refine iteT ?_
          refine ⟨_, rfl, x, dx, _, rfl, ho, flds_no _ _ _ _ (by decide +kernel) (by decide +kernel) (by decide +kernel) (by decide +kernel), _, rfl, _, rfl, ?_⟩
          refine ⟨R, S, x, am, ap, df, dl, p, none, rfl, G, V1, hp, (fun m hm => nomatch hm), fun H2 v s2 hval => ?_⟩
          exact rest H2 v s2 hval
        | some m =>
          refine iteF ?_
          obtain ⟨hmc, hSm, hSt⟩ := hS m rfl
          refine ⟨_, rfl, x, dx, _, rfl, ho, flds_no _ _ _ _ (by decide +kernel) (by decide +kernel) (by decide +kernel) (by decide +kernel), _, rfl, _, rfl, ?_⟩
          refine ⟨R, S, x, am, ap, df, dl, p, m, rfl, G, V1, hp, hmc, hSm, hSt, fun H2 v s2 hval => ?_⟩
          exact rest H2 v s2 fun c => hval (c.elim id fun z => by cases z)
    · rintro σ H' ⟨rfl, hsame, V2, ht, kvs2, v, d2, hv, hval⟩
      obtain ⟨⟨dx2, ho2⟩, _⟩ := id V2
      exact ⟨_, rfl, x, C, dx2, _, _, rfl, ho2, T.cl, T.nL, flds_late _ _ _ _, _, rfl, dl, t, kvs2, kL p u, oV v, rfl, d2, rfl, by rw [hkey]; exact ht, hv, k H' v hsame V2 hval⟩
end
end K37
set_option Elab.async false
set_option linter.all false
set_option maxRecDepth 100000
/-! fresh_value. -/
namespace K37
open PySem PySem.Spec PyProof.Rows L2
/-- all but the object at d stays -/
def Kp (d : Addr) (H H' : Hp) : Prop := ∀ b o, H b = some o → b ≠ d → H' b = some o
theorem Kp.refl (d : Addr) (H : Hp) : Kp d H H := fun _ _ h _ => h
theorem Kp.trans {d : Addr} {H H1 H2 : Hp} (a : Kp d H H1) (b : Kp d H1 H2) : Kp d H H2 := fun c o h e => b c o (a c o h e) e
theorem sameKp {H H' : Hp} (s : Same H H') (d : Addr) : Kp d H H' := fun b o h _ => s b o h
/-- a store to a thing that is new since H -/
theorem Kp.upd {d p : Addr} {H H' : Hp} {o : HO} (a : Kp d H H') (hp : H p = none) : Kp d H (upd H' p o) := fun b u h e => by
  rw [upd_ne (ne_of_none h hp)]
  exact a b u h e
theorem jump_room {r tn w t : Int} (hw : 0 < w) (ht : t = max 0 ((r - tn) / w - 1)) (h : tn < r) : tn + t * w < r ∧ 0 ≤ t := by
  refine ⟨?_, by omega⟩
  by_cases h1 : 1 ≤ t
  · have h2 : (r - tn) / w = t + 1 := by omega
    have h3 := Int.ediv_mul_le (r - tn) (show w ≠ 0 by omega)
    rw [h2, Int.add_mul, Int.one_mul] at h3
    omega
  · have : t = 0 := by omega
    subst this
    omega
/-- the measure of fresh_value's loop -/
def mu (u : Option Int) (e0 : Int) (n L : Nat) (ts : Int) : Nat :=
  (match u with
    | none => 0
    | some m => (m - 1 - e0 - ts).toNat) * (n + 2) + (n + 1 - L)
theorem mu_step {u : Option Int} {e0 : Int} {n L : Nat} {ts : Int} (h : L < n + 1) : mu u e0 n (L + 1) ts < mu u e0 n L ts := by
  unfold mu
  omega
theorem mu_jump {m e0 : Int} {n L : Nat} {ts ts' : Int} (hL : L ≤ n) (h1 : ts + 1 ≤ ts') (h2 : ts + 1 ≤ m - 1 - e0) : mu (some m) e0 n 1 ts' < mu (some m) e0 n L ts := by
  unfold mu
  have h3 : (m - 1 - e0 - ts').toNat + 1 ≤ (m - 1 - e0 - ts).toNat := by omega
  have h4 : ((m - 1 - e0 - ts').toNat + 1) * (n + 2) ≤ (m - 1 - e0 - ts).toNat * (n + 2) := Nat.mul_le_mul_right _ h3
  rw [Nat.succ_mul] at h4
  show (m - 1 - e0 - ts').toNat * (n + 2) + (n + 1 - 1) < (m - 1 - e0 - ts).toNat * (n + 2) + (n + 1 - L)
  omega
theorem FI.L_le {R : Rule} {n p0 : Nat} {e0 : Int} {u : Option Int} {found : List (Option Int)} {ps L : Nat} {ms ts : Int} (F : FI R n p0 e0 u found ps L ms ts) : L ≤ n := by
  have := met_le (met := (List.range L).map (ch R ps)) (n := n) (by
    rw [List.nodup_iff_pairwise_ne, List.pairwise_map]
    refine List.Pairwise.imp_of_mem ?_ (List.nodup_iff_pairwise_ne.mp List.nodup_range)
    intro a b ha hb hne e
    exact hne (F.nd a b (List.mem_range.mp ha) (List.mem_range.mp hb) e)) (fun q hq => by
    obtain ⟨i, hi, rfl⟩ := List.mem_map.mp hq
    exact F.lt i (Nat.le_of_lt (List.mem_range.mp hi)))
  rwa [List.length_map, List.length_range] at this
theorem FI.L_lt {R : Rule} {n p0 : Nat} {e0 : Int} {u : Option Int} {found : List (Option Int)} {ps L : Nat} {ms ts : Int} (F : FI R n p0 e0 u found ps L ms ts) (h : ∀ i, i < L → ch R ps i ≠ ch R ps L) : L < n := by
  have := met_le (met := (List.range (L + 1)).map (ch R ps)) (n := n) (by
    rw [List.nodup_iff_pairwise_ne, List.pairwise_map]
    refine List.Pairwise.imp_of_mem ?_ (List.nodup_iff_pairwise_ne.mp List.nodup_range)
    intro a b ha hb hne e
    have ha := List.mem_range.mp ha
    have hb := List.mem_range.mp hb
    by_cases h1 : a = L
    · subst h1
      exact h b (by omega) e.symm
    · by_cases h2 : b = L
      · subst h2
        exact h a (by omega) e
      · exact hne (F.nd a b (by omega) (by omega) e)) (fun q hq => by
    obtain ⟨i, hi, rfl⟩ := List.mem_map.mp hq
    have := List.mem_range.mp hi
    exact F.lt i (by omega))
  rw [List.length_map, List.length_range] at this
  omega
/-- the dict of the phases met -/
structure MetAt (H : Hp) (dm : Addr) (R : Rule) (ps L : Nat) (ms ts : Int) : Prop where
  ex : ∃ kvs : List (Key × V), H dm = some (.dK kvs) ∧ kvs.length ≤ L ∧ (∀ i, i < L → ∃ t, valV kvs (.inl (ch R ps i : Int)) = some (.ref t) ∧ H t = some (.tup [.int (ms + i), .int (ts + tks R ps i)])) ∧
    ∀ z : Nat, (∀ i, i < L → ch R ps i ≠ z) → valV kvs (.inl (z : Int)) = none
theorem MetAt.keep {H H' : Hp} {dm : Addr} {R : Rule} {ps L : Nat} {ms ts : Int} (M : MetAt H dm R ps L ms ts) (h1 : ∀ o, H dm = some o → H' dm = some o) (h2 : Tups H H') : MetAt H' dm R ps L ms ts := by
  obtain ⟨kvs, e, hl, ha, hb⟩ := M.ex
  exact ⟨kvs, h1 _ e, hl, fun i hi => let ⟨t, q1, q2⟩ := ha i hi; ⟨t, q1, h2 _ _ q2⟩, hb⟩
theorem MetAt.put {H : Hp} {dm t : Addr} {R : Rule} {ps L : Nat} {ms ts : Int} {kvs : List (Key × V)} (e : H dm = some (.dK kvs)) (hl : kvs.length ≤ L) (ha : ∀ i, i < L → ∃ t, valV kvs (.inl (ch R ps i : Int)) = some (.ref t) ∧ H t = some (.tup [.int (ms + i), .int (ts + tks R ps i)]))
    (hb : ∀ z : Nat, (∀ i, i < L → ch R ps i ≠ z) → valV kvs (.inl (z : Int)) = none) (hnew : ∀ i, i < L → ch R ps i ≠ ch R ps L) (ht : H t = some (.tup [.int (ms + L), .int (ts + tks R ps L)])) :
    MetAt (upd H dm (.dK (putK kvs (.inl (ch R ps L : Int)) (.ref t)))) dm R ps (L + 1) ms ts := by
  have nt : ∀ {c : Addr} {xs : List V}, H c = some (.tup xs) → c ≠ dm := fun hc z => by rw [z, e] at hc; cases hc
  have inj : ∀ {a b : Nat}, (Sum.inl (a : Int) : Key) = .inl (b : Int) → a = b := fun h => by injection h with h; omega
  refine ⟨_, upd_same, Nat.le_trans (length_putK _ _ _) (by omega), fun i hi => ?_, fun z hz => ?_⟩
  · by_cases h : i = L
    · subst h
      exact ⟨t, by rw [valV_put, if_pos rfl], by rw [upd_ne (nt ht)]; exact ht⟩
    · obtain ⟨c, q1, q2⟩ := ha i (by omega)
      exact ⟨c, by rw [valV_put, if_neg fun z => hnew i (by omega) (inj z)]; exact q1, by rw [upd_ne (nt q2)]; exact q2⟩
  · rw [valV_put, if_neg fun h => hz L (by omega) (inj h).symm]
    exact hb z fun i hi => hz i (by omega)
abbrev sFresh : Stmt := inClass sRV 5
abbrev nFresh : List Str := ["self", "phase", "end", "upper", "room", "found", "met", "many", "taken", "length", "used", "turns", "move", "after", "behind"]
theorem scFresh : FnScope nFresh ["self", "phase", "end"] (defScope sFresh) := ⟨rfl, rfl, rfl, by decide +kernel, rfl, by decide +kernel, by decide +kernel⟩
def spFresh (P : Program) (w : World) (C : Addr) : Sp := fun vs H Q _ => ∃ (R : Rule) (S : Int → Prop) (x am ap df dl : Addr) (p : Nat) (e : Int), vs = [.ref x, .int (p : Nat), .int e] ∧
  Good R ∧ RV P w C R S H x am ap df dl ∧ p < R.ph.length ∧ -1000 ≤ e ∧ (∀ m ∈ R.cuts, m ≤ 1000) ∧ (∀ m, up R.cuts e = some m → S m ∧ ∀ e' ∈ tgs R.cuts m, S e') ∧
  ∀ H' v, Kp dl H H' → RV P w C R S H' x am ap df dl → (Exits R ∨ up R.cuts e = none → v = fresh R p e) → Q (oV v) H'
/-- what a store to a list or a dict with plain keys leaves -/
theorem RV.other {P : Program} {w : World} {C : Addr} {R : Rule} {S : Int → Prop} {H H' : Hp} {x am ap df dl : Addr} (r : RV P w C R S H x am ap df dl) (h : ∀ b o, H b = some o → (∀ xs, o ≠ .lst xs) → (∀ k, o ≠ .dK k) → H' b = some o) : RV P w C R S H' x am ap df dl := by
  obtain ⟨⟨dx, h1⟩, h2, h3, ⟨k1, h4, h5⟩, ⟨k2, h6, h7⟩⟩ := r
  have t : Tups H H' := fun b xs hb => h _ _ hb (fun _ z => by cases z) (fun _ z => by cases z)
  refine ⟨⟨dx, h _ _ h1 (fun _ z => by cases z) (fun _ z => by cases z)⟩, t _ _ h2, h3.tups t, ⟨k1, h _ _ h4 (fun _ z => by cases z) (fun _ z => by cases z), h5⟩, ⟨k2, h6.stay (fun o ho => ?_) t, h7⟩⟩
  obtain ⟨xs, _, hx, _⟩ := id h6
  rw [hx] at ho
  cases ho
  exact h _ _ hx (fun _ z => by cases z) (fun _ z => by cases z)
/-- the things that fresh_value works on, behind H -/
structure FrSt (P : Program) (w : World) (C : Addr) (R : Rule) (S : Int → Prop) (H : Hp) (x am ap df dl g dm : Addr) (H' : Hp) (found : List (Option Int)) (ps L : Nat) (ms ts : Int) : Prop where
  kp : Kp dl H H'
  rv : RV P w C R S H' x am ap df dl
  gl : H' g = some (.lst (found.map oV))
  mt : MetAt H' dm R ps L ms ts
  dm0 : H dm = none
  dmg : dm ≠ g
  g0 : H g = none
  dl0 : ∃ φ, H dl = some (.ext φ)
section
variable {P : Program} {w : World} {C : Addr} {R : Rule} {S : Int → Prop} {H H1 H2 : Hp} {x am ap df dl g dm : Addr} {found : List (Option Int)} {ps L : Nat} {ms ts : Int}
theorem FrSt.gdl (Z : FrSt P w C R S H x am ap df dl g dm H1 found ps L ms ts) : g ≠ dl := fun e => by
  obtain ⟨φ, h⟩ := Z.dl0
  have := Z.g0
  rw [e, h] at this
  cases this
theorem FrSt.ddl (Z : FrSt P w C R S H x am ap df dl g dm H1 found ps L ms ts) : dm ≠ dl := fun e => by
  obtain ⟨φ, h⟩ := Z.dl0
  have := Z.dm0
  rw [e, h] at this
  cases this
theorem RV.dlx (r : RV P w C R S H x am ap df dl) : ∃ φ, H dl = some (.ext φ) := by
  obtain ⟨_, _, _, _, ⟨_, ⟨_, _, h, _⟩, _⟩⟩ := r
  exact ⟨_, h⟩
theorem Kp.tups (h : ∃ φ, H dl = some (.ext φ)) (k : Kp dl H H1) : Tups H H1 := fun b xs hb => k b _ hb fun e => by
  obtain ⟨φ, h⟩ := h
  rw [e, h] at hb
  cases hb
theorem FrSt.late (Z : FrSt P w C R S H x am ap df dl g dm H1 found ps L ms ts) (k : Kp dl H1 H2) (r : RV P w C R S H2 x am ap df dl) : FrSt P w C R S H x am ap df dl g dm H2 found ps L ms ts :=
  ⟨Z.kp.trans k, r, k _ _ Z.gl Z.gdl, Z.mt.keep (fun o ho => k _ _ ho Z.ddl) (Kp.tups Z.rv.dlx k), Z.dm0, Z.dmg, Z.g0, Z.dl0⟩
theorem FrSt.same (Z : FrSt P w C R S H x am ap df dl g dm H1 found ps L ms ts) (k : Same H1 H2) : FrSt P w C R S H x am ap df dl g dm H2 found ps L ms ts := Z.late (sameKp k dl) (Z.rv.same k)
theorem FrSt.app (Z : FrSt P w C R S H x am ap df dl g dm H1 found ps L ms ts) (v : Option Int) : FrSt P w C R S H x am ap df dl g dm (upd H1 g (.lst (found.map oV ++ [oV v]))) (found ++ [v]) ps L ms ts := by
  refine ⟨Z.kp.upd Z.g0, Z.rv.other fun b o hb h1 _ => ?_, by rw [upd_same, List.map_append]; rfl, Z.mt.keep (fun o ho => by rw [upd_ne Z.dmg]; exact ho) (fun b xs hb => ?_), Z.dm0, Z.dmg, Z.g0, Z.dl0⟩
  · rw [upd_ne fun e => by rw [e, Z.gl] at hb; cases hb; exact h1 _ rfl]
    exact hb
  · rw [upd_ne fun e => by rw [e, Z.gl] at hb; cases hb]
    exact hb
theorem FrSt.newd (Z : FrSt P w C R S H x am ap df dl g dm H1 found ps L ms ts) {d2 : Addr} (h2 : H1 d2 = none) (ps' : Nat) (ms' ts' : Int) : FrSt P w C R S H x am ap df dl g d2 (upd H1 d2 (.dK [])) found ps' 0 ms' ts' := by
  have s : Same H1 (upd H1 d2 (.dK [])) := same_upd h2
  have n0 : H d2 = none := by
    cases q : H d2 with
    | none => rfl
    | some o =>
      by_cases e : d2 = dl
      · obtain ⟨φ, hx⟩ := Z.rv.dlx
        rw [e, hx] at h2
        cases h2
      · have := Z.kp _ _ q e
        rw [h2] at this
        cases this
  exact ⟨Z.kp.trans (sameKp s dl), Z.rv.same s, s _ _ Z.gl, ⟨[], upd_same, Nat.le_refl _, fun i hi => by omega, fun z _ => rfl⟩, n0, (fun e => by rw [e, Z.gl] at h2; cases h2), Z.g0, Z.dl0⟩
/-- ahead of a turn -/
def FrInv (P : Program) (w : World) (C : Addr) (R : Rule) (S : Int → Prop) (H : Hp) (x am ap df dl g : Addr) (p : Nat) (e : Int) (u : Option Int) (mm : Nat) (σ : L2.St) (H' : Hp) : Prop :=
  ∃ (found : List (Option Int)) (ps L : Nat) (ms ts mn tn : Int) (dm : Addr) (a9 a10 a11 a12 a13 a14 : Option V), σ = [some (.ref x), some (.int (ch R ps L : Nat)), some (.int e), some (oV u), some (oV (u.map fun m => m - 1 - e)), some (.ref g), some (.ref dm), some (.int mn), some (.int tn), a9, a10, a11, a12, a13, a14] ∧
    mn = ms + L ∧ tn = ts + tks R ps L ∧ mm = mu u e R.ph.length L ts ∧ FrSt P w C R S H x am ap df dl g dm H' found ps L ms ts ∧ found.length + 2 * mu u e R.ph.length L ts ≤ 2 * mu u e R.ph.length 0 0 ∧ FI R R.ph.length p e u found ps L ms ts
/-- ahead of the near move -/
def FrMid (P : Program) (w : World) (C : Addr) (R : Rule) (S : Int → Prop) (H : Hp) (x am ap df dl g : Addr) (p : Nat) (e : Int) (u : Option Int) (mm : Nat) (σ : L2.St) (H' : Hp) : Prop :=
  ∃ (found : List (Option Int)) (ps L : Nat) (ms ts mn tn : Int) (dm : Addr) (a9 a10 a11 a12 a13 a14 : Option V), σ = [some (.ref x), some (.int (ch R ps L : Nat)), some (.int e), some (oV u), some (oV (u.map fun m => m - 1 - e)), some (.ref g), some (.ref dm), some (.int mn), some (.int tn), a9, a10, a11, a12, a13, a14] ∧
    mn = ms + L ∧ tn = ts + tks R ps L ∧ mu u e R.ph.length (L + 1) ts < mm ∧ FrSt P w C R S H x am ap df dl g dm H' found ps L ms ts ∧ found.length + 2 * mu u e R.ph.length (L + 1) ts ≤ 2 * mu u e R.ph.length 0 0 ∧ FI R R.ph.length p e u found ps L ms ts ∧
    (Exits R ∨ u = none → plusI (late R (ch R ps L) u) (ms + L) ∈ found) ∧ (∀ i, i < L → ch R ps i ≠ ch R ps L) ∧ Rm u (e + ts + tks R ps L)
theorem mv_in (mv : Mv) : inV (V.str mv.str) [V.str "next", V.str "out"] = (mv == .next || mv == .out) := by cases mv <;> decide +kernel
theorem mu_bound {u : Option Int} {e : Int} {n : Nat} (hn : n ≤ 3) (he : -1000 ≤ e) (hm : ∀ m, u = some m → m ≤ 1000) : 2 * mu u e n 0 0 ≤ 30000 := by
  unfold mu
  cases u with
  | none => simp; omega
  | some m =>
    have := hm m rfl
    have h1 : (m - 1 - e - 0).toNat ≤ 2000 := by omega
    have h2 : (m - 1 - e - 0).toNat * (n + 2) ≤ 2000 * 5 := Nat.mul_le_mul h1 (by omega)
    show 2 * ((m - 1 - e - 0).toNat * (n + 2) + (n + 1 - 0)) ≤ 30000
    omega
theorem size3 {n : Nat} (h : n ≤ 40000) : n < sizeLine := Nat.lt_of_le_of_lt h (by decide)
end
section
variable {P : Program} {w : World} {K : PySem.W.Frag} {mg : Str → Option Value} {base : Heap} {f C : Addr} {fd : FuncData}
theorem ok_fresh (F : Fun K "fresh_value" "RoundValues.fresh_value" sFresh f fd) (T : Cs K mg C) (cP : Cal P w K mg base 1 "plus" ["number", "more"] spPlus) (cG : Cal P w K mg base 1 "greatest_of" ["numbers"] spGreat)
    (cU : Cal P w K mg base 2 "upper_at" ["marks", "x"] spUp) (mL : Met P w K mg base C 5 "late_value" ["self", "phase", "upper"] (spLate P w C)) : FnOk P w K mg base CX0 6 f fd ["self", "phase", "end"] (spFresh P w C) := by
  obtain ⟨tf, hNear⟩ := T.near
  refine F.ok scFresh (fun vs H Q E h => ?_) (fun cdv A outer s H vs Q E hr h => ?_)
  · obtain ⟨R, S, x, am, ap, df, dl, p, e, rfl, _⟩ := h
    rfl
  · obtain ⟨R, S, x, am, ap, df, dl, p, e, rfl, G, V0, hp, he1, hm1, hS, k⟩ := h
    have hu := hu_of hr
    refine ⟨_, pss_cons (ps_set (i := 3) scFresh.nd rfl (Or.inl rfl) (pe_cal cU hr (pa_cons (pe_fld (pv 0) rfl) (pa_cons (pv 2) pa_nil))))
      (C8.pss_cut (ps_set (i := 4) scFresh.nd rfl (Or.inl rfl) (pe_ifExp (pt_cmpR op_isN (pv 3) pe_non (nomark _)) pe_non (pe_op op_sub (pe_op op_sub (pv 3) pe_int) (pv 2))))
      (pss_cons (ps_set (i := 5) scFresh.nd rfl (Or.inl rfl) (pe_lst pa_nil))
      (pss_cons (ps_set (i := 6) scFresh.nd rfl (Or.inl rfl) pe_dnewK)
      (pss_cons (ps_set (i := 7) scFresh.nd rfl (Or.inl rfl) pe_int)
      (pss_cons (ps_set (i := 8) scFresh.nd rfl (Or.inl rfl) pe_int)
      (pss_one (ps_while PassesOwn.never (pt_val pe_bl)
        (pss_cons (ps_expr (pe_bm PySem.F.plainAttrs_list PySem.F.slot_list_append PySem.F.type_list_append mt_append (pv 5) (pa_cons (pe_cal cP hr (pa_cons (pe_met mL T.cl (pv 0) hr (pa_cons (pv 1) (pa_cons (pv 3) pa_nil))) (pa_cons (pv 7) pa_nil))) pa_nil)))
        (C8.pss_cut (ps_if (PW.pt (pw_and (pt_cmpR op_notN (pv 4) pe_non (nomark _)) (pw_and1 (pt_cmpR op_ge (pv 8) (pv 4) (nomark _))))) (pss_one (ps_ret (pe_cal cG hr (pa_cons (pv 5) pa_nil)))) pss_nil)
        (C8.pss_cut (ps_if (pt_cmp (pc_din hu (pv 1) (pv 6)))
          (pss_cons (ps_par (i := 9) (j := 10) rfl scFresh.nd rfl rfl (by decide) rfl rfl (pa_cons (pe_op op_sub (pv 7) (pe_ix ix_tup (pe_dget hu (pv 6) (pv 1) (fun _ _ => rfl)) pe_int (fun _ _ => rfl)))
              (pa_cons (pe_op op_sub (pv 8) (pe_ix ix_tup (pe_dget hu (pv 6) (pv 1) (fun _ _ => rfl)) pe_int (fun _ _ => rfl))) pa_nil)) (by rfl))
          (pss_cons (ps_if (PW.pt (pw_or (pt_cmpR op_isN (pv 4) pe_non (nomark _)) (pw_or1 (pt_cmpR op_eq (pv 10) pe_int (nomark _))))) (pss_one (ps_ret pe_non)) pss_nil)
          (pss_cons (ps_set (i := 11) scFresh.nd rfl (Or.inl rfl) (pe_callB (call_max2 rfl) (by rfl) T.max (by decide +kernel) (pa_cons pe_int (pa_cons (pe_op op_sub (pe_op op_fdivN (pe_op op_sub (pv 4) (pv 8)) (pv 10)) pe_int) pa_nil))))
          (pss_cons (ps_aug (i := 7) scFresh.nd rfl (Or.inl rfl) (pe_op op_mul (pv 11) (pv 9)) ip_add)
          (pss_cons (ps_aug (i := 8) scFresh.nd rfl (Or.inl rfl) (pe_op op_mul (pv 11) (pv 10)) ip_add)
          (pss_cons (ps_expr (pe_bm PySem.F.plainAttrs_list PySem.F.slot_list_append PySem.F.type_list_append mt_append (pv 5) (pa_cons (pe_cal cP hr (pa_cons (pe_met mL T.cl (pv 0) hr (pa_cons (pv 1) (pa_cons (pv 3) pa_nil))) (pa_cons (pv 7) pa_nil))) pa_nil)))
          (pss_one (ps_set (i := 6) scFresh.nd rfl (Or.inl rfl) pe_dnewK)))))))) pss_nil)
        (pss_cons (ps_dput hu (pv 6) (pv 1) (pe_tup (pa_cons (pv 7) (pa_cons (pv 8) pa_nil))) rfl)
        (pss_cons (ps_asg (pe_ix ix_tup (pe_ix ix_tup (pe_fld (pv 0) rfl) (pv 1) (fun _ _ => rfl)) (pe_glob (v := .int 0) rfl hNear ⟨_, rfl⟩) (fun _ _ => rfl))
            (pg_tup rfl (pgs_cons (pg_name (i := 12) scFresh.nd rfl (.inl rfl)) (pgs_cons (pg_name (i := 13) scFresh.nd rfl (.inl rfl)) pgs_nil))))
        (pss_cons (ps_aug (i := 7) scFresh.nd rfl (Or.inl rfl) pe_int ip_add)
        (pss_cons (ps_if (pt_cmpR op_in_seq (pv 12) (pe_tup (pa_cons pe_str (pa_cons pe_str pa_nil))) (by rfl))
          (C8.pss_cut (ps_set (i := 14) scFresh.nd rfl (Or.inl rfl) (pe_ifExp (PW.pt (pw_or (pt_cmpR op_eq (pv 12) pe_str (nomark _)) (pw_or1 (pt_cmpR op_isN (pv 3) pe_non (nomark _))))) pe_int
            (pe_dget hu (pe_fld (pv 0) rfl) (pe_tup (pa_cons (pv 13) (pa_cons (pv 3) pa_nil))) (fun _ _ => rfl))))
          (pss_cons (ps_expr (pe_bm PySem.F.plainAttrs_list PySem.F.slot_list_append PySem.F.type_list_append mt_append (pv 5) (pa_cons (pe_cal cP hr (pa_cons (pv 14) (pa_cons (pv 7) pa_nil))) pa_nil)))
          (pss_one (ps_ret (pe_cal cG hr (pa_cons (pv 5) pa_nil)))))) pss_nil)
        (pss_cons (ps_aug (i := 8) scFresh.nd rfl (Or.inl rfl) (pe_ifExp (pt_cmpR op_eq (pv 12) pe_str (nomark _)) pe_int pe_int) ip_add)
        (pss_one (ps_set (i := 1) scFresh.nd rfl (Or.inl rfl) (pv 13)))))))))))))))))), ?_⟩
    obtain ⟨⟨dx, ho⟩, hm, hpa, _, _⟩ := id V0
    -- upper
    refine ⟨_, rfl, x, C, dx, _, _, rfl, ho, T.cl, T.nM, flds_marks _ _ _ _, _, rfl, am, R.cuts, e, rfl, hm, by have := G.two; omega, G.asc, fun H1 s1 => ?_⟩
    have V1 := V0.same s1
    generalize hup : up R.cuts e = u at hS k ⊢
    have hSu : ∀ m, u = some m → m ∈ R.cuts ∧ S m ∧ ∀ e' ∈ tgs R.cuts m, S e' := fun m hm => ⟨(up_lt (by rw [hup]; exact hm)).1, hS m hm⟩
    have hM := mu_bound (u := u) G.n3 he1 fun m hm => hm1 m (hSu m hm).1
    -- room
    refine ⟨fun σ H' => σ = [some (.ref x), some (.int (p : Nat)), some (.int e), some (oV u), some (oV (u.map fun m => m - 1 - e)), none, none, none, none, none, none, none, none, none, none] ∧ Same H H', ⟨_, rfl, rfl, _, rfl, ?_⟩, ?_⟩
    · cases u with
      | none => exact iteT ⟨rfl, s1⟩
      | some m => exact iteF ⟨_, rfl, m, 1, rfl, rfl, _, rfl, m - 1, e, rfl, rfl, rfl, s1⟩
    rintro σ H2 ⟨rfl, s2⟩
    -- found, met, many, taken
    refine ⟨Nat.zero_le _, fun g ng => ?_⟩
    intro dm ndm
    have g0 : H g = none := by
      cases q : H g with
      | none => rfl
      | some o => rw [s2 _ _ q] at ng; cases ng
    have s3 : Same H2 (upd H2 g (.lst [])) := same_upd ng
    have dm0 : H dm = none := by
      cases q : H dm with
      | none => rfl
      | some o => rw [s3 _ _ (s2 _ _ q)] at ndm; cases ndm
    have dmg : dm ≠ g := fun e => by rw [e, upd_same] at ndm; cases ndm
    have s4 : Same (upd H2 g (.lst [])) (upd (upd H2 g (.lst [])) dm (.dK [])) := same_upd ndm
    have s5 := (s2.trans s3).trans s4
    refine ⟨FrInv P w C R S H x am ap df dl g p e u, ⟨_, [], p, 0, 0, 0, 0, 0, dm, none, none, none, none, none, none, rfl, rfl, rfl, rfl, ⟨sameKp s5 dl, V0.same s5, by rw [upd_ne dmg.symm, upd_same]; rfl, ⟨[], upd_same, Nat.le_refl _, fun i hi => by omega, fun z _ => rfl⟩, dm0, dmg, g0, V0.dlx⟩, by simp, by rw [← hup]; exact FI.start G.asc G.n3 hp⟩, ?_⟩
    rintro mm σ H3 ⟨found, ps, L, ms, ts, mn, tn, dm, a9, a10, a11, a12, a13, a14, rfl, hmn, htn, hmm, Z, hlen, F0⟩
    refine ⟨true, rfl, iteT ?_⟩
    refine ⟨fun σ' H' => ∃ m', m' < mm ∧ FrInv P w C R S H x am ap df dl g p e u m' σ' H', fun _ _ h => h, ?_⟩
    have hLn := F0.L_le
    have hn3 := G.n3
    -- found.append(plus(self.late_value(phase, upper), many))
    obtain ⟨⟨dx3, ho3⟩, _⟩ := id Z.rv
    refine ⟨_, rfl, .inl ⟨rfl, _, SqL.of Z.gl⟩, ?_⟩
    refine ⟨_, rfl, x, dx3, _, rfl, ho3, flds_no _ _ _ _ (by decide +kernel) (by decide +kernel) (by decide +kernel) (by decide +kernel), _, rfl, _, rfl, ?_⟩
    refine ⟨R, S, x, am, ap, df, dl, ch R ps L, u, rfl, G, Z.rv, F0.lt L (Nat.le_refl _), hSu, fun H4 v k4 V4 hv => ?_⟩
    have Z4 := Z.late k4 V4
    refine ⟨_, rfl, v, mn, rfl, ?_⟩
    refine ⟨g, _, _, rfl, rfl, Z4.gl, by rw [List.length_map]; exact size3 (by omega), ?_⟩
    have Z5 := Z4.app (plusI v mn)
    have F1 := F0.noted hv
    rw [← hmn] at F1
    generalize hH5 : upd H4 g (.lst (found.map oV ++ [oV (plusI v mn)])) = H5 at Z5 ⊢
    generalize hf1 : found ++ [plusI v mn] = found1 at Z5 F1
    have hin1 : Exits R ∨ u = none → plusI (late R (ch R ps L) u) (ms + L) ∈ found1 := fun c => by rw [← hf1, ← hv c, ← hmn]; simp
    have hl1 : found1.length = found.length + 1 := by rw [← hf1]; simp
    -- room is not None and taken >= room
    refine ⟨fun σ' H' => σ' = [some (.ref x), some (.int (ch R ps L : Nat)), some (.int e), some (oV u), some (oV (u.map fun m => m - 1 - e)), some (.ref g), some (.ref dm), some (.int mn), some (.int tn), a9, a10, a11, a12, a13, a14] ∧ H' = H5 ∧ Rm u (e + ts + tks R ps L), ⟨_, rfl, rfl, _, rfl, ?_⟩, ?_⟩
    · cases u with
      | none => exact iteF (iteF ⟨rfl, rfl, fun m hm => nomatch hm⟩)
      | some m =>
        refine iteT ⟨_, rfl, _, rfl, tn, m - 1 - e, rfl, rfl, _, rfl, ite2 (fun hc => ?_) (fun hc => ?_)⟩
        · have hc' : m - 1 - e ≤ ts + tks R ps L := by rw [← htn]; simpa using hc
          refine ⟨_, rfl, g, found1, rfl, Z5.gl, by rw [← hf1]; simp, k H5 _ Z5.kp Z5.rv fun c => ?_⟩
          rw [← hf1, hmn]
          exact F0.done hv rfl hc' c
        · have hc' : ¬ m - 1 - e ≤ tn := by simpa using hc
          exact ⟨rfl, rfl, fun m' hm' => by cases hm'; omega⟩
    rintro σ' H' ⟨rfl, rfl, hrm⟩
    -- phase in met
    refine ⟨FrMid P w C R S H x am ap df dl g p e u mm, ?_, ?_⟩
    · obtain ⟨kvs, hd, hkl, hka, hkb⟩ := Z5.mt.ex
      refine ⟨_, rfl, _, rfl, dm, _, rfl, DGet.k (k := Sum.inl (ch R ps L : Int)) hd, _, rfl, ?_⟩
      by_cases hin : ∃ i, i < L ∧ ch R ps i = ch R ps L
      · obtain ⟨i, hi, hie⟩ := hin
        obtain ⟨t, ht1, ht2⟩ := hka i hi
        rw [hie] at ht1
        have hdg : DGet H' dm (.int (ch R ps L : Int)) (some (.ref t)) := by
          rw [← ht1]
          exact DGet.k (k := Sum.inl (ch R ps L : Int)) hd
        rw [ht1]
        refine iteT ?_
        -- length, used
        refine ⟨_, rfl, _, rfl, _, rfl, dm, .ref t, rfl, hdg, t, _, 0, _, rfl, rfl, SqT.of ht2, atI_nat (j := 0) rfl, mn, ms + i, rfl, rfl, _, rfl, _, rfl, _, rfl, dm, .ref t, rfl, hdg, t, _, 1, _, rfl, rfl, SqT.of ht2, atI_nat (j := 1) rfl, tn, ts + tks R ps i, rfl, rfl, _, _, rfl, ?_⟩
        have hused := F1.used hi
        have hub := tks_nn R (ch R ps i) (L - i)
        refine ⟨_, rfl, rfl, _, rfl, ?_⟩
        cases hu0 : u with
        | none => exact iteT (iteT (k H' none Z5.kp Z5.rv fun c => (F1.endless hi hie (.inl hu0) c).symm))
        | some m =>
          subst hu0
          refine iteF ⟨_, rfl, rfl, _, rfl, ite2 (fun hz => ?_) (fun hz => ?_)⟩
          · have hz' : tn - (ts + tks R ps i) = 0 := by simpa using hz
            exact k H' none Z5.kp Z5.rv fun c => (F1.endless hi hie (.inr (by omega)) c).symm
          · have hz' : tn - (ts + tks R ps i) ≠ 0 := by simpa using hz
            have hw : tn - (ts + tks R ps i) = tks R ps L - tks R ps i := by omega
            have hwp : 0 < tks R ps L - tks R ps i := by omega
            have hw3 : tks R ps L - tks R ps i ≤ 3 := by omega
            -- turns
            refine ⟨_, rfl, _, rfl, m - 1 - e, tn, rfl, rfl, _, rfl, m - 1 - e - tn, tn - (ts + tks R ps i), rfl, rfl, ⟨hz', by omega⟩, _, 1, rfl, rfl, 0, _, rfl, ?_⟩
            have htt : (if (m - 1 - e - tn).fdiv (tn - (ts + tks R ps i)) - 1 > 0 then (m - 1 - e - tn).fdiv (tn - (ts + tks R ps i)) - 1 else 0) = max 0 ((m - 1 - e - (ts + tks R ps L)) / (tks R ps L - tks R ps i) - 1) := by
              rw [hw, Int.fdiv_eq_ediv_of_nonneg _ (by omega), htn]
              split <;> omega
            rw [htt]
            generalize ht : max 0 ((m - 1 - e - (ts + tks R ps L)) / (tks R ps L - tks R ps i) - 1) = tu
            have hrm' := hrm m rfl
            obtain ⟨hjr, htu0⟩ := jump_room (t := tu) (r := m - 1 - e) (tn := tn) hwp (by rw [htn]; exact ht.symm) (by omega)
            have hli : mn - (ms + (i : Int)) = ((L - i : Nat) : Int) := by omega
            -- many += turns * length; taken += turns * used
            refine ⟨_, rfl, _, rfl, _, rfl, tu, mn - (ms + i), rfl, rfl, .inr ⟨by omega, by omega⟩, mn, _, rfl, rfl, ?_⟩
            refine ⟨_, rfl, _, rfl, _, rfl, tu, tn - (ts + tks R ps i), rfl, rfl, .inr ⟨by omega, by omega⟩, tn, _, rfl, rfl, ?_⟩
            -- found.append(plus(self.late_value(phase, upper), many))
            obtain ⟨⟨dx5, ho5⟩, _⟩ := id Z5.rv
            refine ⟨_, rfl, .inl ⟨rfl, _, SqL.of Z5.gl⟩, ?_⟩
            refine ⟨_, rfl, x, dx5, _, rfl, ho5, flds_no _ _ _ _ (by decide +kernel) (by decide +kernel) (by decide +kernel) (by decide +kernel), _, rfl, _, rfl, ?_⟩
            refine ⟨R, S, x, am, ap, df, dl, ch R ps L, some m, rfl, G, Z5.rv, F1.lt L (Nat.le_refl _), hSu, fun H6 v6 k6 V6 hv6 => ?_⟩
            have Z6 := Z5.late k6 V6
            refine ⟨_, rfl, v6, _, rfl, ?_⟩
            refine ⟨g, _, _, rfl, rfl, Z6.gl, by rw [List.length_map]; exact size3 (by omega), ?_⟩
            have Z7 := Z6.app (plusI v6 (mn + tu * (mn - (ms + i))))
            -- met = {}
            intro d2 nd2
            have hJ := F1.jump hi hie rfl hwp ht.symm hv6
            have e1 : ms + (L : Int) + tu * ((L - i : Nat) : Int) = mn + tu * (mn - (ms + i)) := by rw [hli, hmn]
            have e2 : ts + tks R ps L + tu * (tks R ps L - tks R ps i) = tn + tu * (tn - (ts + tks R ps i)) := by rw [hw, htn]
            rw [e1, e2] at hJ
            have Z8 := Z7.newd nd2 (ch R ps L) (mn + tu * (mn - (ms + i))) (tn + tu * (tn - (ts + tks R ps i)))
            have htp : 0 ≤ tu * (tks R ps L - tks R ps i) := Int.mul_nonneg htu0 (by omega)
            have hts0 := F1.ts0
            have htk := tks_nn R ps i
            have hmj := mu_jump (m := m) (e0 := e) (n := R.ph.length) (L := L) (ts := ts) (ts' := tn + tu * (tn - (ts + tks R ps i))) hLn (by rw [hw]; omega) (by omega)
            refine ⟨_, ch R ps L, 0, mn + tu * (mn - (ms + i)), tn + tu * (tn - (ts + tks R ps i)), _, _, d2, _, _, _, _, _, _, rfl, ?_, ?_, by rw [hmm]; exact hmj, Z8, ?_, hJ, fun c => ?_, fun i h => by omega, fun m' hm' => ?_⟩
            · simp
            · simp [tks]
            · rw [List.length_append]
              show found1.length + 1 + 2 * mu (some m) e R.ph.length 1 _ ≤ _
              omega
            · show plusI (late R (ch R ps L) (some m)) (mn + tu * (mn - (ms + i)) + ((0 : Nat) : Int)) ∈ _
              rw [← hv6 c]
              simp
            · cases hm'
              simp only [tks]
              rw [hw]
              omega
      · have hnew : ∀ i, i < L → ch R ps i ≠ ch R ps L := fun i hi he => hin ⟨i, hi, he⟩
        rw [hkb _ hnew]
        refine iteF ?_
        have hLt := F1.L_lt hnew
        have hst := mu_step (u := u) (e0 := e) (n := R.ph.length) (L := L) (ts := ts) (by omega)
        exact ⟨found1, ps, L, ms, ts, mn, tn, dm, _, _, _, _, _, _, rfl, hmn, htn, by rw [hmm]; exact hst, Z5, by omega, F1, hin1, hnew, hrm⟩
    clear hrm hin1 hl1 Z5 F1 hf1 Z4 hv F0 Z hlen htn hmn k4 V4 hLn hH5
    rintro σ' H6 ⟨found, ps, L, ms, ts, mn, tn, dm, b9, b10, b11, b12, b13, b14, rfl, hmn, htn, hmu, Z, hlen, F1, hin1, hnew, hrm⟩
    have hLt := F1.L_lt hnew
    -- met[phase] = (many, taken)
    refine ⟨_, rfl, _, rfl, by show 2 ≤ sizeLine; decide, fun t nt => ?_⟩
    have Z7 := Z.same (same_upd (o := .tup [.int mn, .int tn]) nt)
    obtain ⟨kvs, hd, hkl, hka, hkb⟩ := Z7.mt.ex
    refine ⟨_, rfl, _, rfl, dm, _, rfl, DPut.k (k := Sum.inl (ch R ps L : Int)) hd (small1000 (by omega)), ?_⟩
    have Z8 : FrSt P w C R S H x am ap df dl g dm (upd (upd H6 t (.tup [.int mn, .int tn])) dm (.dK (putK kvs (.inl (ch R ps L : Int)) (.ref t)))) found ps (L + 1) ms ts := by
      refine ⟨Z7.kp.upd Z7.dm0, Z7.rv.other fun b o hb _ h2 => ?_, by rw [upd_ne Z7.dmg.symm]; exact Z7.gl, MetAt.put hd hkl hka hkb hnew (by rw [upd_same, hmn, htn]), Z7.dm0, Z7.dmg, Z7.g0, Z7.dl0⟩
      rw [upd_ne fun e => by rw [e, hd] at hb; cases hb; exact h2 _ rfl]
      exact hb
    generalize upd (upd H6 t (.tup [.int mn, .int tn])) dm (.dK (putK kvs (.inl (ch R ps L : Int)) (.ref t))) = H8 at Z8 ⊢
    clear hd hkl hka hkb Z7 nt
    -- move, after = self.held_phases[phase][NEAR]
    have V8 := Z8.rv
    obtain ⟨⟨dx8, ho8⟩, _, hpa8, ⟨fk, hf8, FR⟩, _⟩ := id V8
    have hphL := F1.lt L (Nat.le_refl _)
    obtain ⟨xs, b1, ys, d, h1, hx1, h3, h4, h5⟩ := hpa8.get G hphL (c := 0) (by decide)
    have hq : (R.pr (ch R ps L) 0).2 < R.ph.length := G.nxt _ 0 hphL
    cases hmq : R.pr (ch R ps L) 0 with
    | mk mv q =>
      rw [hmq] at h5 hq
      have hnx : nx R (ch R ps L) = q := by unfold nx; rw [hmq]
      have hexq : exq R (ch R ps L) = (mv == .next || mv == .out) := by unfold exq; rw [hmq]
      refine ⟨_, rfl, x, C, dx8, _, _, rfl, ho8, T.cl, T.nP, flds_phases _ _ _ _, _, rfl, ap, xs, (ch R ps L : Int), _, rfl, rfl, SqT.of h1, atI_nat hx1, b1, ys, 0, _, rfl, rfl, SqT.of h3, atI_nat (j := 0) h4, d, _, rfl, SqT.of h5, rfl, _, _, rfl, _, _, rfl, rfl, ?_⟩
      -- many += 1
      refine ⟨_, rfl, mn, 1, rfl, rfl, ?_⟩
      -- move in ('next', 'out')
      refine ⟨_, rfl, by show 2 ≤ sizeLine; decide, fun t2 nt2 => ?_⟩
      have Z9 := Z8.same (same_upd (o := .tup [.str "next", .str "out"]) nt2)
      generalize hH9 : upd H8 t2 (.tup [.str "next", .str "out"]) = H9 at Z9 ⊢
      have ht9 : H9 t2 = some (.tup [.str "next", .str "out"]) := by rw [← hH9, upd_same]
      refine ⟨t2, _, rfl, .inr (SqT.of ht9), rfl, rfl, _, rfl, ?_⟩
      show if (if false = true then _ else inV (V.str mv.str) [V.str "next", V.str "out"]) = true then _ else _
      rw [if_neg Bool.false_ne_true, mv_in, ← hexq]
      obtain ⟨⟨dx9, ho9⟩, _, _, ⟨fk9, hf9, FR9⟩, _⟩ := id Z9.rv
      cases hex : exq R (ch R ps L) with
      | true =>
        refine iteT ?_
        rw [hex] at hexq
        -- behind
        refine ⟨fun σ' H' => ∃ bh : Option Int, σ' = [some (.ref x), some (.int (ch R ps L : Nat)), some (.int e), some (oV u), some (oV (u.map fun m => m - 1 - e)), some (.ref g), some (.ref dm), some (.int (mn + 1)), some (.int tn), b9, b10, b11, some (.str mv.str), some (.int (q : Nat)), some (oV bh)] ∧ Same H9 H' ∧
          (Exits R ∨ u = none → fresh R (ch R ps L) (e + ts + tks R ps L) = maxI (late R (ch R ps L) u) (plusI bh 1)), ⟨_, rfl, rfl, _, rfl, ?_⟩, ?_⟩
        · rw [mv_out]
          refine ite2 (fun hmo => ?_) (fun hmo => ?_)
          · have em : mv = .out := by simpa using hmo
            rw [em] at hmq
            exact iteT ⟨some 0, rfl, Same.refl _, fun _ => near_out F1.upat hrm hmq⟩
          · have em : mv ≠ .out := by simpa using hmo
            have em2 : mv = .next := by
              cases mv <;> simp at hexq em ⊢
            rw [em2] at hmq
            refine ⟨_, rfl, rfl, _, rfl, ?_⟩
            cases u with
            | none => exact iteT ⟨some 0, rfl, Same.refl _, fun _ => near_next_out F1.upat hmq⟩
            | some m =>
              obtain ⟨o, hvv, hvo⟩ := FR9.get hq (hSu m rfl).2.1
              refine iteF ⟨_, rfl, x, C, dx9, _, _, rfl, ho9, T.cl, T.nF, flds_fresh _ _ _ _, _, rfl, _, rfl, by show 2 ≤ sizeLine; decide, fun t3 nt3 => ?_⟩
              refine ⟨df, oV o, rfl, ?_, o, rfl, same_upd nt3, fun c => ?_⟩
              · rw [← hvv]
                exact DGet.t (k := kF q m) (by rw [upd_ne (ne_of_none hf9 nt3)]; exact hf9) upd_same
              · have hE : Exits R := c.elim id fun z => by cases z
                rw [hvo (.inl hE)]
                exact near_next G.asc F1.upat (hrm m rfl) hmq
        · rintro σ' H10 ⟨bh, rfl, s10, hbh⟩
          have Z10 := Z9.same s10
          refine ⟨_, rfl, .inl ⟨rfl, _, SqL.of Z10.gl⟩, _, rfl, _, rfl, bh, mn + 1, rfl, ?_⟩
          refine ⟨g, _, _, rfl, rfl, Z10.gl, by rw [List.length_map]; exact size3 (by omega), ?_⟩
          have Z11 := Z10.app (plusI bh (mn + 1))
          refine ⟨_, rfl, g, found ++ [plusI bh (mn + 1)], rfl, Z11.gl, by simp, k _ _ Z11.kp Z11.rv fun c => ?_⟩
          rw [hmn]
          exact F1.leave hin1 hrm hbh c
      | false =>
        refine iteF ?_
        rw [hex] at hexq
        -- taken += 1 if move == 'take' else 0
        refine ⟨_, rfl, _, rfl, rfl, _, rfl, ?_⟩
        have F2 := F1.move hin1 hex hnew (by rw [hnx]; exact hq) hrm
        have htk : tk R (ch R ps L) = if mv = .take then 1 else 0 := by unfold tk; rw [hmq]
        have fin : ∀ (z : Int), z = tk R (ch R ps L) → ∃ m', m' < mm ∧ FrInv P w C R S H x am ap df dl g p e u m' [some (.ref x), some (.int (q : Nat)), some (.int e), some (oV u), some (oV (u.map fun m => m - 1 - e)), some (.ref g), some (.ref dm), some (.int (mn + 1)), some (.int (tn + z)), b9, b10, b11, some (.str mv.str), some (.int (q : Nat)), b14] H9 := by
          intro z hz
          refine ⟨_, hmu, found, ps, L + 1, ms, ts, mn + 1, tn + z, dm, b9, b10, b11, some (.str mv.str), some (.int (q : Nat)), b14, ?_, by omega, ?_, rfl, Z9, hlen, F2⟩
          · rw [← hnx]; rfl
          · rw [htn, hz]
            simp only [tks]
            omega
        rw [mv_take]
        refine ite2 (fun hmt => ?_) (fun hmt => ?_)
        · have em : mv = .take := by simpa using hmt
          exact ⟨tn, 1, rfl, rfl, _, rfl, fin 1 (by rw [htk, if_pos em])⟩
        · have em : ¬ mv = .take := by simpa using hmt
          exact ⟨tn, 0, rfl, rfl, _, rfl, fin 0 (by rw [htk, if_neg em])⟩
end
end K37
set_option Elab.async false
set_option linter.all false
set_option maxRecDepth 100000
/-! t[::-1] of a tuple; RoundValues.__init__. -/
namespace K37
open PySem PySem.Spec PyProof.Rows L2
section
variable {prog : Program} {w : World} {A : Around} {E : Value → Shared → Prop} {s : Shared}
theorem rev_places (n : Nat) : Builtin.Slice.slicePlaces ((n : Int) - 1) (-1) (-1) = n := by
  unfold Builtin.Slice.slicePlaces
  rw [if_neg (by decide)]
  by_cases h : n = 0
  · subst h; rfl
  · rw [if_pos (by omega), show (-(-1) : Int) = 1 by decide, Int.ediv_one]
    omega
theorem fm_congr {α β : Type} {f g : α → Option β} : ∀ {l : List α}, (∀ a ∈ l, f a = g a) → l.filterMap f = l.filterMap g
  | [], _ => rfl
  | a :: l, h => by
    rw [List.filterMap_cons, List.filterMap_cons, h a List.mem_cons_self, fm_congr fun b hb => h b (List.mem_cons_of_mem _ hb)]
theorem rev_pick (xs : Array Value) : ((List.range xs.size).filterMap fun (k : Nat) => xs[(((xs.size : Nat) : Int) - 1 + (k : Int) * (-1)).toNat]?).toArray = xs.toList.reverse.toArray := by
  congr 1
  have e : ((List.range xs.size).filterMap fun (k : Nat) => xs[(((xs.size : Nat) : Int) - 1 + (k : Int) * (-1)).toNat]?) = ((List.range xs.size).map fun k => xs.size - 1 - k).filterMap (xs[·]?) := by
    rw [List.filterMap_map]
    refine fm_congr fun k hk => ?_
    have := List.mem_range.mp hk
    show xs[_]? = xs[xs.size - 1 - k]?
    congr 1
    omega
  rw [e, PySem.W.krv_range, List.filterMap_reverse, PySem.W.krv_all]
theorem sliceApplied_rev {sl : Addr} {vl vu vk : Value} {n : Nat} {Q : Int × Int × Nat → Shared → Prop} (hs : s.heap.IsSliceOf sl vl vu vk) (pl : IsPart vl none) (pu : IsPart vu none) (pk : IsPart vk (some (-1)))
    (h : Q ((n : Int) - 1, -1, n) s) : wpAny (model prog w) A (Builtin.Slice.sliceApplied (.ref sl) (pure (n : Int))) Q E s := by
  obtain ⟨os, hos, hcs, hds⟩ := id hs
  unfold Builtin.Slice.sliceApplied Builtin.Slice.sliceFields
  refine wpAny_bind (wpAny_bind (wpAny_field hos hds (x := vl) rfl (wpAny_bind (wpAny_field hos hds (x := vu) rfl (wpAny_bind (wpAny_field hos hds (x := vk) rfl (wpAny_pure ?_)))))))
  refine wpAny_bind (HT.slicePart_ pk ?_)
  show wpAny _ _ (if ((-1 : Int) == 0) = true then _ else _) _ _ s
  rw [if_neg (by decide)]
  refine wpAny_bind (HT.slicePart_ pl (wpAny_bind (HT.slicePart_ pu (wpAny_bind (wpAny_pure ?_)))))
  show wpAny _ _ (pure ((n : Int) - 1, (-1 : Int), Builtin.Slice.slicePlaces ((n : Int) - 1) (-1) (-1))) _ _ s
  rw [rev_places]
  exact wpAny_pure h
theorem getItem_tuple_rev {t sl : Addr} {items : Array Value} {vl vu vk : Value} {Q : Value → Shared → Prop} (ht : IsTup s.heap t items) (hs : s.heap.IsSliceOf sl vl vu vk) (pl : IsPart vl none) (pu : IsPart vu none) (pk : IsPart vk (some (-1)))
    (h : Q (.ref s.heap.objs.size) { s with heap := s.heap.push { cls := .type "tuple", data := .seq items.toList.reverse.toArray } }) (hsz : items.size ≤ sizeLine) : wpAny (model prog w) A (getItem (.ref t) (.ref sl)) Q E s := by
  have hk : sizeOk (.seq items.toList.reverse.toArray) := by
    show items.toList.reverse.toArray.size ≤ sizeLine
    rw [List.size_toArray, List.length_reverse, Array.length_toList]
    exact hsz
  obtain ⟨os, hos, hcs, hds⟩ := id hs
  have hTs : s.TypeIs (.ref sl) "slice" := ⟨os, hos, hcs⟩
  unfold getItem
  try with_reducible refine wpAny_holding ?_
  first | refine wpAny_bind (wpAny_pure ?_) | skip
  refine wpAny_bind (wpAny_sequenceKey ht.typeIs (by decide) ?_)
  refine wpAny_bind (wpAny_callSpecial?_slot (name := Str.ofString "__getitem__") ht.typeIs PyProof.Rows.slot_tuple_getitem (wpAny_call_entry PyProof.Rows.slot_tuple_getitem ht.typeIs entry_tuple_getitem ?_ (args_tuple_getitem _ _)))
  show wpAny _ _ (Builtin.Tuple.tupleItemsOf (.ref t) >>= _) _ _ s
  refine wpAny_bind (tupleItemsOf_ ht (wpAny_bind (wpAny_typeOf hTs ?_)))
  rw [if_pos (by decide)]
  refine wpAny_bind (sliceApplied_rev hs pl pu pk ?_)
  have hno : ¬ ((((items.size : Nat) : Int) - 1 == 0 && (-1 : Int) == 1 && items.size == items.size) = true) := by
    rw [show ((-1 : Int) == 1) = false by decide, Bool.and_false, Bool.false_and]
    exact Bool.false_ne_true
  show wpAny _ _ (if (((items.size : Nat) : Int) - 1 == 0 && (-1 : Int) == 1 && items.size == items.size) = true then _ else _) _ _ s
  rw [if_neg hno, rev_pick]
  first
    | exact wpAny_bind (m := Builtin.Tuple.tupleExact _) (wpAny_newObj_type (wpAny_pure ⟨_, rfl, wpAny_pure h⟩) hk)
    | exact wpAny_bind (m := Builtin.Tuple.tupleExact _) (wpAny_newObj_type (wpAny_bind (wpAny_pure (wpAny_pure ⟨_, rfl, wpAny_pure h⟩))) hk)
    | exact wpAny_bind (wpAny_bind (m := Builtin.Tuple.tupleExact _) (wpAny_newObj_type (wpAny_pure (wpAny_pure ⟨_, rfl, wpAny_pure h⟩)) hk))
    | exact wpAny_bind (wpAny_bind (m := Builtin.Tuple.tupleExact _) (wpAny_newObj_type (wpAny_pure ⟨_, rfl, wpAny_pure h⟩) hk))
end
section
variable {X : Cx}
def tRevT (K : PySem.W.Frag) (te : TE) : TE := fun σ H Q => te σ H fun x H1 => ∃ a xs, x = .ref a ∧ SqT K H1 a xs ∧ ∀ p, H1 p = none → Q (.ref p) (upd H1 p (.tup xs.reverse))
theorem pe_revT {e : Expr} {te : TE} {k : Nat} {p1 p2 p3 pos : Pos} (he : PE X e te) : PE X (.Subscript e (.Slice none none (some (.UnaryOp .USub (.Constant (.int 1) k p1) p2)) p3) pos) (tRevT X.K te) := by
  refine ⟨fun pins s σ H Q I h => ?_⟩
  refine Subscript_ (thn (he.run pins s σ H _ I h) fun v s1 ⟨x, H1, I1, r1, a, xs, ex, hx, q⟩ => ?_)
  subst ex
  cases r1
  have hst : PO X (some (.UnaryOp .USub (.Constant (.int 1) k p1) p2)) (tPart (tUn (rU fun i => .int (-i)) (tC (.int 1)))) := po_some (pe_un un_neg pe_int)
  refine wpAny_Slice (thn (po_none.run pins s1 σ H1 (fun o H2 => o = none ∧ H2 = H1) I1 ⟨rfl, rfl⟩) fun vl s2 ⟨l, H2, I2, pl, el, e2⟩ => ?_)
  subst el e2
  refine thn (po_none.run pins s2 σ H2 (fun o H3 => o = none ∧ H3 = H2) I2 ⟨rfl, rfl⟩) fun vu s3 ⟨u, H3, I3, pu, eu, e3⟩ => ?_
  subst eu e3
  refine thn (hst.run pins s3 σ H3 (fun o H4 => o = some (-1) ∧ H4 = H3) I3 ⟨1, rfl, -1, rfl, rfl, rfl⟩) fun vs s4 ⟨o, H4, I4, ps, eo, e4⟩ => ?_
  subst eo e4
  have I5 : Inv X pins σ H4 { s4 with heap := s4.heap.push { cls := .type "slice", data := .fields #[vl, vu, vs] } } := I4.kept (t' := s4.toks) fun b ob z => Heap.get?_push_of_some _ z
  obtain ⟨its, r, ht, hz⟩ := I5.tuple hx
  have hlen := r.length
  show wpAny (model X.prog X.w) X.A (subscriptTail e (.Slice none none (some (.UnaryOp .USub (.Constant (.int 1) k p1) p2)) p3) (.ref a) (.ref s4.heap.objs.size)) (EP X pins σ Q) X.xe _
  refine tail_any (ops := [.ref a, .ref s4.heap.objs.size]) ht.typeIs (PyProof.Rows.slot_tuple_getitem.lookup) ?_ (by with_unfolding_all rfl)
  refine getItem_tuple_rev ht (Heap.IsSliceOf.new _ vl vu vs) pl pu ps ?_ (by rw [List.size_toArray]; omega)
  refine ⟨.ref _, _, I5.laid (t' := s4.toks) (o := .tup xs.reverse) (fun b ob z => Heap.get?_push_of_some _ z) (Nat.le_refl _) ?_, rfl, q _ (I5.hok.fresh (Nat.le_refl _))⟩
  exact ⟨by rw [List.length_reverse]; exact hz, _, r.reverse, IsTup.new _ _⟩
end
end K37
set_option Elab.async false
set_option linter.all false
set_option maxRecDepth 100000
/-! RoundValues.__init__, most_rounds. -/
namespace K37
open PySem PySem.Spec PyProof.Rows L2
theorem rev_ahead {cuts : List Int} (hA : Asc cuts) {i : Nat} {c m : Int} (hi : cuts.reverse[i]? = some c) (hm : m ∈ cuts) (h : c < m) : ∃ j, j < i ∧ cuts.reverse[j]? = some m := by
  obtain ⟨j, hj, e⟩ := List.getElem_of_mem (List.mem_reverse.mpr hm)
  have hj' : cuts.reverse[j]? = some m := by rw [List.getElem?_eq_getElem hj, e]
  refine ⟨j, ?_, hj'⟩
  refine Classical.byContradiction fun z => ?_
  obtain ⟨hi1, hi2⟩ := List.getElem?_eq_some_iff.mp hi
  by_cases e2 : j = i
  · subst e2
    rw [hi] at hj'
    cases hj'
    omega
  · have hp : cuts.reverse.Pairwise (fun a b => b < a) := List.pairwise_reverse.mpr hA
    have := List.pairwise_iff_getElem.mp hp i j hi1 hj (by omega)
    rw [hi2, e] at this
    omega
/-- the ends whose values stand behind i marks, from the greatest on -/
def Sm (R : Rule) (i : Nat) (e : Int) : Prop := ∃ j m, j < i ∧ R.cuts.reverse[j]? = some m ∧ (e = m ∨ e = m + 1)
def Sall (R : Rule) (e : Int) : Prop := ∃ m ∈ R.cuts, e = m ∨ e = m + 1
theorem Sm.all {R : Rule} {e : Int} : Sm R R.cuts.length e ↔ Sall R e := by
  constructor
  · rintro ⟨j, m, _, h, q⟩
    exact ⟨m, List.mem_reverse.mp (List.mem_of_getElem? h), q⟩
  · rintro ⟨m, hm, q⟩
    obtain ⟨j, hj, e⟩ := List.getElem_of_mem (List.mem_reverse.mpr hm)
    exact ⟨j, m, by rw [List.length_reverse] at hj; exact hj, by rw [List.getElem?_eq_getElem hj, e], q⟩
theorem Sm.need {R : Rule} (hA : Asc R.cuts) {i : Nat} {c e m : Int} (hi : R.cuts.reverse[i]? = some c) (he : c ≤ e) (hu : up R.cuts e = some m) : Sm R i m ∧ ∀ e' ∈ tgs R.cuts m, Sm R i e' := by
  have h := up_lt hu
  obtain ⟨j, hj, q⟩ := rev_ahead hA hi h.1 (by omega)
  refine ⟨⟨j, m, hj, q, .inl rfl⟩, fun e' h' => ?_⟩
  rcases List.mem_cons.mp h' with rfl | h'
  · exact ⟨j, m, hj, q, .inr rfl⟩
  · obtain ⟨h1, h2⟩ := List.mem_filter.mp h'
    have h2 : m + 1 < e' := by simpa using h2
    obtain ⟨j', hj', q'⟩ := rev_ahead hA hi h1 (by omega)
    exact ⟨j', e', hj', q', .inl rfl⟩
theorem Sall.need {R : Rule} {e m : Int} (hu : up R.cuts e = some m) : Sall R m ∧ ∀ e' ∈ tgs R.cuts m, Sall R e' := by
  have h := up_lt hu
  refine ⟨⟨m, h.1, .inl rfl⟩, fun e' h' => ?_⟩
  rcases List.mem_cons.mp h' with rfl | h'
  · exact ⟨m, h.1, .inr rfl⟩
  · exact ⟨e', (List.mem_filter.mp h').1, .inl rfl⟩
theorem FrOk.put {R : Rule} {S : Int → Prop} {kvs : List (List Key × V)} (F : FrOk R S kvs) {q : Nat} {e : Int} {v : Option Int} (hv : Exits R ∨ up R.cuts e = none → v = fresh R q e) : FrOk R S (putK kvs (kF q e) (oV v)) := by
  refine ⟨fun k x hx => ?_, fun q' e' hq he => ?_⟩
  · rw [valV_put] at hx
    by_cases h : k = kF q e
    · rw [if_pos h] at hx
      cases hx
      exact ⟨q, e, v, h, rfl, hv⟩
    · rw [if_neg h] at hx
      exact F.val _ _ hx
  · rw [valV_put]
    split
    · rfl
    · exact F.has _ _ hq he
theorem RV.mono {P : Program} {w : World} {C : Addr} {R : Rule} {S S' : Int → Prop} {H : Hp} {x am ap df dl : Addr} (r : RV P w C R S H x am ap df dl) {kvs : List (List Key × V)} (hf : H df = some (.dT kvs))
    (h : ∀ q e, q < R.ph.length → S' e → (valV kvs (kF q e)).isSome = true) : RV P w C R S' H x am ap df dl := by
  obtain ⟨h1, h2, h3, ⟨k1, h4, h5⟩, h6⟩ := r
  rw [hf] at h4
  cases h4
  exact ⟨h1, h2, h3, ⟨kvs, hf, h5.val, h⟩, h6⟩
abbrev sInit : Stmt := inClass sRV 0
theorem scInit : FnScope ["self", "rule", "mark", "end", "phase"] ["self", "rule"] (defScope sInit) := ⟨rfl, rfl, rfl, by decide +kernel, rfl, by decide +kernel, by decide +kernel⟩
/-- all but the object at x is as it was -/
def spInit (P : Program) (w : World) (C : Addr) : Sp := fun vs H Q _ => ∃ (R : Rule) (x dx r am ap : Addr), vs = [.ref x, .ref r] ∧ Good R ∧ H x = some (.ins C dx []) ∧ H r = some (.tup [.ref am, .ref ap]) ∧ H am = some (.tup (R.cuts.map V.int)) ∧ PhAt H ap R.ph ∧
  (∀ m ∈ R.cuts, -1000 ≤ m ∧ m ≤ 1000) ∧ ∀ H' df dl, Kp x H H' → H dl = none → RV P w C R (Sall R) H' x am ap df dl → Q .non H'
/-- the object's things within the loops: c bounds the number of values held -/
structure Ini (P : Program) (w : World) (C : Addr) (R : Rule) (S : Int → Prop) (H : Hp) (x am ap df dl : Addr) (Ts : Addr → List V → Prop) (H' : Hp) (c : Nat) (e : Int) (k : Nat) : Prop where
  kp : Kp x H H'
  tp : ∀ b ys, Ts b ys → H' b = some (.tup ys)
  rv : RV P w C R S H' x am ap df dl
  fr : ∃ kvs, H' df = some (.dT kvs) ∧ kvs.length ≤ c ∧ ∀ q, q < k → (valV kvs (kF q e)).isSome = true
  n1 : H df = none
  n2 : H dl = none
section
variable {P : Program} {w : World} {K : PySem.W.Frag} {mg : Str → Option Value} {base : Heap} {f C : Addr} {fd : FuncData}
theorem Ini.same {R : Rule} {S : Int → Prop} {H H1 H2 : Hp} {x am ap df dl : Addr} {Ts : Addr → List V → Prop} {c k : Nat} {e : Int} (I : Ini P w C R S H x am ap df dl Ts H1 c e k) (s : Same H1 H2) : Ini P w C R S H x am ap df dl Ts H2 c e k :=
  ⟨I.kp.trans (sameKp s x), fun b ys h => s _ _ (I.tp b ys h), I.rv.same s, let ⟨kvs, h1, h2⟩ := I.fr; ⟨kvs, s _ _ h1, h2⟩, I.n1, I.n2⟩
/-- behind a call of fresh_value -/
theorem Ini.call {R : Rule} {S : Int → Prop} {H H1 H2 : Hp} {x am ap df dl : Addr} {Ts : Addr → List V → Prop} {c k : Nat} {e : Int} (I : Ini P w C R S H x am ap df dl Ts H1 c e k) (s : Kp dl H1 H2) (r : RV P w C R S H2 x am ap df dl) : Ini P w C R S H x am ap df dl Ts H2 c e k := by
  obtain ⟨φ, hd⟩ := I.rv.dlx
  obtain ⟨kvs, h1, h2⟩ := I.fr
  refine ⟨fun b o hb hx => s _ _ (I.kp _ _ hb hx) fun e => ?_, fun b ys h => Kp.tups ⟨φ, hd⟩ s _ _ (I.tp b ys h), r, ⟨kvs, s _ _ h1 fun e => ?_, h2⟩, I.n1, I.n2⟩
  · rw [e, I.n2] at hb; cases hb
  · rw [e, hd] at h1; cases h1
/-- behind a store of a value -/
theorem Ini.put {R : Rule} {S : Int → Prop} {H H1 : Hp} {x am ap df dl : Addr} {Ts : Addr → List V → Prop} {c k : Nat} {e : Int} {v : Option Int} {kvs : List (List Key × V)} (I : Ini P w C R S H x am ap df dl Ts H1 c e k) (hf : H1 df = some (.dT kvs)) (hv : Exits R ∨ up R.cuts e = none → v = fresh R k e) :
    Ini P w C R S H x am ap df dl Ts (upd H1 df (.dT (putK kvs (kF k e) (oV v)))) (c + 1) e (k + 1) := by
  obtain ⟨kvs', h1, h2, h3⟩ := I.fr
  rw [hf] at h1
  cases h1
  obtain ⟨⟨dx, r1⟩, r2, r3, ⟨k1, r4, r5⟩, ⟨k2, r6, r7⟩⟩ := I.rv
  rw [hf] at r4
  cases r4
  have ne : ∀ {b : Addr} {o : HO}, H1 b = some o → (∀ y, o ≠ .dT y) → (upd H1 df (.dT (putK kvs (kF k e) (oV v)))) b = some o := fun {b o} hb hn => by
    rw [upd_ne fun z => by rw [z, hf] at hb; cases hb; exact hn _ rfl]
    exact hb
  have tp : Tups H1 (upd H1 df (.dT (putK kvs (kF k e) (oV v)))) := fun b ys hb => ne hb (fun _ z => by cases z)
  obtain ⟨xs, _, hx, _⟩ := id r6
  refine ⟨I.kp.upd I.n1, fun b ys h => tp _ _ (I.tp b ys h), ⟨⟨dx, ne r1 (fun _ z => by cases z)⟩, tp _ _ r2, r3.tups tp, ⟨_, upd_same, r5.put hv⟩, ⟨k2, r6.stay (fun o ho => ?_) tp, r7⟩⟩, ⟨_, upd_same, ?_, fun q hq => ?_⟩, I.n1, I.n2⟩
  · rw [hx] at ho
    cases ho
    exact ne hx (fun _ z => by cases z)
  · have := length_putK kvs (kF k e) (oV v)
    omega
  · rw [valV_put]
    split
    · rfl
    · rename_i hne
      refine h3 q ?_
      have : q ≠ k := fun z => hne (by rw [z])
      omega
theorem ok_init (F : Fun K "__init__" "RoundValues.__init__" sInit f fd) (T : Cs K mg C) (mF : Met P w K mg base C 6 "fresh_value" ["self", "phase", "end"] (spFresh P w C)) : FnOk P w K mg base CX0 7 f fd ["self", "rule"] (spInit P w C) := by
  refine F.ok scInit (fun vs H Q E h => ?_) (fun cdv A outer s H vs Q E hr h => ?_)
  · obtain ⟨R, x, dx, r, am, ap, rfl, _⟩ := h
    rfl
  · obtain ⟨R, x, dx, r, am, ap, rfl, G, hx, hrr, hm, hp, hb, k⟩ := h
    have hu := hu_of hr
    refine ⟨_, pss_cons (ps_fld (pv 0) (pe_ix ix_tup (pv 1) pe_int (fun _ _ => rfl)) rfl)
      (pss_cons (ps_fld (pv 0) (pe_ix ix_tup (pv 1) pe_int (fun _ _ => rfl)) rfl)
      (pss_cons (ps_fld (pv 0) pe_dnewT rfl)
      (C8.pss_cut (ps_fld (pv 0) pe_lnew rfl)
      (pss_one (ps_for PassesOwn.never rfl (pi_tup (pe_revT (pe_fld (pv 0) rfl))) (pg_name (i := 2) scInit.nd rfl (Or.inl rfl))
        (pss_one (ps_for PassesOwn.never rfl (pi_tup (pe_tup (pa_cons (pe_op op_add (pv 2) pe_int) (pa_cons (pv 2) pa_nil)))) (pg_name (i := 3) scInit.nd rfl (Or.inl rfl))
          (pss_one (ps_for PassesOwn.never rfl (pi_range1 (by rfl) T.range (pa_cons (pe_callB call_len_seq (by rfl) T.len PySem.boot_len (pa_cons (pe_fld (pv 0) rfl) pa_nil)) pa_nil)) (pg_name (i := 4) scInit.nd rfl (Or.inl rfl))
            (pss_one (ps_dput hu (pe_fld (pv 0) rfl) (pe_tup (pa_cons (pv 4) (pa_cons (pv 3) pa_nil))) (pe_met mF T.cl (pv 0) hr (pa_cons (pv 4) (pa_cons (pv 3) pa_nil))) rfl))))))))))), ?_⟩
    -- the four fields
    have nx : ∀ {b : Addr} {xs : List V}, H b = some (.tup xs) → b ≠ x := fun hb e => by rw [e, hx] at hb; cases hb
    refine ⟨_, rfl, r, _, 0, _, rfl, rfl, SqT.of hrr, atI_nat (j := 0) rfl, _, rfl, x, C, dx, [], rfl, hx, T.cl, T.nM, by show 0 < 1000; decide, ?_⟩
    refine ⟨_, rfl, r, _, 1, _, rfl, rfl, SqT.of (by rw [upd_ne (nx hrr)]; exact hrr), atI_nat (j := 1) rfl, _, rfl, x, C, dx, _, rfl, upd_same, T.cl, T.nP, by show 1 < 1000; decide, ?_⟩
    rw [upd_upd]
    intro df nf
    have fx : x ≠ df := ne_of_none upd_same nf
    refine ⟨_, rfl, x, C, dx, _, rfl, by rw [upd_ne fx, upd_same], T.cl, T.nF, by show 2 < 1000; decide, ?_⟩
    have dfn : H df = none := by rw [upd_ne fx.symm] at nf; exact nf
    refine ⟨fun σ H' => σ = [some (.ref x), some (.ref r), none, none, none] ∧ ∃ dl, H dl = none ∧ Kp x H H' ∧ H' df = some (.dT []) ∧ RV P w C R (Sm R 0) H' x am ap df dl, ?_, ?_⟩
    · intro dl φ nl hd
      have lx : x ≠ dl := ne_of_none upd_same nl
      have dld : dl ≠ df := fun e => by
        rw [e, upd_ne fx.symm, upd_same] at nl
        cases nl
      have dln : H dl = none := by rw [upd_ne lx.symm, upd_ne dld, upd_ne lx.symm] at nl; exact nl
      refine ⟨_, rfl, x, C, dx, _, rfl, by rw [upd_ne lx, upd_same], T.cl, T.nL, by show 3 < 1000; decide, rfl, dl, dln, ?_⟩
      -- what stands now
      generalize hH3 : upd (upd (upd H x (.ins C dx (putF "held_phases" (.ref ap) (putF "held_marks" (.ref am) [])))) df (.dT [])) x (.ins C dx (putF "held_fresh" (.ref df) (putF "held_phases" (.ref ap) (putF "held_marks" (.ref am) [])))) = H3 at nl hd ⊢
      have old : ∀ b o, H b = some o → b ≠ x → (upd (upd H3 dl (.ext φ)) x (.ins C dx (flds am ap df dl))) b = some o := fun b o hb hbx => by
        rw [upd_ne hbx, upd_ne (ne_of_none hb dln), ← hH3, upd_ne hbx, upd_ne (ne_of_none hb dfn), upd_ne hbx]
        exact hb
      have hdf : (upd (upd H3 dl (.ext φ)) x (.ins C dx (flds am ap df dl))) df = some (.dT []) := by
        rw [upd_ne fx.symm, upd_ne dld.symm, ← hH3, upd_ne fx.symm, upd_same]
      have hDL : DL P w (upd (upd H3 dl (.ext φ)) x (.ins C dx (flds am ap df dl))) dl [] := DL.stay hd (fun o ho => by rw [upd_ne lx.symm]; exact ho) fun b ys hb => by
        rw [upd_ne fun e => by
          rw [e, upd_ne lx, ← hH3, upd_same] at hb
          cases hb]
        exact hb
      refine ⟨old, hdf, ⟨dx, upd_same⟩, old _ _ hm (nx hm), ?_, ⟨[], hdf, (fun k v h => by cases h), fun q e _ h => ?_⟩, ⟨[], hDL, (fun k v h => by cases h), List.nodup_nil, (fun k h => by cases h)⟩⟩
      · obtain ⟨bs, p1, p2⟩ := hp
        refine ⟨bs, old _ _ p1 (nx p1), Paired.mapP p2 fun b row q => ?_⟩
        obtain ⟨cs, q1, q2⟩ := q
        exact ⟨cs, old _ _ q1 (nx q1), Paired.mapP q2 fun c m z => old _ _ z (nx z)⟩
      · obtain ⟨j, _, hj, _⟩ := h
        omega
    rintro σ H4 ⟨rfl, dl, dln, old, hdf, hRV⟩
    -- for mark in self.held_marks[::-1]
    obtain ⟨⟨dx4, ho4⟩, hm4, hp4, _, _⟩ := id hRV
    refine ⟨_, rfl, x, C, dx4, _, _, rfl, ho4, T.cl, T.nM, flds_marks _ _ _ _, am, _, rfl, SqT.of hm4, fun rv nrv => ?_⟩
    have s5 : Same H4 (upd H4 rv (.tup (R.cuts.map V.int).reverse)) := same_upd nrv
    refine ⟨rv, rfl, ⟨_, SqT.of upd_same⟩, for_tup (K := K) (a := rv) (xs := (R.cuts.map V.int).reverse) (fun i σ H' => ∃ y2 y3 y4, σ = [some (.ref x), some (.ref r), y2, y3, y4] ∧ Ini P w C R (Sm R i) H x am ap df dl (fun b ys => b = rv ∧ ys = (R.cuts.map V.int).reverse) H' (6 * i) 0 0)
      ⟨none, none, none, rfl, ⟨fun b o hb hbx => s5 _ _ (old b o hb hbx), fun b ys ⟨e1, e2⟩ => by subst e1; subst e2; exact upd_same, hRV.same s5, ⟨[], s5 _ _ hdf, Nat.zero_le _, fun q hq => by omega⟩, dfn, dln⟩⟩
      (fun i σ H' _ ⟨_, _, _, _, I⟩ => SqT.of (I.tp _ _ ⟨rfl, rfl⟩)) ?_ ?_⟩
    · rintro i y σ H' hi ⟨y2, y3, y4, rfl, I⟩
      have hi' : (R.cuts.reverse.map V.int)[i]? = some y := by rw [List.map_reverse]; exact hi
      rw [List.getElem?_map] at hi'
      obtain ⟨c, hc, rfl⟩ := Option.map_eq_some_iff.mp hi'
      have hcm : c ∈ R.cuts := List.mem_reverse.mp (List.mem_of_getElem? hc)
      have hil : i < R.cuts.length := by
        have := (List.getElem?_eq_some_iff.mp hc).1
        rwa [List.length_reverse] at this
      have h2 := G.two
      have hn3 := G.n3
      -- for end in (mark + 1, mark)
      refine ⟨_, rfl, c, 1, rfl, rfl, _, rfl, by show 2 ≤ sizeLine; decide, fun t nt => ?_⟩
      have I1 := I.same (same_upd (o := .tup [.int (c + 1), .int c]) nt)
      refine ⟨t, rfl, ⟨_, SqT.of upd_same⟩, for_tup (K := K) (a := t) (xs := [.int (c + 1), .int c]) (fun j σ H' => ∃ y3 y4, σ = [some (.ref x), some (.ref r), some (.int c), y3, y4] ∧
        Ini P w C R (fun e => Sm R i e ∨ (1 ≤ j ∧ e = c + 1) ∨ (2 ≤ j ∧ e = c)) H x am ap df dl (fun b ys => (b = rv ∧ ys = (R.cuts.map V.int).reverse) ∨ (b = t ∧ ys = [.int (c + 1), .int c])) H' (6 * i + 3 * j) 0 0)
        ⟨y3, y4, rfl, ?_⟩ (fun j σ H' _ ⟨_, _, _, I⟩ => SqT.of (I.tp _ _ (.inr ⟨rfl, rfl⟩))) ?_ ?_⟩
      · obtain ⟨kvs, q1, q2, _⟩ := I1.fr
        obtain ⟨kvs', q3, q4⟩ := I1.rv.fr
        rw [q1] at q3
        cases q3
        refine ⟨I1.kp, fun b ys h => ?_, I1.rv.mono q1 fun q e hq he => q4.has q e hq (he.elim id fun h => by omega), ⟨kvs, q1, by omega, fun q hq => by omega⟩, I1.n1, I1.n2⟩
        rcases h with h | ⟨rfl, rfl⟩
        · exact I1.tp _ _ h
        · exact upd_same
      · rintro j y σ H2 hj ⟨y3, y4, rfl, J⟩
        -- the end is c + 1 or c
        obtain ⟨e, rfl, hce, hec, hje⟩ : ∃ e : Int, y = .int e ∧ c ≤ e ∧ e ≤ c + 1 ∧ ((j = 0 ∧ e = c + 1) ∨ (j = 1 ∧ e = c)) := by
          match j with
          | 0 => cases hj; exact ⟨c + 1, rfl, by omega, by omega, .inl ⟨rfl, rfl⟩⟩
          | 1 => cases hj; exact ⟨c, rfl, by omega, by omega, .inr ⟨rfl, rfl⟩⟩
          | j + 2 => simp at hj
        obtain ⟨⟨dx5, ho5⟩, _, hp5, _, _⟩ := id J.rv
        obtain ⟨bs, hp6, hp7⟩ := id hp5
        -- for phase in range(len(self.held_phases))
        refine ⟨_, rfl, x, C, dx5, _, _, rfl, ho5, T.cl, T.nP, flds_phases _ _ _ _, ap, _, rfl, .inr (SqT.of hp6), _, rfl, by omega, ?_, ?_⟩
        · rw [List.length_map, Paired.length hp7]; omega
        rw [List.length_map, Paired.length hp7, show ((R.ph.length : Nat) : Int).toNat = R.ph.length by omega]
        refine for_range (lo := 0) (n := R.ph.length) (fun k σ H' => ∃ y4, σ = [some (.ref x), some (.ref r), some (.int c), some (.int e), y4] ∧
          Ini P w C R (fun e => Sm R i e ∨ (1 ≤ j ∧ e = c + 1) ∨ (2 ≤ j ∧ e = c)) H x am ap df dl (fun b ys => (b = rv ∧ ys = (R.cuts.map V.int).reverse) ∨ (b = t ∧ ys = [.int (c + 1), .int c])) H' (6 * i + 3 * j + k) e k)
          ⟨y4, rfl, ?_⟩ ?_ ?_
        · obtain ⟨kvs, q1, q2, _⟩ := J.fr
          exact ⟨J.kp, J.tp, J.rv, ⟨kvs, q1, q2, fun q hq => by omega⟩, J.n1, J.n2⟩
        · rintro q σ H6 hq ⟨y4, rfl, L⟩
          obtain ⟨⟨dx6, ho6⟩, _⟩ := id L.rv
          -- self.held_fresh[phase, end] = self.fresh_value(phase, end)
          refine ⟨_, rfl, x, dx6, _, rfl, ho6, flds_no _ _ _ _ (by decide +kernel) (by decide +kernel) (by decide +kernel) (by decide +kernel), _, rfl, _, rfl, ?_⟩
          have hc1 := hb c hcm
          refine ⟨R, _, x, am, ap, df, dl, q, e, by rw [Int.zero_add]; rfl, G, L.rv, hq, by omega, fun m hm => (hb m hm).2, fun m hm => ?_, fun H7 v k7 r7 hv => ?_⟩
          · obtain ⟨n1, n2⟩ := Sm.need G.asc hc hce hm
            exact ⟨.inl n1, fun e' h' => .inl (n2 e' h')⟩
          have L7 := L.call k7 r7
          obtain ⟨⟨dx7, ho7⟩, _⟩ := id L7.rv
          refine ⟨_, rfl, x, C, dx7, _, _, rfl, ho7, T.cl, T.nF, flds_fresh _ _ _ _, _, rfl, _, rfl, by show 2 ≤ sizeLine; decide, fun t2 nt2 => ?_⟩
          have L8 := L7.same (same_upd (o := .tup [.int (0 + (q : Int)), .int e]) nt2)
          obtain ⟨kvs, q1, q2, q3⟩ := L8.fr
          refine ⟨df, _, rfl, DPut.t (k := kF q e) q1 (by rw [upd_same, Int.zero_add]; rfl) (small1000 (by omega)), _, rfl, ?_⟩
          exact L8.put q1 hv
        · rintro σ H6 ⟨y4, rfl, L⟩
          obtain ⟨kvs, q1, q2, q3⟩ := L.fr
          obtain ⟨kvs', q4, q5⟩ := L.rv.fr
          rw [q1] at q4
          cases q4
          refine ⟨_, _, rfl, L.kp, L.tp, L.rv.mono q1 fun q e' hq he => ?_, ⟨kvs, q1, by omega, fun q hq => by omega⟩, L.n1, L.n2⟩
          by_cases h : e' = e
          · subst h; exact q3 q hq
          · refine q5.has q e' hq ?_
            rcases he with he | he | he
            · exact .inl he
            · refine .inr (.inl ⟨?_, he.2⟩)
              rcases hje with hje | hje <;> omega
            · refine .inr (.inr ⟨?_, he.2⟩)
              rcases hje with hje | hje <;> omega
      · rintro σ H2 ⟨y3, y4, rfl, J⟩
        obtain ⟨kvs, q1, q2, q3⟩ := J.fr
        obtain ⟨kvs', q4, q5⟩ := J.rv.fr
        rw [q1] at q4
        cases q4
        refine ⟨_, _, _, rfl, J.kp, fun b ys h => J.tp _ _ (.inl h), J.rv.mono q1 fun q e hq he => q5.has q e hq ?_, ⟨kvs, q1, by show kvs.length ≤ 6 * (i + 1); have : ([V.int (c + 1), V.int c] : List V).length = 2 := rfl; omega, fun q hq => by omega⟩, J.n1, J.n2⟩
        obtain ⟨j, m, hj, hjm, hem⟩ := he
        by_cases h : j = i
        · subst h
          rw [hc] at hjm
          cases hjm
          rcases hem with rfl | rfl
          · exact .inr (.inr ⟨by show (2:Nat) ≤ 2; exact Nat.le_refl _, rfl⟩)
          · exact .inr (.inl ⟨by show (1:Nat) ≤ 2; exact Nat.le_succ _, rfl⟩)
        · exact .inl ⟨j, m, by omega, hjm, hem⟩
    · rintro σ H' ⟨y2, y3, y4, rfl, I⟩
      obtain ⟨kvs, q1, q2, q3⟩ := I.fr
      obtain ⟨kvs', q4, q5⟩ := I.rv.fr
      rw [q1] at q4
      cases q4
      refine k H' df dl I.kp I.n2 (I.rv.mono q1 fun q e hq he => q5.has q e hq ?_)
      rw [List.length_reverse, List.length_map]
      exact Sm.all.mpr he
end
end K37
set_option Elab.async false
set_option linter.all false
set_option maxRecDepth 100000
/-! most_rounds, greatest_rounds. -/
namespace K37
open PySem PySem.Spec PyProof.Rows L2
/-- the class can be made; its __init__ keeps its promise -/
structure Mkr (P : Program) (w : World) (K : PySem.W.Frag) (mg : Str → Option Value) (base : Heap) (C : Addr) : Prop where
  ex : ∃ (f : Addr) (fd : FuncData), FnOk P w K mg base CX0 7 f fd ["self", "rule"] (spInit P w C) ∧ Binds K fd ["self", "rule"] [] ∧ Mk K C f ∧ mg "RoundValues" = some (.ref C)
section
variable {X : Cx} {j : Nat} {p pos : Pos} {e : Expr} {es : List Expr} {t : TA} {C : Addr}
theorem pe_mkr (c : Mkr X.prog X.w X.K X.mg X.base C) (hr : Room j X.A) (ha : PA X (e :: es) t) (hk : 8 ≤ j := by decide) (hg : Gl X "RoundValues" := by rfl)
    (he : starEach (e :: es) X.env = (false, eval e X.env) :: starEach es X.env := by rfl) (hpl : (backTo pos (starEach es X.env)).any (·.1) = false := by rfl) :
    PE X (.Call (.Name "RoundValues" p) (e :: es) [] pos) (tMake C (spInit X.prog X.w C) [] E0 t) := by
  obtain ⟨f, fd, F, hb, M, hm⟩ := c.ex
  exact pe_make M F (hr.mono hk) hg hm hb .nil pass0 ha (by decide) he hpl
end
/-- a rule in the heap as the law hands it in -/
structure RuleAt (R : Rule) (H : Hp) (r : Addr) : Prop where
  good : Good R
  lim : ∀ m ∈ R.cuts, -100 ≤ m ∧ m ≤ 100
  adr : ∃ am ap, H r = some (.tup [.ref am, .ref ap]) ∧ H am = some (.tup (R.cuts.map V.int)) ∧ PhAt H ap R.ph
theorem RuleAt.wide {R : Rule} {H : Hp} {r : Addr} (h : RuleAt R H r) : ∀ m ∈ R.cuts, -1000 ≤ m ∧ m ≤ 1000 := fun m hm => by
  have := h.lim m hm
  omega
theorem RuleAt.same {R : Rule} {H H' : Hp} {r : Addr} (h : RuleAt R H r) (s : Same H H') : RuleAt R H' r := by
  obtain ⟨am, ap, h1, h2, h3⟩ := h.adr
  exact ⟨h.good, h.lim, am, ap, s _ _ h1, s _ _ h2, h3.same s⟩
abbrev sMost : Stmt := topS 22
abbrev sGr : Stmt := topS 23
theorem scMost : FnScope ["rule", "first"] ["rule", "first"] (defScope sMost) := ⟨rfl, rfl, rfl, by decide +kernel, rfl, by decide +kernel, by decide +kernel⟩
theorem scGr : FnScope ["rule", "marks", "phases", "firsts", "values", "first"] ["rule"] (defScope sGr) := ⟨rfl, rfl, rfl, by decide +kernel, rfl, by decide +kernel, by decide +kernel⟩
def spMost : Sp := fun vs H Q _ => ∃ (R : Rule) (r : Addr) (e : Int), vs = [.ref r, .int e] ∧ RuleAt R H r ∧ -1000 ≤ e ∧ ∀ H' v, Same H H' → (Exits R ∨ up R.cuts e = none → v = fresh R 0 e) → Q (oV v) H'
/-- the ends that greatest_rounds asks -/
def firsts (R : Rule) : List Int := match R.cuts with
  | [] => [0]
  | c :: l => (c - 1 - R.ph.length) :: c :: l
def spGr : Sp := fun vs H Q _ => ∃ (R : Rule) (r : Addr), vs = [.ref r] ∧ RuleAt R H r ∧ ∀ H' ws, Same H H' → Ans R (firsts R) ws → Q (oV (greatI ws)) H'
/-- behind __init__ and calls of fresh_value nothing that was is changed -/
theorem made_kp {C x dx : Addr} {H H' : Hp} (hx : H x = none) (hd : H dx = none) (h : Kp x (upd (upd H dx (.own x)) x (.ins C dx [])) H') : Same H H' := fun b o hb => by
  have e1 := ne_of_none hb hx
  have e2 := ne_of_none hb hd
  exact h b o (by rw [upd_ne e1, upd_ne e2]; exact hb) e1
section
variable {P : Program} {w : World} {K : PySem.W.Frag} {mg : Str → Option Value} {base : Heap} {f C : Addr} {fd : FuncData}
theorem ok_most (F : Fun K "most_rounds" "most_rounds" sMost f fd) (T : Cs K mg C) (cN : Cal P w K mg base 2 "need_first" ["first"] spNeed) (cM : Mkr P w K mg base C) (mF : Met P w K mg base C 6 "fresh_value" ["self", "phase", "end"] (spFresh P w C)) :
    FnOk P w K mg base CX0 9 f fd ["rule", "first"] spMost := by
  refine F.ok scMost (fun vs H Q E h => ?_) (fun cdv A outer s H vs Q E hr h => ?_)
  · obtain ⟨R, r, e, rfl, _⟩ := h
    rfl
  · obtain ⟨R, r, e, rfl, RA, he, k⟩ := h
    refine ⟨_, pss_cons (ps_expr (pe_cal cN hr (pa_cons (pv 1) pa_nil)))
      (pss_one (ps_ret (pe_met mF T.cl (pe_mkr cM hr (pa_cons (pv 0) pa_nil)) hr (pa_cons pe_int (pa_cons (pv 1) pa_nil))))), ?_⟩
    obtain ⟨am, ap, h1, h2, h3⟩ := RA.adr
    refine ⟨_, rfl, e, rfl, ?_⟩
    refine ⟨_, rfl, fun x dx hx hdx hne => ?_⟩
    have s0 : Same H (upd (upd H dx (.own x)) x (.ins C dx [])) := fun b o hb => by
      rw [upd_ne (ne_of_none hb hx), upd_ne (ne_of_none hb hdx)]
      exact hb
    refine ⟨R, x, dx, r, am, ap, rfl, RA.good, upd_same, s0 _ _ h1, s0 _ _ h2, h3.same s0, RA.wide, fun H1 df dl kp nl rv => ⟨rfl, ?_⟩⟩
    obtain ⟨⟨dx1, ho⟩, _⟩ := id rv
    refine ⟨x, dx1, _, rfl, ho, flds_no _ _ _ _ (by decide +kernel) (by decide +kernel) (by decide +kernel) (by decide +kernel), _, rfl, ?_⟩
    refine ⟨R, _, x, am, ap, df, dl, 0, e, rfl, RA.good, rv, RA.good.n1, he, fun m hm => (RA.wide m hm).2, fun m hm => Sall.need hm, fun H2 v k2 r2 hv => ?_⟩
    have s1 := made_kp hx hdx kp
    refine k H2 v (fun b o hb => k2 _ _ (s1 _ _ hb) fun z => ?_) hv
    have := s0 _ _ hb
    rw [z, nl] at this
    cases this
/-- the values' things within greatest_rounds -/
structure Gv (P : Program) (w : World) (C : Addr) (R : Rule) (H H' : Hp) (x am ap df dl : Addr) : Prop where
  sm : Same H H'
  rv : RV P w C R (Sall R) H' x am ap df dl
  nl : H dl = none
theorem Gv.call {R : Rule} {H H1 H2 : Hp} {x am ap df dl : Addr} (g : Gv P w C R H H1 x am ap df dl) (k : Kp dl H1 H2) (r : RV P w C R (Sall R) H2 x am ap df dl) : Gv P w C R H H2 x am ap df dl :=
  ⟨fun b o hb => k _ _ (g.sm _ _ hb) (ne_of_none hb g.nl), r, g.nl⟩
theorem Gv.same {R : Rule} {H H1 H2 : Hp} {x am ap df dl : Addr} (g : Gv P w C R H H1 x am ap df dl) (s : Same H1 H2) : Gv P w C R H H2 x am ap df dl := ⟨g.sm.trans s, g.rv.same s, g.nl⟩
theorem ok_gr (F : Fun K "greatest_rounds" "greatest_rounds" sGr f fd) (T : Cs K mg C) (cG : Cal P w K mg base 1 "greatest_of" ["numbers"] spGreat) (cM : Mkr P w K mg base C) (mF : Met P w K mg base C 6 "fresh_value" ["self", "phase", "end"] (spFresh P w C)) :
    FnOk P w K mg base CX0 9 f fd ["rule"] spGr := by
  refine F.ok scGr (fun vs H Q E h => ?_) (fun cdv A outer s H vs Q E hr h => ?_)
  · obtain ⟨R, r, rfl, _⟩ := h
    rfl
  · obtain ⟨R, r, rfl, RA, k⟩ := h
    refine ⟨_, pss_cons (ps_asg (pv 0) (pg_tup rfl (pgs_cons (pg_name (i := 1) scGr.nd rfl (.inl rfl)) (pgs_cons (pg_name (i := 2) scGr.nd rfl (.inl rfl)) pgs_nil))))
      (C8.pss_cut (ps_set (i := 3) scGr.nd rfl (Or.inl rfl) (pe_ifExp (pt_cmpR op_eq (pe_callB call_len_seq (by rfl) T.len PySem.boot_len (pa_cons (pv 1) pa_nil)) pe_int (nomark _)) (pe_lst (pa_cons pe_int pa_nil))
        (pe_lst (pa_cons (pe_op op_sub (pe_op op_sub (pe_ix ix_tup (pv 1) pe_int (fun _ _ => rfl)) pe_int) (pe_callB call_len_seq (by rfl) T.len PySem.boot_len (pa_cons (pv 2) pa_nil))) (StX.pa_star (pv 1) pa_nil)))))
      (pss_cons (ps_set (i := 4) scGr.nd rfl (Or.inr rfl) (pe_mkr cM hr (pa_cons (pv 0) pa_nil)))
      (pss_one (ps_ret (pe_cal cG hr (pa_cons (pe_lc (own := [("first", 5)]) (g := gName 5) (by rfl) scGr.nd (pi_list (pv 3))
        (blkOk_by (own := [("first", 5)]) (N := ["rule", "marks", "phases", "firsts", "values", "first"]) (sc := defScope sGr) (by decide +kernel)) (fun _ _ _ _ _ => pg_name (i := 5) scGr.nd rfl (Or.inl rfl))
        (fun _ _ _ _ _ => pts_nil) (fun _ _ _ _ _ => pe_met mF T.cl (pv 4) hr (pa_cons pe_int (pa_cons (pv 5) pa_nil)))) pa_nil)))))), ?_⟩
    obtain ⟨am, ap, h1, h2, h3⟩ := RA.adr
    have hn3 := RA.good.n3
    obtain ⟨bs, hbs, hpr⟩ := id h3
    have hbl : bs.length = R.ph.length := hpr.length
    refine ⟨_, rfl, r, _, rfl, SqT.of h1, rfl, _, _, rfl, _, _, rfl, rfl, ?_⟩
    refine ⟨fun σ H' => ∃ l : Addr, σ = [some (.ref r), some (.ref am), some (.ref ap), some (.ref l), none, none] ∧ Same H H' ∧ H' l = some (.lst ((firsts R).map V.int)), ?_, ?_⟩
    · refine ⟨_, rfl, am, _, rfl, .inr (SqT.of h2), rfl, _, rfl, ?_⟩
      rw [List.length_map]
      have hc2 := RA.good.two
      cases hc : R.cuts with
      | nil =>
        refine iteT ⟨by show 1 ≤ sizeLine; decide, fun l nl => ?_⟩
        refine ⟨l, rfl, same_upd nl, by rw [upd_same]; unfold firsts; rw [hc]; rfl⟩
      | cons c rest =>
        rw [hc] at h2 hc2
        refine iteF ⟨_, rfl, am, _, 0, _, rfl, rfl, SqT.of h2, atI_nat (j := 0) rfl, c, 1, rfl, rfl, _, rfl, ap, _, rfl, .inr (SqT.of hbs), c - 1, _, rfl, rfl, ?_⟩
        refine ⟨_, rfl, am, _, rfl, .inl (SqT.of h2), ?_⟩
        refine ⟨by simp at hc2 ⊢; exact size3 (by omega), fun l nl => ?_⟩
        refine ⟨l, rfl, same_upd nl, ?_⟩
        rw [upd_same]
        unfold firsts
        rw [hc, List.length_map, hbl]
        simp
    · rintro σ H1 ⟨l, rfl, s1, hl⟩
      refine ⟨_, rfl, fun x dx hx hdx hne => ?_⟩
      have s2 : Same H1 (upd (upd H1 dx (.own x)) x (.ins C dx [])) := fun b o hb => by
        rw [upd_ne (ne_of_none hb hx), upd_ne (ne_of_none hb hdx)]
        exact hb
      have s3 := s1.trans s2
      refine ⟨R, x, dx, r, am, ap, rfl, RA.good, upd_same, s3 _ _ h1, s3 _ _ h2, h3.same s3, RA.wide, fun H2 df dl kp nl rv => ⟨rfl, ?_⟩⟩
      have nl1 : H1 dl = none := by
        cases q : H1 dl with
        | none => rfl
        | some o => rw [s2 _ _ q] at nl; cases nl
      have g2 : Gv P w C R H1 H2 x am ap df dl := ⟨made_kp hx hdx kp, rv, nl1⟩
      have hl2 := g2.sm _ _ hl
      have hfl : (firsts R).length ≤ 5 := by
        have hc2 := RA.good.two
        unfold firsts
        cases hc : R.cuts with
        | nil => simp
        | cons c rest => rw [hc] at hc2; simp at hc2 ⊢; omega
      have hfe : ∀ e ∈ firsts R, -1000 ≤ e := by
        intro e he
        have hlim := RA.lim
        unfold firsts at he
        cases hc : R.cuts with
        | nil => rw [hc] at he; simp at he; omega
        | cons c rest =>
          rw [hc] at he hlim
          rcases List.mem_cons.mp he with rfl | he
          · have := hlim c List.mem_cons_self
            omega
          · have := hlim e he
            omega
      refine ⟨_, rfl, l, rfl, ⟨_, SqL.of hl2⟩, fun D nD => ?_⟩
      have nD1 : H1 D = none := by
        cases q : H1 D with
        | none => rfl
        | some o => rw [g2.sm _ _ q] at nD; cases nD
      obtain ⟨φd, hdl2⟩ := rv.dlx
      have dlD : D ≠ dl := fun z => by rw [z, hdl2] at nD; cases nD
      refine lc_list (K := K) (a := l) (xs := (firsts R).map V.int) (fun i H' => Gv P w C R H1 H' x am ap df dl ∧ ∃ vs : List (Option Int), H' D = some (.lst (vs.map oV)) ∧ vs.length = i ∧ Ans R ((firsts R).take i) vs)
        ⟨g2.same (same_upd nD), [], upd_same, rfl, .nil⟩ (fun i H' _ ⟨g, _⟩ => SqL.of (g.sm _ _ hl)) ?_ ?_
      · rintro i y H' hi ⟨g, vs, hD, hvl, hA⟩
        rw [List.getElem?_map] at hi
        obtain ⟨e, he, rfl⟩ := Option.map_eq_some_iff.mp hi
        obtain ⟨⟨dx1, ho⟩, _⟩ := id g.rv
        refine ⟨rfl, ?_⟩
        refine ⟨_, rfl, x, dx1, _, rfl, ho, flds_no _ _ _ _ (by decide +kernel) (by decide +kernel) (by decide +kernel) (by decide +kernel), _, rfl, ?_⟩
        refine ⟨R, _, x, am, ap, df, dl, 0, e, rfl, RA.good, g.rv, RA.good.n1, hfe e (List.mem_of_getElem? he), fun m hm => (RA.wide m hm).2, fun m hm => Sall.need hm, fun H3 v k3 r3 hv => ?_⟩
        have g3 := g.call k3 r3
        have hD3 := k3 _ _ hD dlD
        have hil : i < (firsts R).length := (List.getElem?_eq_some_iff.mp he).1
        refine ⟨_, hD3, by rw [List.length_map]; exact small1000 (by omega), ⟨fun b o hb => ?_, g3.rv.other fun b o hb n1 n2 => ?_, g.nl⟩, vs ++ [v], by rw [upd_same, List.map_append]; rfl, by rw [List.length_append, hvl]; rfl, ?_⟩
        · rw [upd_ne (ne_of_none hb nD1)]
          exact g3.sm _ _ hb
        · rw [upd_ne fun z => by rw [z, hD3] at hb; cases hb; exact n1 _ rfl]
          exact hb
        · rw [List.take_add_one, he]
          exact .snoc hA hv
      · rintro H' ⟨g, vs, hD, hvl, hA⟩
        rw [List.length_map, List.take_length] at hA
        refine ⟨D, vs, rfl, hD, ?_, k H' vs (s1.trans g.sm) hA⟩
        have hln := hA.length
        intro z
        rw [z] at hln
        unfold firsts at hln
        split at hln <;> simp at hln
end
end K37
set_option Elab.async false
set_option linter.all false
set_option maxRecDepth 100000
/-! The law's own net: case, moved, things, beyond, follow. -/
namespace K37
open PySem PySem.Spec PyProof.Rows L2
theorem dp_ints {K : PySem.W.Frag} {H : Hp} : ∀ is : List Int, DpAll K H (is.map V.int) (is.map PyData.int)
  | [] => .nil
  | i :: is => .cons (.int i) (dp_ints is)
theorem shaped_ints (is : List Int) : SeqAt.shaped (.list (is.map PyData.int)) = true ∧ SeqAt.shaped (.tuple (is.map PyData.int)) = true := by
  have h1 : PyData.canLayAll0 (is.map PyData.int) = true := by
    induction is with
    | nil => rfl
    | cons i is ih => simpa [PyData.canLayAll0, PyData.canLay0] using ih
  have h2 : PyData.depthAll (is.map PyData.int) ≤ 10 := by
    induction is with
    | nil => decide
    | cons i is ih =>
      have := ih (by simpa [PyData.canLayAll0, PyData.canLay0] using h1)
      simp [PyData.depthAll, PyData.depth]
      exact this
  have h3 : decide (PyData.depth (.list (is.map PyData.int)) ≤ 64) = true := decide_eq_true (by simp only [PyData.depth]; omega)
  have h4 : decide (PyData.depth (.tuple (is.map PyData.int)) ≤ 64) = true := decide_eq_true (by simp only [PyData.depth]; omega)
  unfold SeqAt.shaped
  rw [h3, h4]
  simp only [PyData.canLay0, h1, Bool.true_and]
  exact ⟨trivial, trivial⟩
theorem eqv_nil (is : List Int) : PyData.eqv (.list (is.map PyData.int)) (.list []) = decide (is = []) ∧ PyData.eqv (.tuple (is.map PyData.int)) (.tuple []) = decide (is = []) := by
  cases is with
  | nil => exact ⟨rfl, rfl⟩
  | cons i is => exact ⟨rfl, rfl⟩
theorem eqD_nil {K : PySem.W.Frag} {H : Hp} {D z : Addr} {is : List Int} (hD : SqL K H D (is.map V.int)) (hz : SqL K H z []) : ∃ d e, Dp K H (.ref D) d ∧ Dp K H (.ref z) e ∧ SeqAt.shaped d = true ∧ SeqAt.shaped e = true ∧ PyData.eqv d e = decide (is = []) :=
  ⟨_, _, .lst hD (dp_ints is), .lst hz .nil, (shaped_ints is).1, (shaped_ints []).1, (eqv_nil is).1⟩
theorem eqT_nil {K : PySem.W.Frag} {H : Hp} {D z : Addr} {is : List Int} (hD : SqT K H D (is.map V.int)) (hz : SqT K H z []) : ∃ d e, Dp K H (.ref D) d ∧ Dp K H (.ref z) e ∧ SeqAt.shaped d = true ∧ SeqAt.shaped e = true ∧ PyData.eqv d e = decide (is = []) :=
  ⟨_, _, .tup hD (dp_ints is), .tup hz .nil, (shaped_ints is).2, (shaped_ints []).2, (eqv_nil is).2⟩
theorem head_filter {cs : List Int} {p : Int → Bool} : (cs.filter p).head? = cs.find? p := List.head?_filter
abbrev sCase : Stmt := topS 36
theorem scCase : FnScope ["_law_cuts_here", "_law_here", "_law_come", "_law_ahead", "_law_cut"] ["_law_cuts_here", "_law_here", "_law_come"] (defScope sCase) := ⟨rfl, rfl, rfl, by decide +kernel, rfl, by decide +kernel, by decide +kernel⟩
def spCase : Sp := fun vs H Q _ => ∃ (m : Addr) (cs : List Int) (h : Int) (y : Option Int), vs = [.ref m, .int h, oV y] ∧ H m = some (.tup (cs.map V.int)) ∧ cs.length ≤ 100 ∧ ∀ H', Same H H' → Q (.int (caseO (up cs h) y : Nat)) H'
section
variable {P : Program} {w : World} {K : PySem.W.Frag} {mg : Str → Option Value} {base : Heap} {f C : Addr} {fd : FuncData}
theorem ok_case (F : Fun K "_law_case" "_law_case" sCase f fd) : FnOk P w K mg base CX0 1 f fd ["_law_cuts_here", "_law_here", "_law_come"] spCase := by
  refine F.ok scCase (fun vs H Q E h => ?_) (fun cdv A outer s H vs Q E hr h => ?_)
  · obtain ⟨m, cs, h, y, rfl, _⟩ := h
    rfl
  · obtain ⟨m, cs, h, y, rfl, hm, hl, k⟩ := h
    have hu := hu_of hr
    refine ⟨_, pss_cons (ps_setLc (i := 3) (own := [("_law_cut", 4)]) (g := gName 4) (by rfl) scCase.nd rfl rfl (sw_true rfl rfl rfl (by decide +kernel)) (pi_tup (pv 0))
          (blkOk_by (own := [("_law_cut", 4)]) (N := ["_law_cuts_here", "_law_here", "_law_come", "_law_ahead", "_law_cut"]) (sc := defScope sCase) (by decide +kernel)) (fun _ _ _ _ _ => pg_name (i := 4) scCase.nd rfl (Or.inl rfl))
          (fun _ _ _ _ _ => pts_one (pt_cmpR op_gt (pv 4) (pv 1) (nomark _))) (fun _ _ _ _ _ => pv 4))
      (pss_cons (ps_if (PW.pt (pw_and (pt_cmpR op_notN (pv 2) pe_non (nomark _)) (pw_and1 (PW.pt (pw_or (pt_cmpR (op_eqD hr.units) (pv 3) (pe_lst pa_nil) (nomark _)) (pw_or1 (pt_cmpR op_lt (pv 2) (pe_ix ix_list (pv 3) pe_int (fun _ _ => rfl)) (nomark _)))))))) (pss_one (ps_ret pe_int)) pss_nil)
      (pss_one (ps_ret (pe_ifExp (PW.pt (pw_and (pt_cmpR (op_neD hr.units) (pv 3) (pe_lst pa_nil) (nomark _)) (pw_and1 (pt_cmpR op_eq (pv 2) (pe_ix ix_list (pv 3) pe_int (fun _ _ => rfl)) (nomark _))))) pe_int pe_int)))), ?_⟩
    refine ⟨_, rfl, m, rfl, ⟨_, SqT.of hm⟩, fun D nD => ?_⟩
    refine lc_filter (i := 4) (fun c => decide (h < c)) (by show 4 < 5; decide) hm nD hl (fun z H' Q' _ s2 q' => ⟨_, rfl, _, rfl, _, _, rfl, rfl, _, rfl, q'⟩) fun H' s2 hD => ?_
    have hup : (cs.filter fun c => decide (h < c)).head? = up cs h := head_filter
    revert hD hup
    generalize (cs.filter fun c => decide (h < c)) = as
    intro hD hup
    have c0 := fun (H2 : Hp) (q : Same H' H2) (n : Nat) (e : caseO (up cs h) y = n) => (show Q (.int (n : Nat)) H2 from e ▸ k H2 (s2.trans q))
    refine ⟨_, rfl, rfl, _, rfl, ?_⟩
    -- behind an empty list
    have sz : ∀ (H1 : Hp) (z : Addr), Same H' H1 → H1 z = none → Same H' (upd H1 z (.lst [])) := fun H1 z q n => q.trans (same_upd n)
    cases y with
    | none =>
      refine iteF ?_
      refine ⟨_, rfl, Nat.zero_le _, fun z nz => ?_⟩
      have q1 := sz _ _ (Same.refl H') nz
      obtain ⟨d, e, d1, d2, d3, d4, d5⟩ := eqD_nil (K := K) (SqL.of (q1 _ _ hD)) (SqL.of (upd_same (H := H') (a := z) (o := .lst [])))
      refine ⟨d, e, d1, d2, d3, d4, _, rfl, ?_⟩
      rw [d5]
      cases as with
      | nil => exact iteF (c0 _ q1 2 rfl)
      | cons a as => exact iteT ⟨_, rfl, _, rfl, D, _, 0, _, rfl, rfl, SqL.of (q1 _ _ hD), atI_nat (j := 0) rfl, rfl, _, rfl, iteF (c0 _ q1 2 rfl)⟩
    | some v =>
      refine iteT ?_
      refine ⟨_, rfl, Nat.zero_le _, fun z nz => ?_⟩
      have q1 := sz _ _ (Same.refl H') nz
      obtain ⟨d, e, d1, d2, d3, d4, d5⟩ := eqD_nil (K := K) (SqL.of (q1 _ _ hD)) (SqL.of (upd_same (H := H') (a := z) (o := .lst [])))
      refine ⟨d, e, d1, d2, d3, d4, _, rfl, ?_⟩
      rw [d5]
      cases as with
      | nil =>
        rw [List.head?_nil] at hup
        exact iteT (iteT (c0 _ q1 0 (by rw [← hup]; rfl)))
      | cons a as =>
        rw [List.head?_cons] at hup
        refine iteF ⟨_, rfl, _, rfl, D, _, 0, _, rfl, rfl, SqL.of (q1 _ _ hD), atI_nat (j := 0) rfl, v, a, rfl, rfl, _, rfl, ?_⟩
        refine ite2 (fun hc => ?_) (fun hc => ?_)
        · have hc : v < a := by simpa using hc
          exact c0 _ q1 0 (by rw [← hup]; simp [caseO, hc])
        · have hc : ¬ v < a := by simpa using hc
          refine ⟨_, rfl, Nat.zero_le _, fun z2 nz2 => ?_⟩
          have q2 := sz _ _ q1 nz2
          obtain ⟨d, e, d1, d2, d3, d4, d5⟩ := eqD_nil (K := K) (SqL.of (q2 _ _ hD)) (SqL.of (upd_same (a := z2) (o := .lst [])))
          refine ⟨d, e, d1, d2, d3, d4, _, rfl, ?_⟩
          rw [d5]
          refine iteT ⟨_, rfl, _, rfl, D, _, 0, _, rfl, rfl, SqL.of (q2 _ _ hD), atI_nat (j := 0) rfl, rfl, _, rfl, ?_⟩
          refine ite2 (fun hv => ?_) (fun hv => ?_)
          · have hv : v = a := by simpa [oV] using hv
            exact c0 _ q2 1 (by rw [← hup]; simp [caseO, hc, hv])
          · have hv : v ≠ a := by simpa [oV] using hv
            exact c0 _ q2 2 (by rw [← hup]; simp [caseO, hc, hv])
abbrev sMoved : Stmt := topS 37
theorem scMoved : FnScope ["_law_plan_here", "_law_phase", "_law_here", "_law_come", "_law_move", "_law_late", "_law_ahead", "_law_cut"] ["_law_plan_here", "_law_phase", "_law_here", "_law_come"] (defScope sMoved) := ⟨rfl, rfl, rfl, by decide +kernel, rfl, by decide +kernel, by decide +kernel⟩
def spMoved : Sp := fun vs H Q _ => ∃ (R : Rule) (r : Addr) (p : Nat) (h : Int) (y : Option Int), vs = [.ref r, .int (p : Nat), .int h, oV y] ∧ RuleAt R H r ∧ p < R.ph.length ∧
  ∀ H' t, Same H H' → H' t = some (.tup [.int ((movedP R p h y).1 : Nat), oV (movedP R p h y).2]) → Q (.ref t) H'
theorem case_lt (u y : Option Int) : caseO u y < 3 := by
  unfold caseO
  cases y with
  | none => exact (by decide : 2 < 3)
  | some v => cases u with
    | none => exact (by decide : 0 < 3)
    | some m =>
      show (if v < m then 0 else if v = m then 1 else 2) < 3
      split
      · decide
      · split <;> decide
def atL (y : Option Int) (c : Int) : Bool := match y with
  | none => false
  | some v => decide (v ≤ c)
theorem bind_filter (cs : List Int) (y : Option Int) : (cs.filter (atL y)).head? = y.bind (ceil cs) := by
  rw [List.head?_filter]
  cases y with
  | none => exact List.find?_eq_none.mpr fun _ _ => by simp [atL]
  | some v => rfl
theorem ok_moved (F : Fun K "_law_moved" "_law_moved" sMoved f fd) (cC : Cal P w K mg base 1 "_law_case" ["_law_cuts_here", "_law_here", "_law_come"] spCase) : FnOk P w K mg base CX0 2 f fd ["_law_plan_here", "_law_phase", "_law_here", "_law_come"] spMoved := by
  refine F.ok scMoved (fun vs H Q E h => ?_) (fun cdv A outer s H vs Q E hr h => ?_)
  · obtain ⟨R, r, p, h, y, rfl, _⟩ := h
    rfl
  · obtain ⟨R, r, p, h, y, rfl, RA, hp, k⟩ := h
    have hu := hu_of hr
    refine ⟨_, pss_cons (ps_asg (pe_ix ix_tup (pe_ix ix_tup (pe_ix ix_tup (pv 0) pe_int (fun _ _ => rfl)) (pv 1) (fun _ _ => rfl)) (pe_cal cC hr (pa_cons (pe_ix ix_tup (pv 0) pe_int (fun _ _ => rfl)) (pa_cons (pv 2) (pa_cons (pv 3) pa_nil)))) (fun _ _ => rfl))
            (pg_tup rfl (pgs_cons (pg_name (i := 4) scMoved.nd rfl (.inl rfl)) (pgs_cons (pg_name (i := 5) scMoved.nd rfl (.inl rfl)) pgs_nil))))
      (pss_cons (ps_if (pt_cmpR op_eq (pv 4) pe_str (nomark _)) (pss_one (ps_ret (pe_tup (pa_cons (pv 5) (pa_cons (pv 3) pa_nil))))) pss_nil)
      (pss_cons (ps_if (pt_cmpR op_eq (pv 4) pe_str (nomark _)) (pss_one (ps_ret (pe_tup (pa_cons (pv 5) (pa_cons (pv 2) pa_nil))))) pss_nil)
      (pss_cons (ps_setLc (i := 6) (own := [("_law_cut", 7)]) (g := gName 7) (by rfl) scMoved.nd rfl rfl (sw_true rfl rfl rfl (by decide +kernel)) (pi_tup (pe_ix ix_tup (pv 0) pe_int (fun _ _ => rfl)))
          (blkOk_by (own := [("_law_cut", 7)]) (N := ["_law_plan_here", "_law_phase", "_law_here", "_law_come", "_law_move", "_law_late", "_law_ahead", "_law_cut"]) (sc := defScope sMoved) (by decide +kernel)) (fun _ _ _ _ _ => pg_name (i := 7) scMoved.nd rfl (Or.inl rfl))
          (fun _ _ _ _ _ => pts_one (PW.pt (pw_and (pt_cmpR op_notN (pv 3) pe_non (nomark _)) (pw_and1 (pt_cmpR op_ge (pv 7) (pv 3) (nomark _)))))) (fun _ _ _ _ _ => pv 7))
      (pss_one (ps_ret (pe_tup (pa_cons (pv 5) (pa_cons (pe_ifExp (PW.pt (pw_and (pt_cmpR op_eq (pv 4) pe_str (nomark _)) (pw_and1 (pt_cmpR (op_neD hr.units) (pv 6) (pe_lst pa_nil) (nomark _)))))
        (pe_ix ix_list (pv 6) pe_int (fun _ _ => rfl)) pe_non) pa_nil)))))))), ?_⟩
    obtain ⟨am, ap, h1, h2, h3⟩ := RA.adr
    obtain ⟨xs, b, ys, d, a1, a2, a3, a4, a5⟩ := h3.get RA.good hp (case_lt (up R.cuts h) y)
    refine ⟨_, rfl, r, _, 1, _, rfl, rfl, SqT.of h1, atI_nat (j := 1) rfl, _, rfl, ap, _, _, _, rfl, rfl, SqT.of a1, atI_nat a2, ?_⟩
    refine ⟨_, rfl, r, _, 0, _, rfl, rfl, SqT.of h1, atI_nat (j := 0) rfl, _, rfl, _, rfl, am, R.cuts, h, y, rfl, h2, by have := RA.good.two; omega, fun H1 s1 => ?_⟩
    refine ⟨b, _, _, _, rfl, rfl, SqT.of (s1 _ _ a3), atI_nat a4, d, _, rfl, SqT.of (s1 _ _ a5), rfl, _, _, rfl, _, _, rfl, rfl, ?_⟩
    have hmv : movedP R p h y = (match R.pr p (caseO (up R.cuts h) y) with
      | (.take, q) => (q, y) | (.wait, q) => (q, some h) | (.next, q) => (q, y.bind (ceil R.cuts)) | (.out, q) => (q, none)) := rfl
    revert hmv k
    generalize R.pr p (caseO (up R.cuts h) y) = pr
    obtain ⟨mv, q⟩ := pr
    intro k hmv
    refine ⟨_, rfl, rfl, _, rfl, ?_⟩
    rw [mv_take]
    refine ite2 (fun hc => ?_) (fun hc => ?_)
    · have e : mv = .take := by simpa using hc
      subst e
      refine ⟨_, rfl, _, rfl, by show 2 ≤ sizeLine; decide, fun t nt => k _ t (s1.trans (same_upd nt)) (by rw [upd_same, hmv])⟩
    have n1 : mv ≠ .take := by simpa using hc
    refine ⟨_, rfl, rfl, _, rfl, ?_⟩
    rw [mv_wait]
    refine ite2 (fun hc => ?_) (fun hc => ?_)
    · have e : mv = .wait := by simpa using hc
      subst e
      refine ⟨_, rfl, _, rfl, by show 2 ≤ sizeLine; decide, fun t nt => k _ t (s1.trans (same_upd nt)) (by rw [upd_same, hmv]; rfl)⟩
    have n2 : mv ≠ .wait := by simpa using hc
    refine ⟨_, rfl, r, _, 0, _, rfl, rfl, SqT.of (s1 _ _ h1), atI_nat (j := 0) rfl, am, rfl, ⟨_, SqT.of (s1 _ _ h2)⟩, fun D nD => ?_⟩
    refine lc_filter (i := 7) (atL y) (by show 7 < 8; decide) (s1 _ _ h2) nD (by have := RA.good.two; omega) (fun z H' Q' _ s2 q' => ?_) fun H' s2 hD => ?_
    · refine ⟨_, rfl, rfl, _, rfl, ?_⟩
      cases y with
      | none => exact iteF q'
      | some v => exact iteT ⟨_, rfl, _, rfl, z, v, rfl, rfl, _, rfl, q'⟩
    · have hup := bind_filter R.cuts y
      revert hD hup
      generalize R.cuts.filter (atL y) = as
      intro hD hup
      have s3 := s1.trans s2
      refine ⟨_, rfl, ?_⟩
      refine ⟨_, rfl, rfl, _, rfl, ?_⟩
      rw [mv_next]
      refine ite2 (fun hc => ?_) (fun hc => ?_)
      · have e : mv = .next := by simpa using hc
        subst e
        refine ⟨_, rfl, Nat.zero_le _, fun z nz => ?_⟩
        have q1 : Same H' (upd H' z (.lst [])) := same_upd nz
        obtain ⟨d, e, d1, d2, d3, d4, d5⟩ := eqD_nil (K := K) (SqL.of (q1 _ _ hD)) (SqL.of (upd_same (H := H') (a := z) (o := .lst [])))
        refine ⟨d, e, d1, d2, d3, d4, _, rfl, ?_⟩
        rw [d5]
        cases as with
        | nil => exact iteF ⟨by show 2 ≤ sizeLine; decide, fun t nt => k _ t ((s3.trans q1).trans (same_upd nt)) (by rw [upd_same, hmv, ← hup]; rfl)⟩
        | cons a as => exact iteT ⟨_, rfl, D, _, 0, _, rfl, rfl, SqL.of (q1 _ _ hD), atI_nat (j := 0) rfl, by show 2 ≤ sizeLine; decide, fun t nt => k _ t ((s3.trans q1).trans (same_upd nt)) (by rw [upd_same, hmv, ← hup]; rfl)⟩
      · have e : mv = .out := by cases mv <;> simp_all
        subst e
        exact iteF ⟨by show 2 ≤ sizeLine; decide, fun t nt => k _ t (s3.trans (same_upd nt)) (by rw [upd_same, hmv]; rfl)⟩
end
end K37
set_option Elab.async false
set_option linter.all false
set_option maxRecDepth 100000
/-! The law's own net: things, beyond, follow, best. -/
namespace K37
open PySem PySem.Spec PyProof.Rows L2
def nodeV (x : Node) : List V := [.int (x.1 : Nat), .int x.2.1, oV x.2.2]
def NodeO (H : Hp) (v : V) : Option Node → Prop
  | none => v = .non
  | some z => ∃ t, v = .ref t ∧ H t = some (.tup (nodeV z))
abbrev sThings : Stmt := topS 38
abbrev sBeyond : Stmt := topS 39
abbrev sFollow : Stmt := topS 40
abbrev sLBest : Stmt := topS 43
theorem scThings : FnScope ["_law_node", "_law_edge", "_law_phase", "_law_here", "_law_last", "_law_low"] ["_law_node", "_law_edge"] (defScope sThings) := ⟨rfl, rfl, rfl, by decide +kernel, rfl, by decide +kernel, by decide +kernel⟩
theorem scBeyond : FnScope ["_law_plan_here", "_law_start_here"] ["_law_plan_here", "_law_start_here"] (defScope sBeyond) := ⟨rfl, rfl, rfl, by decide +kernel, rfl, by decide +kernel, by decide +kernel⟩
theorem scFollow : FnScope ["_law_plan_here", "_law_node", "_law_come", "_law_outer", "_law_phase", "_law_here", "_law_last", "_law_late", "_law_end"] ["_law_plan_here", "_law_node", "_law_come", "_law_outer"] (defScope sFollow) := ⟨rfl, rfl, rfl, by decide +kernel, rfl, by decide +kernel, by decide +kernel⟩
theorem scLBest : FnScope ["_law_values"] ["_law_values"] (defScope sLBest) := ⟨rfl, rfl, rfl, by decide +kernel, rfl, by decide +kernel, by decide +kernel⟩
def spThings : Sp := fun vs H Q _ => ∃ (nd : Addr) (x : Node) (g : Int), vs = [.ref nd, .int g] ∧ H nd = some (.tup (nodeV x)) ∧ -1000 ≤ x.2.1 ∧ x.2.1 ≤ 1000 ∧ (∀ l, x.2.2 = some l → l ≤ 1000) ∧ -1000 ≤ g ∧ g ≤ 1000 ∧
  ∀ H' l, Same H H' → H l = none → H' l = some (.lst ((things x g).map oV)) → Q (.ref l) H'
/-- the outermost end of a plan -/
def outerOf (R : Rule) (s : Int) : Int := R.cuts.getLast?.getD s
def spBeyond : Sp := fun vs H Q _ => ∃ (R : Rule) (r : Addr) (s : Int), vs = [.ref r, .int s] ∧ RuleAt R H r ∧ ∀ H', Same H H' → Q (.int (outerOf R s)) H'
def spFollow : Sp := fun vs H Q _ => ∃ (R : Rule) (r nd : Addr) (x : Node) (y : Option Int) (o : Int), vs = [.ref r, .ref nd, oV y, .int o] ∧ RuleAt R H r ∧ H nd = some (.tup (nodeV x)) ∧ x.1 < R.ph.length ∧
  ∀ H' v, Same H H' → NodeO H' v (follow R o x y) → Q v H'
theorem rgV_rng (a b : Int) : rgV a b = (rng a b).map V.int := by
  unfold rgV rng
  rw [List.map_map]; rfl
section
variable {P : Program} {w : World} {K : PySem.W.Frag} {mg : Str → Option Value} {base : Heap} {f C : Addr} {fd : FuncData}
theorem ok_lbest (F : Fun K "_law_best" "_law_best" sLBest f fd) (mm : mg "max" = none) : FnOk P w K mg base CX0 1 f fd ["_law_values"] spGreat := by
  refine F.ok scLBest (fun vs H Q E h => ?_) (fun cdv A outer s H vs Q E hr h => ?_)
  · obtain ⟨a, xs, rfl, _⟩ := h
    rfl
  · obtain ⟨a, xs, rfl, ha, hne, q⟩ := h
    refine ⟨_, pss_one (ps_ret (pe_ifExp (pt_cmpR op_in_seq pe_non (pv 0) (by rfl)) pe_non (pe_callB (cr_max rfl) (by rfl) mm (by decide +kernel) (pa_cons (pv 0) pa_nil)))), ?_⟩
    refine ⟨_, rfl, a, xs.map oV, rfl, .inl (SqL.of ha), rfl, oV_all xs, _, rfl, ?_⟩
    show if (if false = true then _ else inV .non (xs.map oV)) = true then _ else _
    rw [if_neg Bool.false_ne_true, inV_non]
    by_cases hn : none ∈ xs
    · rw [if_pos (by simpa using hn)]
      rw [greatI_none hn] at q
      exact q
    · rw [if_neg (by simpa using hn)]
      obtain ⟨ns, rfl⟩ := all_some hn
      have e : (ns.map some).map oV = ns.map V.int := by rw [List.map_map]; rfl
      rw [e] at ha
      have hl : 0 < ns.length := by
        cases ns with
        | nil => exact absurd rfl hne
        | cons _ _ => simp
      refine ⟨_, rfl, a, ns, rfl, SqL.of ha, hl, fun m hm hle => ?_⟩
      rw [greatI_some hm hle] at q
      exact q
theorem ok_beyond (F : Fun K "_law_beyond" "_law_beyond" sBeyond f fd) : FnOk P w K mg base CX0 1 f fd ["_law_plan_here", "_law_start_here"] spBeyond := by
  refine F.ok scBeyond (fun vs H Q E h => ?_) (fun cdv A outer s H vs Q E hr h => ?_)
  · obtain ⟨R, r, s, rfl, _⟩ := h
    rfl
  · obtain ⟨R, r, s, rfl, RA, k⟩ := h
    refine ⟨_, pss_one (ps_ret (pe_ifExp (pt_cmpR (op_neD hr.units) (pe_ix ix_tup (pv 0) pe_int (fun _ _ => rfl)) (pe_tup pa_nil) (nomark _))
      (pe_ix ix_tup (pe_ix ix_tup (pv 0) pe_int (fun _ _ => rfl)) (pe_un un_neg pe_int) (fun _ _ => rfl)) (pv 1))), ?_⟩
    obtain ⟨am, ap, h1, h2, h3⟩ := RA.adr
    refine ⟨_, rfl, r, _, 0, _, rfl, rfl, SqT.of h1, atI_nat (j := 0) rfl, Nat.zero_le _, fun z nz => ?_⟩
    have q1 : Same H (upd H z (.tup [])) := same_upd nz
    obtain ⟨d, e, d1, d2, d3, d4, d5⟩ := eqT_nil (K := K) (SqT.of (q1 _ _ h2)) (SqT.of (upd_same (H := H) (a := z) (o := .tup [])))
    refine ⟨d, e, d1, d2, d3, d4, _, rfl, ?_⟩
    rw [d5]
    have k1 := k _ q1
    unfold outerOf at k1
    rcases List.eq_nil_or_concat R.cuts with hc | ⟨l, a, hc⟩
    · rw [hc] at k1 ⊢
      exact iteF ⟨_, rfl, k1⟩
    · rw [List.concat_eq_append] at hc
      rw [hc] at k1 h2 ⊢
      rw [List.getLast?_append] at k1
      rw [decide_eq_false (by simp)]
      refine iteT ⟨_, rfl, r, _, 0, _, rfl, rfl, SqT.of (q1 _ _ h1), atI_nat (j := 0) rfl, 1, rfl, am, _, -1, .int a, rfl, rfl, SqT.of (q1 _ _ h2), ?_, k1⟩
      rw [List.map_append]
      exact atI_last _ _
theorem ok_things (F : Fun K "_law_things" "_law_things" sThings f fd) (ml : mg "list" = none) (mr : mg "range" = none) : FnOk P w K mg base CX0 1 f fd ["_law_node", "_law_edge"] spThings := by
  refine F.ok scThings (fun vs H Q E h => ?_) (fun cdv A outer s H vs Q E hr h => ?_)
  · obtain ⟨nd, x, g, rfl, _⟩ := h
    rfl
  · obtain ⟨nd, x, g, rfl, hn, b1, b2, b3, b4, b5, k⟩ := h
    obtain ⟨p, h, l⟩ := x
    refine ⟨_, pss_cons (ps_asg (pv 0) (pg_tup rfl (pgs_cons (pg_name (i := 2) scThings.nd rfl (.inl rfl)) (pgs_cons (pg_name (i := 3) scThings.nd rfl (.inl rfl)) (pgs_cons (pg_name (i := 4) scThings.nd rfl (.inl rfl)) pgs_nil)))))
      (pss_cons (ps_if (pt_cmpR op_isN (pv 4) pe_non (nomark _)) (pss_one (ps_ret (pe_lst (pa_cons pe_non pa_nil)))) pss_nil)
      (C8.pss_cut (ps_set (i := 5) scThings.nd rfl (Or.inl rfl) (pe_ifExp (pt_cmpR op_gt (pv 4) (pv 3) (nomark _)) (pv 4) (pe_op op_add (pv 3) pe_int)))
      (pss_one (ps_ret (pe_op op_cat (pe_listRg rfl (by rfl) ml (prg_2 (by rfl) mr (pv 5) (pe_op op_add (pv 1) pe_int))) (pe_lst (pa_cons pe_non pa_nil))))))), ?_⟩
    refine ⟨_, rfl, nd, _, rfl, SqT.of hn, rfl, _, _, rfl, _, _, rfl, _, _, rfl, rfl, ?_⟩
    refine ⟨_, rfl, rfl, _, rfl, ?_⟩
    cases l with
    | none => exact iteT ⟨by show 1 ≤ sizeLine; decide, fun t nt => k _ t (same_upd nt) nt upd_same⟩
    | some l =>
      have b3 : l ≤ 1000 := b3 l rfl
      have b1 : -1000 ≤ h := b1
      have b2 : h ≤ 1000 := b2
      refine iteF ⟨fun σ H' => ∃ low : Int, σ = [some (.ref nd), some (.int g), some (.int (p : Nat)), some (.int h), some (.int l), some (.int low)] ∧ H' = H ∧ lowOf (p, h, some l) = some low ∧ -1000 ≤ low ∧ low ≤ 1001,
        ⟨_, rfl, _, rfl, l, h, rfl, rfl, _, rfl, ?_⟩, ?_⟩
      · refine ite2 (fun hc => ?_) (fun hc => ?_)
        · have hc : h < l := by simpa using hc
          exact ⟨_, rfl, l, rfl, rfl, by simp [lowOf, hc], by omega, by omega⟩
        · have hc : ¬ h < l := by simpa using hc
          exact ⟨_, rfl, h, 1, rfl, rfl, h + 1, rfl, rfl, by simp [lowOf, hc], by omega, by omega⟩
      · rintro σ H1 ⟨low, rfl, rfl, hlow, c1, c2⟩
        refine ⟨_, rfl, _, rfl, g, 1, rfl, rfl, low, g + 1, rfl, rfl, ⟨by omega, by omega, by omega, by omega, by omega⟩, fun q nq => ?_⟩
        have s1 : Same H1 (upd H1 q (.lst (rgV low (g + 1)))) := same_upd nq
        refine ⟨by show 1 ≤ sizeLine; decide, fun z nz => ?_⟩
        have s2 := s1.trans (same_upd (o := .lst [.non]) nz)
        have qz : q ≠ z := ne_of_none upd_same nz
        refine ⟨q, z, _, _, rfl, rfl, by rw [upd_ne qz, upd_same], upd_same, ?_, fun r nr => ?_⟩
        · rw [rgV_length]
          have : 3000 + 1 ≤ sizeLine := by decide
          show _ + 1 ≤ sizeLine
          omega
        · refine k _ r (s2.trans (same_upd nr)) (s2.free nr) ?_
          rw [upd_same, rgV_rng]
          unfold things
          rw [hlow, List.map_append, List.map_map]; rfl
theorem ok_follow (F : Fun K "_law_follow" "_law_follow" sFollow f fd) (cM : Cal P w K mg base 2 "_law_moved" ["_law_plan_here", "_law_phase", "_law_here", "_law_come"] spMoved) (mn : mg "min" = none) :
    FnOk P w K mg base CX0 3 f fd ["_law_plan_here", "_law_node", "_law_come", "_law_outer"] spFollow := by
  refine F.ok scFollow (fun vs H Q E h => ?_) (fun cdv A outer s H vs Q E hr h => ?_)
  · obtain ⟨R, r, nd, x, y, o, rfl, _⟩ := h
    rfl
  · obtain ⟨R, r, nd, x, y, o, rfl, RA, hn, hp, k⟩ := h
    obtain ⟨p, h, l⟩ := x
    refine ⟨_, pss_cons (ps_asg (pv 1) (pg_tup rfl (pgs_cons (pg_name (i := 4) scFollow.nd rfl (.inl rfl)) (pgs_cons (pg_name (i := 5) scFollow.nd rfl (.inl rfl)) (pgs_cons (pg_name (i := 6) scFollow.nd rfl (.inl rfl)) pgs_nil)))))
      (pss_cons (ps_asg (pe_cal cM hr (pa_cons (pv 0) (pa_cons (pv 4) (pa_cons (pv 5) (pa_cons (pv 2) pa_nil))))) (pg_tup rfl (pgs_cons (pg_name (i := 7) scFollow.nd rfl (.inl rfl)) (pgs_cons (pg_name (i := 8) scFollow.nd rfl (.inl rfl)) pgs_nil))))
      (pss_cons (ps_if (pt_cmpR op_isN (pv 8) pe_non (nomark _)) (pss_one (ps_ret pe_non)) pss_nil)
      (pss_cons (ps_if (pt_cmpR op_eq (pv 8) (pv 5) (nomark _)) (pss_one (ps_ret (pe_tup (pa_cons (pv 7) (pa_cons (pv 5) (pa_cons (pv 2) pa_nil)))))) pss_nil)
      (pss_one (ps_ret (pe_tup (pa_cons (pv 7) (pa_cons (pe_callB (call_min2 rfl) (by rfl) mn (by decide +kernel) (pa_cons (pv 8) (pa_cons (pv 3) pa_nil))) (pa_cons (pe_callB (call_min2 rfl) (by rfl) mn (by decide +kernel) (pa_cons (pv 8) (pa_cons (pv 3) pa_nil))) pa_nil))))))))), ?_⟩
    refine ⟨_, rfl, nd, _, rfl, SqT.of hn, rfl, _, _, rfl, _, _, rfl, _, _, rfl, rfl, ?_⟩
    refine ⟨_, rfl, _, rfl, _, rfl, _, rfl, R, r, p, h, y, rfl, RA, hp, fun H1 t s1 ht => ?_⟩
    refine ⟨t, _, rfl, SqT.of ht, rfl, _, _, rfl, _, _, rfl, rfl, ?_⟩
    have hk : K37.follow R o (p, h, l) y = (match (movedP R p h y).2 with
      | none => none
      | some e => some (if e = h then ((movedP R p h y).1, h, y) else ((movedP R p h y).1, min e o, some (min e o)))) := rfl
    revert hk
    generalize movedP R p h y = mp
    obtain ⟨q, e⟩ := mp
    intro hk
    refine ⟨_, rfl, rfl, _, rfl, ?_⟩
    cases e with
    | none => exact iteT (k H1 .non s1 (by rw [hk]; rfl))
    | some e =>
      refine iteF ⟨_, rfl, _, rfl, rfl, _, rfl, ?_⟩
      refine ite2 (fun hc => ?_) (fun hc => ?_)
      · have hc : e = h := by simpa [oV] using hc
        refine ⟨_, rfl, _, rfl, _, rfl, by show 3 ≤ sizeLine; decide, fun t2 nt => k _ _ (s1.trans (same_upd nt)) ?_⟩
        rw [hk]
        simp only [hc, if_true]
        exact ⟨t2, rfl, by rw [upd_same]; rfl⟩
      · have hc : e ≠ h := by simpa [oV] using hc
        refine ⟨_, rfl, _, rfl, _, rfl, e, o, rfl, _, rfl, _, rfl, e, o, rfl, by show 3 ≤ sizeLine; decide, fun t2 nt => k _ _ (s1.trans (same_upd nt)) ?_⟩
        rw [hk]
        simp only [hc, if_false]
        have hmin : (if o < e then o else e) = min e o := by
          split <;> omega
        exact ⟨t2, rfl, by rw [upd_same, hmin]; rfl⟩
end
end K37
set_option Elab.async false
set_option linter.all false
set_option maxRecDepth 100000
/-! set(list of ints); {t: v}. -/
namespace K37
open PySem PySem.Spec PyProof.Rows L2
/-- an empty set as it is made -/
abbrev obS (w : World) : Obj := { cls := .type "set", dict := none, data := .set #[] 0 (.fresh 0 0 (!w.params.followText "set-order")) }
section
variable {P : Program} {w : World} {A : Around} {E : Value → Shared → Prop} {s : Shared}
set_option maxHeartbeats 4000000 in
theorem set_of_ints {l : Addr} {vs : Array Value} (ns : List Int) {Q : Value → Shared → Prop} (hA : A.handled = none) (hL : s.heap.IsList l vs) (hv : IntsAre vs.toList ns) (hb : ns.length + 1 < scanBound)
    (fin : ∀ (g : Heap) (tk c : Nat), SetR w g s.heap.objs.size (fun j => decide (j ∈ ns)) c → c ≤ ns.length → (∀ b o, s.heap.get? b = some o → g.get? b = some o) → Q (.ref s.heap.objs.size) { s with heap := g, toks := tk }) :
    wpAny (model P w) A (call (.type "set") [.ref l]) Q E s := by
  have vsz : vs.size = ns.length := by rw [← hv.length, Array.length_toList]
  obtain ⟨c, tl, hmro⟩ := F.called_set.mro; have hmade := F.called_set.made; have hsub := F.called_set.sub
  refine wpAny_call (codeAny_of_tree ?_); show wpAny _ _ (callAny (.type "set") _) _ _ _
  refine wpAny_pure ⟨Code.quiet_builtin _ (by decide +kernel), codeAny_builtin F.entry_type_call ?_⟩; rw [Around.under_plain (weight_type_call_type "set" [.ref l] []) rfl]
  have h1 := F.called_set.notType; have h2 := F.called_set.canCreate; have h3 := F.typeCall_set_1 (.ref l)
  repeat (any_goals (first | assumption | wp_step))
  refine codeAny_mono (code_set_led1 (.ref l) (E := E) (Q₁ := fun ob s₁ => ob = .ref s.heap.objs.size ∧ s₁ = { s with heap := s.heap.push (obS w) }) ⟨rfl, rfl⟩) fun r s₁ hr => ?_
  cases r with
  | error e => exact hr
  | ok fl => cases fl with
    | ret ob =>
      obtain ⟨rfl, rfl⟩ := hr
      have gS : (s.heap.push (obS w)).get? s.heap.objs.size = some (obS w) := Heap.get?_push_size _ rfl
      have tS : Shared.TypeIs { s with heap := s.heap.push (obS w) } (.ref s.heap.objs.size) "set" := ⟨_, gS, rfl⟩
      have i1 := F.called_set.init.lookup; have i2 := F.called_set.init.bind (.ref s.heap.objs.size)
      repeat (any_goals (first | assumption | wp_step))
      refine codeAny_mono (codeAny_call_builtin (R := wants (fun r s₂ => r = .none ∧ ∃ g tk c, s₂ = { s with heap := g, toks := tk } ∧ SetR w g s.heap.objs.size (fun j => decide (j ∈ ns)) c ∧ c ≤ ns.length ∧ (∀ b o, s.heap.get? b = some o → g.get? b = some o)) E)
        F.called_set.init.plain F.entry_set_init (check_set_init_1 tS ?_)) fun r₂ s₂ hr₂ => ?_
      · obtain ⟨⟨oc, od, oD, os⟩, hol, hcl, nl, hdl⟩ := hL
        simp only at hcl hdl
        subst hcl; subst hdl
        have gl : (s.heap.push (obS w)).get? l = some { cls := .type "list", dict := od, data := .seq vs nl, slots := os } := Heap.get?_push_of_some _ hol
        have j1 := F.sub_list_set; have j2 := F.sub_list_frozenset; have j3 : (Value.type "list" == Value.type "dict") = false := by decide
        have hL1 : (s.heap.push (obS w)).IsList l vs := ⟨_, gl, rfl, nl, rfl⟩
        unfold Builtin.«set.__init__» noKeywords Builtin.Frozenset.updateFrom; generalize hPI : pyIter = PI; wp_walk; subst hPI
        refine wpAny_pyIter_list hL1 (wpAny_bind (wpAny_runValue ?_))
        have ls : l < s.heap.objs.size := Heap.lt_size hol
        have n1 : l ≠ (s.heap.push (obS w)).objs.size := fun e => Nat.ne_of_lt (Nat.lt_succ_of_lt ls) (e.trans (Heap.size_push ..))
        have n2 : s.heap.objs.size ∉ [(s.heap.push (obS w)).objs.size, l] := by
          intro hm
          rcases List.mem_cons.mp hm with e | hm
          · exact Nat.ne_of_lt (Nat.lt_succ_self _) (e.trans (Heap.size_push ..))
          · exact Nat.ne_of_gt ls (List.mem_singleton.mp hm)
        have val : ∀ (i : Nat) (v : Value), vs[i]? = some v → ∃ k t, ns[i]? = some k ∧ v = .int k t := fun i v e => by
          have hi : i < ns.length := by rw [← vsz]; exact (Array.getElem?_eq_some_iff.mp e).1
          obtain ⟨t, q⟩ := PyProof.Rows.IntsAre.int_at hv i v (by rw [Array.getElem?_toList]; exact e)
          exact ⟨ns[i], t, List.getElem?_eq_getElem hi, by rw [q, List.getD_eq_getElem?_getD, List.getElem?_eq_getElem hi] <;> rfl⟩
        refine set_update_ints ((Walks.list (A := A.in1.in1.in1) (by simp [hA]) _ l n1 vs).toS) s.heap.objs.size n2 ns vsz hb val (vs.size - 0) 0 _ (by omega) (Nat.zero_le _) ⟨⟨_, Heap.get?_push_size _ rfl, rfl, rfl⟩, (hL1.push _)⟩ ?c1 ?c2
        case c1 =>
          have gs2 : ((s.heap.push (obS w)).push { cls := .type "list_iterator", data := .fields #[.ref l, .int 0 0] }).get? s.heap.objs.size = some (obS w) := Heap.get?_push_of_some _ gS
          exact ⟨0, Nat.le_refl 0, setR_new_at gs2⟩
        case c2 =>
          intro t c hm hc hS
          obtain ⟨g, gg, gd, gt, go⟩ := t
          obtain rfl : gg = s.gens := hm.gens
          obtain rfl : gd = s.drawn := hm.drawn
          obtain rfl : go = s.os := hm.os
          show wpAny _ _ _ _ _ _; refine wpAny_pure ?_; show wpAny _ _ (ret Value.none) _ _ _
          rw [vsz] at hc
          refine wpAny_pure ⟨rfl, g, gt, c, rfl, hS, hc, fun b o e => ?_⟩
          have hb0 : b < s.heap.objs.size := Heap.lt_size e
          refine hm.heap b o (fun hm => ?_) (Heap.get?_push_of_some _ (Heap.get?_push_of_some _ e))
          rcases List.mem_cons.mp hm with e1 | hm
          · exact Nat.ne_of_lt hb0 e1
          · exact Nat.ne_of_lt (Nat.lt_succ_of_lt hb0) ((List.mem_singleton.mp hm).trans (Heap.size_push ..))
      · cases r₂ with
        | error e => exact hr₂
        | ok fl => cases fl with
          | ret r =>
            obtain ⟨rfl, g, tk, c, rfl, q1, q2, q3⟩ := hr₂
            repeat (any_goals (first | assumption | wp_step))
            exact fin _ _ _ q1 q2 q3
          | _ => exact hr₂.elim
    | _ => exact hr.elim
end
end K37
set_option Elab.async false
set_option linter.all false
set_option maxRecDepth 100000
/-! set(list of ints), {t: v} as rules. -/
namespace K37
open PySem PySem.Spec PyProof.Rows L2
def rSetL (w : World) : List V → Hp → VK → Prop := fun xs H Q => ∃ (l : Addr) (ns : List Int), xs = [V.ref l] ∧ H l = some (.lst (ns.map V.int)) ∧ ns.length ≤ 1000 ∧
  ∀ (p : Addr) (n : Nat), n ≤ ns.length → H p = none → Q (.ref p) (upd H p (SetO w p (fun j => decide (j ∈ ns)) n))
/-- {t: v}, t a tuple of ints and None -/
def tLOne (P : Program) (w : World) (ty tv : TE) : TE := fun σ H Q => ∀ p φ, H p = none → DL P w (upd H p (.ext φ)) p [] → ty σ (upd H p (.ext φ)) fun y H1 => tv σ H1 fun v H2 =>
  ∃ b k, y = .ref b ∧ H2 b = some (.tup (k.map lV)) ∧ DL P w H2 p [] ∧ ∀ ψ, DL P w (upd H2 p (.ext ψ)) p [(k, v)] → Q (.ref p) (upd H2 p (.ext ψ))
section
variable {X : Cx}
theorem cr_setL (hc : X.calm = true) : CallR X (.type "set") (rSetL X.w) := by
  intro pins s σ H xs us Q I r h
  obtain ⟨l, ns, rfl, hl, hn, q⟩ := h
  obtain ⟨its, rv, hL, hz⟩ := I.list (SqL.of hl)
  rw [Vals.ref1 r]
  refine set_of_ints ns (I.ok.hd hc) hL.isList (by simpa using rv.ints) (Nat.lt_of_le_of_lt (Nat.succ_le_succ hn) (by decide : 1000 + 1 < scanBound)) fun g tk c hS hc2 hk => ?_
  exact ⟨.ref _, upd H s.heap.objs.size (SetO X.w s.heap.objs.size (fun j => decide (j ∈ ns)) c), I.laid (t' := tk) (fun b u e => hk b u e) (Nat.le_refl _) (setO_new hS), rfl, q _ _ hc2 (I.hok.fresh (Nat.le_refl _))⟩
variable {ke ve : Expr} {pos : Pos} {ty tv : TE}
theorem pe_lone (hu : X.A.units + 1 < cLine) (hk : PE X ke ty) (hv : PE X ve tv) : PE X (.Dict [some ke] [ve] pos) (tLOne X.prog X.w ty tv) := by
  refine ⟨fun pins s σ H Q I h => ?_⟩
  have hn := I.hok.fresh (Nat.le_refl s.heap.objs.size)
  have d := dl_fresh (P := X.prog) (w := X.w) s.heap I.big
  have I0 := I.laid (a := s.heap.objs.size) (o := .ext (DLp X.prog X.w s.heap.objs.size [])) (t' := s.toks) (fun _ _ q => Heap.get?_push_of_some _ q) (Nat.le_refl _) ⟨d, ⟨_, Heap.get?_push_size _ rfl⟩, fun h1 h2 => dl_stable⟩
  have q0 := h _ _ hn ⟨[], rfl, upd_same, fun x hx => by cases hx⟩
  rw [arm_eval_Dict]
  have e : (evalEachOpt [some ke] X.env).zip ((evalEach [ve] X.env).map fun v => do let x ← v; standAt pos; pure x) = [(eval ke X.env, do let x ← eval ve X.env; standAt pos; pure x)].map fun p => (some p.1, p.2) := rfl
  rw [e, dictDisplay_pairs [(eval ke X.env, do let x ← eval ve X.env; standAt pos; pure x)] (List.cons_ne_nil _ _) (by show 1 < 17; decide)]
  refine wpAny_bind (wpAny_standAt (wpAny_bind (wpAny_subDictH (knd := tupleKind (leafKind X.prog X.w)) (Q := fun d s' => wpAny (model X.prog X.w) X.A (pure (Value.ref d)) (EP X pins σ Q) X.xe s') (Nat.lt_of_succ_lt hu) (show 1 ≤ 15 by decide) ?_)))
  refine evalPairs_cons (thn (hk.run pins _ σ _ _ I0 q0) fun u s1 ⟨y, H1, I1, ry, q1⟩ => wpAny_bind (thn (hv.run pins s1 σ H1 _ I1 q1) fun r s2 ⟨v, H2, I2, rv, q2⟩ => wpAny_bind (wpAny_standAt (wpAny_pure (evalPairs_nil ?_)))))
  obtain ⟨b, k, rfl, hb, dp, q2⟩ := q2
  obtain rfl : u = Value.ref b := ry
  obtain ⟨xs, us, e1, rel, dd, hs, hz, hx, hxk⟩ := Inv.dl I2 dp
  have exs : xs = [] := by
    cases xs with
    | nil => rfl
    | cons a l => simp at e1
  subst exs
  cases rel
  refine ⟨[(k, b, r)], ⟨rfl, rfl, lkey_of I2.hok hb, True.intro⟩, dd, fun g tk dg hsb => wpAny_pure ?_⟩
  obtain ⟨o, es, ep, ho, h2, h3, h4, _, h5⟩ := dg
  have new : DLp X.prog X.w s.heap.objs.size [(k, b, v)] g := ⟨(show 1 ≤ sizeLine by decide), hs, _, Paired.cons ⟨rfl, rfl, rv⟩ .nil, o, es, ep, ho, h2, h3, h4, h5⟩
  have hbn : b ≠ s.heap.objs.size := fun z => by rw [z, hx] at hb; cases hb
  refine ⟨.ref s.heap.objs.size, _, d_write (ob := .ext (DLp X.prog X.w s.heap.objs.size [(k, b, v)])) I2 (by rw [hx]; exact True.intro) hsb ⟨o, ho⟩ ⟨new, ⟨o, ho⟩, fun h1 h2 => dl_stable⟩, rfl, q2 _ ⟨[(k, b, v)], rfl, upd_same, fun x hm => ?_⟩⟩
  rw [List.mem_singleton] at hm
  subst hm
  show upd H2 _ _ b = _
  rw [upd_ne hbn]
  exact hb
end
end K37
set_option Elab.async false
set_option linter.all false
set_option maxRecDepth 100000
/-! The law's own net. -/
namespace K37
open PySem PySem.Spec PyProof.Rows L2
def nk (x : Node) : LK := [.num (x.1 : Nat), .num x.2.1, oL x.2.2]
theorem nk_V (x : Node) : (nk x).map lV = nodeV x := by
  unfold nk nodeV
  rw [List.map_cons, List.map_cons, List.map_cons, lV_oL]; rfl
theorem nk_inj {x y : Node} (h : nk x = nk y) : x = y := by
  obtain ⟨p, a, l⟩ := x
  obtain ⟨q, b, m⟩ := y
  unfold nk at h
  injection h with h1 h2
  injection h2 with h2 h3
  injection h3 with h3 _
  injection h1 with h1
  injection h2 with h2
  have h1 : (p : Int) = (q : Int) := h1
  have h2 : a = b := h2
  have h4 : l = m := oL_inj h3
  have h5 : p = q := by omega
  subst h5; subst h2; subst h4; rfl
/-- the places of the nodes -/
def KN (nodes : List Node) (kvs : List (LK × V)) : Prop := ∀ x, valV kvs (nk x) = if x ∈ nodes then some (nV (nodes.idxOf x)) else none
theorem KN.put {nodes : List Node} {kvs : List (LK × V)} (h : KN nodes kvs) {z : Node} (hz : z ∉ nodes) : KN (nodes ++ [z]) (putK kvs (nk z) (nV nodes.length)) := by
  intro x
  rw [valV_put, h x]
  by_cases e : x = z
  · subst e
    rw [if_pos rfl, if_pos (by simp), List.idxOf_append, if_neg hz]
    simp
  · rw [if_neg fun q => e (nk_inj q)]
    by_cases hx : x ∈ nodes
    · rw [if_pos hx, if_pos (by simp [hx]), List.idxOf_append, if_pos hx]
    · rw [if_neg hx, if_neg (by simp [hx, e])]
/-- the net's things in the heap -/
structure NetH (P : Program) (w : World) (H0 H : Hp) (ln dk lo : Addr) (bs ps : List Addr) (nodes : List Node) (outs : List (List Nat)) : Prop where
  sm : Same H0 H
  n1 : H0 ln = none
  n2 : H0 dk = none
  n3 : H0 lo = none
  d1 : ln ≠ lo
  nl : H ln = some (.lst (bs.map V.ref))
  nb : Paired (fun b x => H b = some (.tup (nodeV x))) bs nodes
  kn : ∃ kvs, DL P w H dk kvs ∧ kvs.length ≤ nodes.length ∧ KN nodes kvs
  ou : H lo = some (.lst (ps.map V.ref))
  ob : Paired (fun p o => H p = some (.lst (o.map nV))) ps outs
  pn : ∀ p ∈ ps, p ≠ ln ∧ p ≠ lo
section
variable {P : Program} {w : World} {H0 H H' : Hp} {ln dk lo a : Addr} {bs ps : List Addr} {nodes : List Node} {outs : List (List Nat)}
theorem DL.isx {kvs : List (LK × V)} {d : Addr} (h : DL P w H d kvs) : ∃ φ, H d = some (.ext φ) := by
  obtain ⟨xs, _, hx, _⟩ := h
  exact ⟨_, hx⟩
theorem NetH.same (N : NetH P w H0 H ln dk lo bs ps nodes outs) (s : Same H H') : NetH P w H0 H' ln dk lo bs ps nodes outs :=
  ⟨N.sm.trans s, N.n1, N.n2, N.n3, N.d1, s _ _ N.nl, Paired.mapP N.nb fun _ _ h => s _ _ h, let ⟨k, h, q⟩ := N.kn; ⟨k, DL.same h s, q⟩, s _ _ N.ou, Paired.mapP N.ob fun _ _ h => s _ _ h, N.pn⟩
/-- a list that is not the net's is changed -/
theorem NetH.off (N : NetH P w H0 H ln dk lo bs ps nodes outs) {xs ys : List V} (ha : H a = some (.lst xs)) (h0 : H0 a = none) (e1 : a ≠ ln) (e2 : a ≠ lo) (e3 : a ∉ ps) : NetH P w H0 (upd H a (.lst ys)) ln dk lo bs ps nodes outs := by
  have nt : ∀ b zs, H b = some (.tup zs) → (upd H a (.lst ys)) b = some (.tup zs) := fun b zs h => by rw [upd_ne fun z => by rw [z, ha] at h; cases h]; exact h
  refine ⟨fun b o h => by rw [upd_ne (ne_of_none h h0)]; exact N.sm _ _ h, N.n1, N.n2, N.n3, N.d1, by rw [upd_ne e1.symm]; exact N.nl, Paired.mapP N.nb fun b x h => nt _ _ h, ?_, by rw [upd_ne e2.symm]; exact N.ou, ?_, N.pn⟩
  · obtain ⟨k, h, q⟩ := N.kn
    refine ⟨k, DL.stay h (fun o ho => ?_) nt, q⟩
    obtain ⟨φ, hφ⟩ := DL.isx h
    rw [upd_ne fun z => by rw [z, ha] at hφ; cases hφ]
    exact ho
  · have : ∀ {qs : List Addr} {os : List (List Nat)}, Paired (fun p o => H p = some (.lst (o.map nV))) qs os → (∀ p ∈ qs, p ≠ a) → Paired (fun p o => (upd H a (.lst ys)) p = some (.lst (o.map nV))) qs os := by
      intro qs os h
      induction h with
      | nil => exact fun _ => .nil
      | cons r t ih => exact fun hq => .cons (by rw [upd_ne (hq _ List.mem_cons_self)]; exact r) (ih fun p hp => hq p (List.mem_cons_of_mem _ hp))
    exact this N.ob fun p hp z => e3 (z ▸ hp)
theorem paired_upd {ys : List V} : ∀ {qs : List Addr} {os : List (List Nat)}, Paired (fun p o => H p = some (.lst (o.map nV))) qs os → (∀ p ∈ qs, p ≠ a) → Paired (fun p o => (upd H a (.lst ys)) p = some (.lst (o.map nV))) qs os := by
  intro qs os h
  induction h with
  | nil => exact fun _ => .nil
  | cons r t ih => exact fun hq => .cons (by rw [upd_ne (hq _ List.mem_cons_self)]; exact r) (ih fun p hp => hq p (List.mem_cons_of_mem _ hp))
/-- a node more: known, then nodes -/
theorem NetH.node (N : NetH P w H0 H ln dk lo bs ps nodes outs) {z : Node} {t : Addr} {φ : Heap → Prop} {kvs : List (LK × V)} (hz : z ∉ nodes) (ht : H t = some (.tup (nodeV z))) (hk : DL P w H dk kvs) (hl : kvs.length ≤ nodes.length) (hn : KN nodes kvs)
    (hd : DL P w (upd H dk (.ext φ)) dk (putK kvs (nk z) (nV nodes.length))) : NetH P w H0 (upd (upd H dk (.ext φ)) ln (.lst ((bs ++ [t]).map V.ref))) ln dk lo (bs ++ [t]) ps (nodes ++ [z]) outs := by
  obtain ⟨χ, hx⟩ := DL.isx hk
  have dl : dk ≠ ln := fun e => by rw [e, N.nl] at hx; cases hx
  have dlo : dk ≠ lo := fun e => by rw [e, N.ou] at hx; cases hx
  have st : ∀ b o, H b = some o → b ≠ dk → b ≠ ln → (upd (upd H dk (.ext φ)) ln (.lst ((bs ++ [t]).map V.ref))) b = some o := fun b o h e1 e2 => by rw [upd_ne e2, upd_ne e1]; exact h
  have nt : ∀ b zs, H b = some (.tup zs) → (upd (upd H dk (.ext φ)) ln (.lst ((bs ++ [t]).map V.ref))) b = some (.tup zs) := fun b zs h => st _ _ h (fun z => by rw [z, hx] at h; cases h) (fun z => by rw [z, N.nl] at h; cases h)
  refine ⟨fun b o h => st _ _ (N.sm _ _ h) (ne_of_none h N.n2) (ne_of_none h N.n1), N.n1, N.n2, N.n3, N.d1, upd_same, Paired.snoc (Paired.mapP N.nb fun b x h => nt _ _ h) (nt _ _ ht), ⟨_, DL.stay hd (fun o ho => ?_) (fun b ys h => ?_), ?_, hn.put hz⟩, st _ _ N.ou dlo.symm N.d1.symm, ?_, N.pn⟩
  · rw [upd_ne dl]; exact ho
  · rw [upd_ne fun z => by rw [z, upd_ne dl.symm, N.nl] at h; cases h]
    exact h
  · have := length_putK kvs (nk z) (nV nodes.length)
    rw [List.length_append, List.length_singleton]
    omega
  · have h1 : Paired (fun p o => (upd H dk (.ext φ)) p = some (.lst (o.map nV))) ps outs := Paired.mapP N.ob fun p o h => by
      rw [upd_ne fun z => by rw [z, hx] at h; cases h]
      exact h
    exact paired_upd h1 fun p hp => (N.pn p hp).1
/-- the turn is done: its followers' places -/
theorem NetH.out (N : NetH P w H0 H ln dk lo bs ps nodes outs) {p : Addr} {o : List Nat} (hp : H p = none) : NetH P w H0 (upd (upd H p (.lst (o.map nV))) lo (.lst ((ps ++ [p]).map V.ref))) ln dk lo bs (ps ++ [p]) nodes (outs ++ [o]) := by
  have pl : p ≠ lo := fun e => by rw [e, N.ou] at hp; cases hp
  have pn : p ≠ ln := fun e => by rw [e, N.nl] at hp; cases hp
  have st : ∀ b o', H b = some o' → b ≠ lo → (upd (upd H p (.lst (o.map nV))) lo (.lst ((ps ++ [p]).map V.ref))) b = some o' := fun b o' h e => by rw [upd_ne e, upd_ne (ne_of_none h hp)]; exact h
  have nt : ∀ b zs, H b = some (.tup zs) → (upd (upd H p (.lst (o.map nV))) lo (.lst ((ps ++ [p]).map V.ref))) b = some (.tup zs) := fun b zs h => st _ _ h (fun z => by rw [z, N.ou] at h; cases h)
  refine ⟨fun b o' h => st _ _ (N.sm _ _ h) (ne_of_none h N.n3), N.n1, N.n2, N.n3, N.d1, st _ _ N.nl N.d1, Paired.mapP N.nb fun b x h => nt _ _ h, ?_, upd_same, ?_, fun q hq => ?_⟩
  · obtain ⟨k, h, q⟩ := N.kn
    refine ⟨k, DL.stay h (fun o' ho => st _ _ ho fun z => ?_) nt, q⟩
    obtain ⟨φ, hφ⟩ := DL.isx h
    rw [z, N.ou] at hφ
    cases hφ
  · refine Paired.snoc (paired_upd (Paired.mapP N.ob fun q o' h => ?_) fun q hq => (N.pn q hq).2) (by rw [upd_ne pl, upd_same])
    rw [upd_ne (ne_of_none h hp)]
    exact h
  · rcases List.mem_append.mp hq with hq | hq
    · exact N.pn q hq
    · rw [List.mem_singleton] at hq
      subst hq
      exact ⟨pn, pl⟩
end
theorem outer_ge {R : Rule} (hA : Asc R.cuts) (s : Int) : ∀ m ∈ R.cuts, m ≤ outerOf R s := by
  intro m hm
  unfold outerOf
  rcases List.eq_nil_or_concat R.cuts with hc | ⟨l, a, hc⟩
  · rw [hc] at hm; cases hm
  · rw [List.concat_eq_append] at hc
    unfold Asc at hA
    rw [hc] at hA hm ⊢
    rw [List.getLast?_append]
    show m ≤ a
    rw [List.pairwise_append] at hA
    rcases List.mem_append.mp hm with hm | hm
    · exact Int.le_of_lt (hA.2.2 m hm a List.mem_cons_self)
    · rw [List.mem_singleton] at hm
      omega
theorem things_few {lo outer : Int} {n : Nat} {x : Node} (W : WF n lo outer x) (h : outer - lo ≤ 12) : (things x (outer + 1)).length ≤ 20 := by
  unfold things
  obtain ⟨p, a, l⟩ := x
  cases l with
  | none => show 1 ≤ 20; decide
  | some l =>
    have h1 := W.lo
    have h2 := W.la l rfl
    have e : ∃ b, lowOf (p, a, some l) = some b ∧ a ≤ b := by
      unfold lowOf
      simp only [Option.map_some, Option.some.injEq, exists_eq_left']
      split <;> omega
    obtain ⟨b, e, hb⟩ := e
    rw [e]
    unfold rng
    simp only [List.length_append, List.length_map, List.length_range, List.length_singleton]
    have h1 : lo ≤ a := h1
    omega
end K37
set_option Elab.async false
set_option linter.all false
set_option maxRecDepth 100000
/-! The law's own net: the walk of _law_net. -/
namespace K37
open PySem PySem.Spec PyProof.Rows L2
abbrev sNet : Stmt := topS 41
abbrev nNet : List Str := ["_law_plan_here", "_law_start_here", "_law_outer", "_law_node", "_law_nodes", "_law_known", "_law_outs", "_law_k", "_law_found", "_law_come", "_law_late"]
theorem scNet : FnScope nNet ["_law_plan_here", "_law_start_here"] (defScope sNet) := ⟨rfl, rfl, rfl, by decide +kernel, rfl, by decide +kernel, by decide +kernel⟩
/-- a start as the law asks it -/
structure StOk (R : Rule) (s : Int) : Prop where
  lo : -900 ≤ s
  le : s ≤ outerOf R s
  hi : outerOf R s ≤ 900
  nr : outerOf R s - s ≤ 12
def OutsAt (H : Hp) (l : Addr) (outs : List (List Nat)) : Prop := ∃ ps : List Addr, H l = some (.lst (ps.map V.ref)) ∧ Paired (fun p o => H p = some (.lst (o.map nV))) ps outs
def spNet : Sp := fun vs H Q _ => ∃ (R : Rule) (r : Addr) (s : Int), vs = [.ref r, .int s] ∧ RuleAt R H r ∧ StOk R s ∧ ∀ H' l nodes outs, Same H H' → H l = none → OutsAt H' l outs → BI R s (outerOf R s) s nodes outs → outs.length = nodes.length → outs.length ≤ 600 → Q (.ref l) H'
def NetW (P : Program) (w : World) (R : Rule) (H : Hp) (r t ln dk lo : Addr) (s outer : Int) (m : Nat) (σ : L2.St) (H' : Hp) : Prop :=
  ∃ (nodes : List Node) (outs : List (List Nat)) (bs ps : List Addr) (a8 a9 a10 : Option V), σ = [some (.ref r), some (.int s), some (.int outer), some (.ref t), some (.ref ln), some (.ref dk), some (.ref lo), some (.int (outs.length : Nat)), a8, a9, a10] ∧
    m = 600 - outs.length ∧ NetH P w H H' ln dk lo bs ps nodes outs ∧ BI R s outer s nodes outs
/-- within a node's turn: dn has come in -/
def NetJ (P : Program) (w : World) (R : Rule) (H : Hp) (r t ln dk lo lf lt : Addr) (s outer : Int) (ps : List Addr) (outs : List (List Nat)) (x : Node) (dn : List (Option Int)) (σ : L2.St) (H' : Hp) : Prop :=
  ∃ (nodes : List Node) (found : List Nat) (bs : List Addr) (a9 a10 : Option V), σ = [some (.ref r), some (.int s), some (.int outer), some (.ref t), some (.ref ln), some (.ref dk), some (.ref lo), some (.int (outs.length : Nat)), some (.ref lf), a9, a10] ∧
    NetH P w H H' ln dk lo bs ps nodes outs ∧ BJ R s outer s outs x dn nodes found ∧ H' lf = some (.lst (found.map nV)) ∧ H' lt = some (.lst ((things x (outer + 1)).map oV))
theorem find_bs {H : Hp} {bs : List Addr} {nodes : List Node} (h : Paired (fun b x => H b = some (.tup (nodeV x))) bs nodes) {j : Nat} {x : Node} (hj : nodes[j]? = some x) : ∃ b, bs[j]? = some b ∧ H b = some (.tup (nodeV x)) := Paired.at h hj
theorem nat_ints {ns : List Int} {found : List Nat} (h1 : ns.Pairwise (· < ·)) (h2 : ∀ k : Int, k ∈ ns ↔ decide (k ∈ found.map fun n : Nat => (n : Int)) = true) : ∃ o : List Nat, ns.map V.int = o.map nV ∧ o.Pairwise (· < ·) ∧ ∀ i, i ∈ o ↔ i ∈ found := by
  have h3 : ∀ k ∈ ns, ∃ n ∈ found, (n : Int) = k := fun k hk => by
    have := (h2 k).mp hk
    simpa using this
  have e : ns = (ns.map Int.toNat).map fun n : Nat => (n : Int) := by
    rw [List.map_map]
    conv => lhs; rw [← List.map_id ns]
    refine List.map_congr_left fun k hk => ?_
    obtain ⟨n, _, rfl⟩ := h3 k hk
    simp
  refine ⟨ns.map Int.toNat, ?_, ?_, fun i => ?_⟩
  · conv => lhs; rw [e]
    rw [List.map_map]; rfl
  · rw [List.pairwise_map]
    refine List.Pairwise.imp_of_mem (fun ha hb hab => ?_) h1
    obtain ⟨n, _, rfl⟩ := h3 _ ha
    obtain ⟨m, _, rfl⟩ := h3 _ hb
    simp at hab ⊢
    exact hab
  · constructor
    · intro hi
      obtain ⟨k, hk, rfl⟩ := List.mem_map.mp hi
      obtain ⟨n, hn, rfl⟩ := h3 k hk
      simpa using hn
    · intro hi
      have := (h2 (i : Int)).mpr (decide_eq_true (List.mem_map.mpr ⟨i, hi, rfl⟩))
      exact List.mem_map.mpr ⟨_, this, by simp⟩
section
variable {P : Program} {w : World} {K : PySem.W.Frag} {mg : Str → Option Value} {base : Heap} {f C : Addr} {fd : FuncData}
theorem ok_net (F : Fun K "_law_net" "_law_net" sNet f fd) (ml : mg "len" = none) (mn : mg "min" = none) (mo : mg "sorted" = none) (me : mg "set" = none) (cB : Cal P w K mg base 1 "_law_beyond" ["_law_plan_here", "_law_start_here"] spBeyond)
    (cT : Cal P w K mg base 1 "_law_things" ["_law_node", "_law_edge"] spThings) (cF : Cal P w K mg base 3 "_law_follow" ["_law_plan_here", "_law_node", "_law_come", "_law_outer"] spFollow) :
    FnOk P w K mg base CX0 4 f fd ["_law_plan_here", "_law_start_here"] spNet := by
  refine F.ok scNet (fun vs H Q E h => ?_) (fun cdv A outer s H vs Q E hr h => ?_)
  · obtain ⟨R, r, s, rfl, _⟩ := h
    rfl
  · obtain ⟨R, r, s, rfl, RA, S, k⟩ := h
    have hu := hu_of hr
    have G := RA.good
    refine ⟨_, pss_cons (ps_set (i := 2) scNet.nd rfl (Or.inl rfl) (pe_cal cB hr (pa_cons (pv 0) (pa_cons (pv 1) pa_nil))))
      (pss_cons (ps_set (i := 3) scNet.nd rfl (Or.inl rfl) (pe_tup (pa_cons pe_int (pa_cons (pe_callB (call_min2 rfl) (by rfl) mn (by decide +kernel) (pa_cons (pv 1) (pa_cons (pv 2) pa_nil))) (pa_cons (pe_callB (call_min2 rfl) (by rfl) mn (by decide +kernel) (pa_cons (pv 1) (pa_cons (pv 2) pa_nil))) pa_nil)))))
      (pss_cons (ps_asg (pe_tup (pa_cons (pe_lst (pa_cons (pv 3) pa_nil)) (pa_cons (pe_lone hu (pv 3) pe_int) (pa_cons (pe_lst pa_nil) (pa_cons pe_int pa_nil)))))
          (pg_tup rfl (pgs_cons (pg_name (i := 4) scNet.nd rfl (.inl rfl)) (pgs_cons (pg_name (i := 5) scNet.nd rfl (.inl rfl)) (pgs_cons (pg_name (i := 6) scNet.nd rfl (.inl rfl)) (pgs_cons (pg_name (i := 7) scNet.nd rfl (.inl rfl)) pgs_nil))))))
      (pss_cons (ps_while PassesOwn.never (pt_cmpR op_lt (pv 7) (pe_callB call_len_seq (by rfl) ml PySem.boot_len (pa_cons (pv 4) pa_nil)) (nomark _))
        (pss_cons (ps_set (i := 8) scNet.nd rfl (Or.inl rfl) (pe_lst pa_nil))
        (pss_cons (ps_for PassesOwn.never rfl (pi_list (pe_cal cT hr (pa_cons (pe_ix ix_list (pv 4) (pv 7) (fun _ _ => rfl)) (pa_cons (pe_op op_add (pv 2) pe_int) pa_nil)))) (pg_name (i := 9) scNet.nd rfl (Or.inl rfl))
          (pss_cons (ps_set (i := 10) scNet.nd rfl (Or.inl rfl) (pe_cal cF hr (pa_cons (pv 0) (pa_cons (pe_ix ix_list (pv 4) (pv 7) (fun _ _ => rfl)) (pa_cons (pv 9) (pa_cons (pv 2) pa_nil))))))
          (C8.pss_cut (ps_if (PW.pt (pw_and (pt_cmpR op_notN (pv 10) pe_non (nomark _)) (pw_and1 (pt_cmp (pc_lnotin hu (pv 10) (pv 5))))))
            (pss_cons (ps_lput hu (pv 5) (pv 10) (pe_callB call_len_seq (by rfl) ml PySem.boot_len (pa_cons (pv 4) pa_nil)) rfl)
            (pss_one (ps_expr (pe_bm PySem.F.plainAttrs_list PySem.F.slot_list_append PySem.F.type_list_append mt_append (pv 4) (pa_cons (pv 10) pa_nil))))) pss_nil)
          (pss_one (ps_if (pt_cmpR op_notN (pv 10) pe_non (nomark _)) (pss_one (ps_expr (pe_bm PySem.F.plainAttrs_list PySem.F.slot_list_append PySem.F.type_list_append mt_append (pv 8) (pa_cons (pe_lget hu (pv 5) (pv 10) (fun _ _ => rfl)) pa_nil)))) pss_nil)))))
        (pss_cons (ps_expr (pe_bm PySem.F.plainAttrs_list PySem.F.slot_list_append PySem.F.type_list_append mt_append (pv 6) (pa_cons (pe_callB (cr_sortedSet rfl) (by rfl) mo (by decide +kernel) (pa_cons (pe_callTy (cr_setL rfl) (by rfl) me (by decide +kernel) (pa_cons (pv 8) pa_nil)) pa_nil)) pa_nil)))
        (pss_one (ps_set (i := 7) scNet.nd rfl (Or.inl rfl) (pe_op op_add (pv 7) pe_int)))))))
      (pss_one (ps_ret (pv 6)))))), ?_⟩
    have hO := outer_ge G.asc s
    have hF := G.toFits
    generalize hout : outerOf R s = outer at *
    have b1 := S.lo
    have b2 := S.le
    have b3 := S.hi
    have b4 := S.nr
    rw [hout] at b2 b3 b4
    -- outer, node
    refine ⟨_, rfl, _, rfl, R, r, s, rfl, RA, fun H1 s1 => ?_⟩
    rw [hout]
    refine ⟨_, rfl, _, rfl, s, outer, rfl, _, rfl, _, rfl, s, outer, rfl, by show 3 ≤ sizeLine; decide, fun t nt => ?_⟩
    rw [if_neg (show ¬ outer < s by omega)]
    have s2 := s1.trans (same_upd (o := .tup [.int 0, .int s, .int s]) nt)
    have ht2 : (upd H1 t (.tup [.int 0, .int s, .int s])) t = some (.tup (nodeV (0, s, some s))) := upd_same
    generalize upd H1 t (.tup [.int 0, .int s, .int s]) = H2 at s2 ht2 ⊢
    -- [node], {node: 0}, []
    refine ⟨_, rfl, by show 1 ≤ sizeLine; decide, fun ln nln => ?_⟩
    have s3 : Same H2 (upd H2 ln (.lst [.ref t])) := same_upd nln
    intro dk φ ndk hdk
    have s4 : Same (upd H2 ln (.lst [.ref t])) (upd (upd H2 ln (.lst [.ref t])) dk (.ext φ)) := same_upd ndk
    refine ⟨_, rfl, t, nk (0, s, some s), rfl, by rw [nk_V]; exact s4 _ _ (s3 _ _ ht2), hdk, fun ψ hψ => ?_⟩
    rw [upd_upd] at hψ ⊢
    have s4 : Same (upd H2 ln (.lst [.ref t])) (upd (upd H2 ln (.lst [.ref t])) dk (.ext ψ)) := same_upd ndk
    refine ⟨Nat.zero_le _, fun lo nlo => ?_⟩
    have s5 : Same (upd (upd H2 ln (.lst [.ref t])) dk (.ext ψ)) (upd (upd (upd H2 ln (.lst [.ref t])) dk (.ext ψ)) lo (.lst [])) := same_upd nlo
    refine ⟨by show 4 ≤ sizeLine; decide, fun tt ntt => ?_⟩
    have s6 := same_upd (o := .tup [.ref ln, .ref dk, .ref lo, .int 0]) ntt
    have hln : (upd H2 ln (.lst [.ref t])) ln = some (.lst [.ref t]) := upd_same
    have ldk : ln ≠ dk := ne_of_none upd_same ndk
    have llo : ln ≠ lo := ne_of_none (s4 _ _ hln) nlo
    have dklo : dk ≠ lo := ne_of_none upd_same nlo
    have N0 : NetH P w H (upd (upd (upd H2 ln (.lst [.ref t])) dk (.ext ψ)) lo (.lst [])) ln dk lo [t] [] [(0, s, some s)] [] := by
      refine ⟨((s2.trans s3).trans s4).trans s5, ?_, ?_, ?_, llo, s5 _ _ (s4 _ _ hln), .cons (s5 _ _ (s4 _ _ (s3 _ _ ht2))) .nil, ⟨_, DL.same hψ s5, Nat.le_refl _, fun x => ?_⟩, upd_same, .nil, fun p hp => by cases hp⟩
      · exact s2.free nln
      · exact (s2.trans s3).free ndk
      · exact ((s2.trans s3).trans s4).free nlo
      · by_cases e : x = (0, s, some s)
        · subst e
          rw [if_pos (by simp)]
          simp [valV]; rfl
        · rw [if_neg (by simpa using e)]
          exact valV_neg fun z => e (nk_inj z).symm
    have N1 := N0.same s6
    have htt : (upd (upd (upd (upd H2 ln (.lst [.ref t])) dk (.ext ψ)) lo (.lst [])) tt (.tup [.ref ln, .ref dk, .ref lo, .int 0])) tt = some (.tup [.ref ln, .ref dk, .ref lo, .int 0]) := upd_same
    generalize upd (upd (upd (upd H2 ln (.lst [.ref t])) dk (.ext ψ)) lo (.lst [])) tt (.tup [.ref ln, .ref dk, .ref lo, .int 0]) = H3 at N1 htt ⊢
    refine ⟨tt, _, rfl, SqT.of htt, rfl, _, _, rfl, _, _, rfl, _, _, rfl, _, _, rfl, rfl, ?_⟩
    -- while
    refine ⟨NetW P w R H r t ln dk lo s outer, ⟨600, _, _, _, _, none, none, none, rfl, rfl, N1, BI.start hF (Int.le_refl _) b2⟩, ?_⟩
    rintro m σ H4 ⟨nodes, outs, bs, ps, a8, a9, a10, rfl, rfl, N4, B⟩
    have hfew := B.few hF (w := 12) (by omega)
    have hbl : bs.length = nodes.length := Paired.length N4.nb
    refine ⟨_, rfl, _, rfl, ln, _, rfl, .inl (SqL.of N4.nl), _, _, rfl, rfl, _, rfl, ?_⟩
    rw [List.length_map, hbl]
    refine ite2 (fun hc => ?_) (fun hc => ?_)
    · have hc : outs.length < nodes.length := by simpa using hc
      refine ⟨fun σ' H' => ∃ m', m' < 600 - outs.length ∧ NetW P w R H r t ln dk lo s outer m' σ' H', fun _ _ h => h, ?_⟩
      -- found = []
      refine ⟨Nat.zero_le _, fun lf nlf => ?_⟩
      have f1 : lf ≠ ln := fun e => by rw [e, N4.nl] at nlf; cases nlf
      have f2 : lf ≠ lo := fun e => by rw [e, N4.ou] at nlf; cases nlf
      have f3 : lf ∉ ps := fun e => by
        obtain ⟨i, hi, q⟩ := List.getElem_of_mem e
        have hpl : ps.length = outs.length := Paired.length N4.ob
        obtain ⟨p, hp, hq⟩ := Paired.at N4.ob (List.getElem?_eq_getElem (show i < outs.length by omega))
        rw [List.getElem?_eq_getElem hi, q] at hp
        cases hp
        rw [nlf] at hq
        cases hq
      have f0 : H lf = none := N4.sm.free nlf
      have N5 := N4.same (same_upd (o := .lst []) nlf)
      have hlf5 : (upd H4 lf (.lst [])) lf = some (.lst []) := upd_same
      generalize upd H4 lf (.lst []) = H5 at N5 hlf5 ⊢
      have hx := List.getElem?_eq_getElem hc
      generalize nodes[outs.length] = x at hx
      have W := B.wf x (List.mem_of_getElem? hx)
      obtain ⟨b, hb, hbx⟩ := find_bs N5.nb hx
      -- the things that can come
      refine ⟨_, rfl, _, rfl, ln, _, _, _, rfl, rfl, SqL.of N5.nl, atI_nat (j := outs.length) (by rw [List.getElem?_map, hb]; rfl), _, rfl, outer, 1, rfl, rfl, b, x, outer + 1, rfl, hbx, ?_, ?_, ?_, by omega, by omega, fun H6 lt s6 n6 h6 => ?_⟩
      · have := W.lo; omega
      · have := W.hi; omega
      · intro l hl
        have := (W.la l hl).2
        omega
      have N6 := N5.same s6
      have hlf6 := s6 _ _ hlf5
      have g1 : lt ≠ ln := fun e => by rw [e, N5.nl] at n6; cases n6
      have g2 : lt ≠ lf := fun e => by rw [e, hlf5] at n6; cases n6
      have g0 : lt ≠ dk := fun e => by
        obtain ⟨kvs, q, _⟩ := N5.kn
        obtain ⟨φ, hφ⟩ := DL.isx q
        rw [e, hφ] at n6; cases n6
      refine ⟨lt, rfl, ⟨_, SqL.of h6⟩, for_list (K := K) (a := lt) (xs := (things x (outer + 1)).map oV) (fun j => NetJ P w R H r t ln dk lo lf lt s outer ps outs x ((things x (outer + 1)).take j))
        ⟨nodes, [], bs, a9, a10, rfl, N6, BJ.start B hx, hlf6, h6⟩ (fun j σ H' _ ⟨_, _, _, _, _, _, _, _, _, h⟩ => SqL.of h) ?_ ?_⟩
      · rintro j y σ H7 hj ⟨nodes, found, bs, a9, a10, rfl, N7, J, hlf7, hlt7⟩
        rw [List.getElem?_map] at hj
        obtain ⟨c, hcj, rfl⟩ := Option.map_eq_some_iff.mp hj
        have hcm := List.mem_of_getElem? hcj
        have htk : (things x (outer + 1)).take (j + 1) = (things x (outer + 1)).take j ++ [c] := by rw [List.take_add_one, hcj]; rfl
        have J2 := J.step hF hO hcm
        obtain ⟨b, hb, hbx⟩ := find_bs N7.nb J.here
        refine ⟨_, rfl, _, rfl, _, rfl, ln, _, _, _, rfl, rfl, SqL.of N7.nl, atI_nat (j := outs.length) (by rw [List.getElem?_map, hb]; rfl), _, rfl, _, rfl, R, r, b, x, c, outer, rfl, RA.same N7.sm, hbx, W.ph, fun H8 v s8 hv => ?_⟩
        have N8 := N7.same s8
        have hlf8 := s8 _ _ hlf7
        have hlt8 := s8 _ _ hlt7
        have fl := J.len
        rw [List.length_take] at fl
        have tf := things_few W b4
        -- the node is known now
        refine ⟨fun σ' H' => ∃ bs : List Addr, σ' = [some (.ref r), some (.int s), some (.int outer), some (.ref t), some (.ref ln), some (.ref dk), some (.ref lo), some (.int (outs.length : Nat)), some (.ref lf), some (oV c), some v] ∧
          NetH P w H H' ln dk lo bs ps (bstep (K37.follow R outer x c) (nodes, found)).1 outs ∧ H' lf = some (.lst (found.map nV)) ∧ H' lt = some (.lst ((things x (outer + 1)).map oV)) ∧ NodeO H' v (K37.follow R outer x c), ⟨_, rfl, rfl, _, rfl, ?_⟩, ?_⟩
        · revert hv J2
          generalize K37.follow R outer x c = fo
          intro J2 hv
          cases fo with
          | none =>
            obtain rfl : v = V.non := hv
            exact iteF (iteF ⟨bs, rfl, N8, hlf8, hlt8, rfl⟩)
          | some z =>
            obtain ⟨t', rfl, ht'⟩ := hv
            obtain ⟨kvs, hd, hkl, hkn⟩ := N8.kn
            refine iteT ⟨_, rfl, _, rfl, dk, t', kvs, nk z, rfl, hd, rfl, by rw [nk_V]; exact ht', _, rfl, ?_⟩
            rw [hkn z]
            by_cases hz : z ∈ nodes
            · rw [if_pos hz]
              refine iteF ⟨bs, rfl, ?_, hlf8, hlt8, t', rfl, ht'⟩
              rw [show (bstep (some z) (nodes, found)).1 = nodes by simp [bstep, hz]]
              exact N8
            · rw [if_neg hz]
              have hbl : bs.length = nodes.length := Paired.length N8.nb
              have hlen2 := J2.base.few hF (w := 12) (by omega)
              rw [show (bstep (some z) (nodes, found)).1 = nodes ++ [z] by simp [bstep, hz], List.length_append, List.length_singleton] at hlen2
              refine iteT ⟨_, rfl, ln, _, rfl, .inl (SqL.of N8.nl), _, rfl, _, rfl, dk, t', kvs, nk z, rfl, hd, rfl, by rw [nk_V]; exact ht', small1000 (by omega), fun φ hd' => ?_⟩
              rw [List.length_map, hbl] at hd'
              obtain ⟨χ, hχ⟩ := DL.isx hd
              have e1 : ln ≠ dk := fun e => by rw [← e, N8.nl] at hχ; cases hχ
              have e2 : lf ≠ dk := fun e => by rw [← e, hlf8] at hχ; cases hχ
              have e3 : lt ≠ dk := fun e => by rw [← e, hlt8] at hχ; cases hχ
              have e4 : t' ≠ dk := fun e => by rw [← e, ht'] at hχ; cases hχ
              have e5 : t' ≠ ln := fun e => by rw [e, N8.nl] at ht'; cases ht'
              have hln9 : (upd H8 dk (.ext φ)) ln = some (.lst (bs.map V.ref)) := by rw [upd_ne e1]; exact N8.nl
              refine ⟨_, rfl, .inl ⟨rfl, _, SqL.of hln9⟩, _, rfl, ln, _, _, rfl, rfl, hln9, by rw [List.length_map, hbl]; exact small1000 (by omega), bs ++ [t'], rfl, ?_, ?_, ?_, t', rfl, ?_⟩
              · rw [show (bstep (some z) (nodes, found)).1 = nodes ++ [z] by simp [bstep, hz]]
                have := N8.node hz ht' hd hkl hkn hd'
                rw [List.map_append] at this
                exact this
              · rw [upd_ne f1, upd_ne e2]; exact hlf8
              · rw [upd_ne g1, upd_ne e3]; exact hlt8
              · rw [upd_ne e5, upd_ne e4]; exact ht'
        · rintro σ' H9 ⟨bs9, rfl, N9, hlf9, hlt9, hv9⟩
          rw [← htk] at J2
          refine ⟨_, rfl, rfl, _, rfl, ?_⟩
          revert hv9 J2 N9
          generalize K37.follow R outer x c = fo
          intro J2 N9 hv9
          cases fo with
          | none =>
            obtain rfl : v = V.non := hv9
            exact iteF ⟨_, found, bs9, _, _, rfl, N9, J2, hlf9, hlt9⟩
          | some z =>
            obtain ⟨t', rfl, ht'⟩ := hv9
            obtain ⟨kvs, hd, hkl, hkn⟩ := N9.kn
            have hval : valV kvs (nk z) = some (nV ((bstep (some z) (nodes, found)).1.idxOf z)) := by
              rw [hkn z, if_pos ?_]
              unfold bstep
              simp only
              split
              · assumption
              · simp
            have hfo : (bstep (some z) (nodes, found)).2 = found ++ [(bstep (some z) (nodes, found)).1.idxOf z] := by
              unfold bstep
              simp only
              split
              · rfl
              · rename_i hz
                rw [List.idxOf_append, if_neg hz]; simp
            refine iteT ⟨_, rfl, .inl ⟨rfl, _, SqL.of hlf9⟩, _, rfl, _, rfl, dk, t', kvs, nk z, _, rfl, hd, rfl, by rw [nk_V]; exact ht', hval, lf, _, _, rfl, rfl, hlf9, by rw [List.length_map]; exact small1000 (by omega), ?_⟩
            refine ⟨_, _, bs9, _, _, rfl, N9.off hlf9 f0 f1 f2 f3, J2, ?_, ?_⟩
            · rw [upd_same, hfo, List.map_append]; rfl
            · rw [upd_ne g2]; exact hlt9
      · rintro σ H7 ⟨nodes, found, bs, a9, a10, rfl, N7, J, hlf7, hlt7⟩
        rw [List.length_map, List.take_length] at J
        have tf := things_few W b4
        have fl := J.len
        have hpl : ps.length = outs.length := Paired.length N7.ob
        have hfi : found.map nV = (found.map fun n : Nat => (n : Int)).map V.int := by rw [List.map_map]; rfl
        rw [hfi] at hlf7
        refine ⟨_, rfl, .inl ⟨rfl, _, SqL.of N7.ou⟩, _, rfl, lf, _, rfl, hlf7, by rw [List.length_map]; omega, fun p n hn np => ?_⟩
        rw [List.length_map] at hn
        refine ⟨p, _, n, rfl, upd_same, by omega, fun ns q h1 h2 h3 nq => ?_⟩
        obtain ⟨o, e1, e2, e3⟩ := nat_ints h1 h2
        rw [e1]
        have N8 := N7.same (same_upd (o := SetO w p (fun j => decide (j ∈ found.map fun n : Nat => (n : Int))) n) np)
        have N9 := N8.out (o := o) nq
        have hq : lo ≠ q := ne_of_none N8.ou nq
        have B9 := J.done e2 e3
        refine ⟨lo, _, _, rfl, rfl, by rw [upd_ne hq]; exact N8.ou, by rw [List.length_map, hpl]; exact small1000 (by omega), ?_⟩
        refine ⟨_, rfl, _, 1, rfl, rfl, 600 - (outs ++ [o]).length, ?_, nodes, outs ++ [o], bs, ps ++ [q], some (.ref lf), a9, a10, ?_, rfl, ?_, B9⟩
        · rw [List.length_append, List.length_singleton]; omega
        · rw [List.length_append, List.length_singleton]; rfl
        · rw [List.map_append] at N9
          exact N9
    · have hc : ¬ outs.length < nodes.length := by simpa using hc
      have hle := B.le
      refine ⟨_, rfl, ?_⟩
      exact k H4 lo nodes outs N4.sm N4.n3 ⟨ps, N4.ou, N4.ob⟩ B (by omega) (by omega)
end
end K37
set_option Elab.async false
set_option linter.all false
set_option maxRecDepth 100000
/-! The law's longest way: heaps. -/
namespace K37
open PySem PySem.Spec PyProof.Rows L2
section
variable {X : Cx} {e : Expr} {p pos : Pos} {te : TE}
theorem pe_lenK (K : PySem.W.Frag) (ml : X.mg "len" = none) (he : PE X e te) (hg : Gl X "len" := by rfl) (hs : starEach [e] X.env = (false, eval e X.env) :: starEach [] X.env := by rfl) (hK : X.K = K := by rfl) :
    PE X (.Call (.Name "len" p) [e] [] pos) (tCB (fun xs H Q => ∃ p ys, xs = [V.ref p] ∧ (SqL K H p ys ∨ SqT K H p ys) ∧ Q (.int (ys.length : Nat)) H) (tCons te tNil)) := by
  subst hK
  exact pe_callB call_len_seq hg ml PySem.boot_len (pa_cons he pa_nil hs) (by decide) (by decide) hs rfl
end
structure LD (H0 : Hp) (lb ll lm : Addr) (qs : List Addr) (n : Nat) : Prop where
  len : qs.length = n
  nd : qs.Nodup
  zb : H0 lb = none
  zl : H0 ll = none
  zm : H0 lm = none
  zq : ∀ q ∈ qs, H0 q = none ∧ q ≠ lb ∧ q ≠ ll ∧ q ≠ lm
  bl : lb ≠ ll
  bm : lb ≠ lm
  ml : ll ≠ lm
structure LH (H0 H : Hp) (lb ll lm : Addr) (qs : List Addr) (bk : Nat → List Nat) (left best : List Int) : Prop where
  sm : Same H0 H
  hb : H lb = some (.lst (qs.map V.ref))
  hq : ∀ j q, qs[j]? = some q → H q = some (.lst ((bk j).map nV))
  hl : H ll = some (.lst (left.map V.int))
  hm : H lm = some (.lst (best.map V.int))
section
variable {H0 H H' : Hp} {lb ll lm a : Addr} {qs : List Addr} {n : Nat} {bk : Nat → List Nat} {left best : List Int}
theorem LH.same (h : LH H0 H lb ll lm qs bk left best) (s : Same H H') : LH H0 H' lb ll lm qs bk left best :=
  ⟨h.sm.trans s, s _ _ h.hb, fun j q e => s _ _ (h.hq j q e), s _ _ h.hl, s _ _ h.hm⟩
theorem LH.putq (D : LD H0 lb ll lm qs n) (h : LH H0 H lb ll lm qs bk left best) {j : Nat} {q : Addr} (hj : qs[j]? = some q) (xs : List Nat) : LH H0 (upd H q (.lst (xs.map nV))) lb ll lm qs (fun i => if i = j then xs else bk i) left best := by
  obtain ⟨z, z1, z2, z3⟩ := D.zq q (List.mem_of_getElem? hj)
  refine ⟨fun b o e => by rw [upd_ne (ne_of_none e z)]; exact h.sm _ _ e, by rw [upd_ne z1.symm]; exact h.hb, fun i q' e => ?_, by rw [upd_ne z2.symm]; exact h.hl, by rw [upd_ne z3.symm]; exact h.hm⟩
  by_cases hi : i = j
  · subst hi
    rw [hj] at e
    cases e
    rw [upd_same, if_pos rfl]
  · rw [if_neg hi, upd_ne fun (z : q' = q) => hi (nodup_at D.nd (z ▸ e) hj)]
    exact h.hq i q' e
theorem LH.putl (D : LD H0 lb ll lm qs n) (h : LH H0 H lb ll lm qs bk left best) (xs : List Int) : LH H0 (upd H ll (.lst (xs.map V.int))) lb ll lm qs bk xs best :=
  ⟨fun b o e => by rw [upd_ne (ne_of_none e D.zl)]; exact h.sm _ _ e, by rw [upd_ne D.bl]; exact h.hb, fun i q e => by rw [upd_ne (D.zq q (List.mem_of_getElem? e)).2.2.1]; exact h.hq i q e, upd_same, by rw [upd_ne D.ml.symm]; exact h.hm⟩
theorem LH.putm (D : LD H0 lb ll lm qs n) (h : LH H0 H lb ll lm qs bk left best) (xs : List Int) : LH H0 (upd H lm (.lst (xs.map V.int))) lb ll lm qs bk left xs :=
  ⟨fun b o e => by rw [upd_ne (ne_of_none e D.zm)]; exact h.sm _ _ e, by rw [upd_ne D.bm]; exact h.hb, fun i q e => by rw [upd_ne (D.zq q (List.mem_of_getElem? e)).2.2.2]; exact h.hq i q e, by rw [upd_ne D.ml]; exact h.hl, upd_same⟩
theorem LH.off (h : LH H0 H lb ll lm qs bk left best) {o : HO} (z : H0 a = none) (e1 : a ≠ lb) (e2 : a ≠ ll) (e3 : a ≠ lm) (e4 : a ∉ qs) : LH H0 (upd H a o) lb ll lm qs bk left best :=
  ⟨fun b o e => by rw [upd_ne (ne_of_none e z)]; exact h.sm _ _ e, by rw [upd_ne e1.symm]; exact h.hb, fun i q e => by rw [upd_ne fun (z : q = a) => e4 (z ▸ List.mem_of_getElem? e)]; exact h.hq i q e, by rw [upd_ne e2.symm]; exact h.hl, by rw [upd_ne e3.symm]; exact h.hm⟩
theorem LH.congr (h : LH H0 H lb ll lm qs bk left best) {bk' : Nat → List Nat} (e : ∀ j, j < qs.length → bk j = bk' j) : LH H0 H lb ll lm qs bk' left best :=
  ⟨h.sm, h.hb, fun j q hj => by rw [← e j (List.getElem?_eq_some_iff.mp hj).1]; exact h.hq j q hj, h.hl, h.hm⟩
end
theorem ixN_at {n j : Nat} (h : j < n) : ixN n (j : Int) = some j := by
  unfold ixN
  rw [if_pos (by omega), if_pos (by omega)]
  simp
/-- ahead of i: k below i with j among its followers; in i's turn the first l of its followers are done -/
def bkf (outs : List (List Nat)) (i l : Nat) (j : Nat) : List Nat := (List.range i).filter (fun k => decide (j ∈ og outs k)) ++ (if j ∈ (og outs i).take l then [i] else [])
theorem bkf_zero (outs : List (List Nat)) (i j : Nat) : bkf outs i 0 j = (List.range i).filter (fun k => decide (j ∈ og outs k)) := by
  unfold bkf
  rw [List.take_zero, if_neg (by simp), List.append_nil]
theorem bkf_next (outs : List (List Nat)) (i j : Nat) : bkf outs i (og outs i).length j = bkf outs (i + 1) 0 j := by
  rw [bkf_zero]
  unfold bkf
  rw [List.take_length, List.range_succ, List.filter_append]
  congr 1
  by_cases h : j ∈ og outs i
  · rw [if_pos h, List.filter_cons, if_pos (by simpa using h)]; rfl
  · rw [if_neg h, List.filter_cons, if_neg (by simpa using h)]; rfl
theorem bkf_step (outs : List (List Nat)) {i l t : Nat} (hn : (og outs i).Nodup) (ht : (og outs i)[l]? = some t) (j : Nat) : (if j = t then bkf outs i l t ++ [i] else bkf outs i l j) = bkf outs i (l + 1) j := by
  have hnt : t ∉ (og outs i).take l := fun hm => by
    obtain ⟨m, hm1, hm2⟩ := List.getElem_of_mem hm
    rw [List.length_take] at hm1
    have : (og outs i)[m]? = some t := by
      rw [← hm2, List.getElem_take]
      exact List.getElem?_eq_getElem _
    have := nodup_at hn this ht
    omega
  unfold bkf
  rw [List.take_add_one, ht]
  by_cases h : j = t
  · subst h
    rw [if_pos rfl, if_neg hnt, if_pos (by simp), List.append_nil]
  · rw [if_neg h]
    congr 1
    by_cases h2 : j ∈ (og outs i).take l
    · rw [if_pos h2, if_pos (by simp [h2])]
    · rw [if_neg h2, if_neg (by simp [h2, h])]
theorem bkf_mem {outs : List (List Nat)} {d k : Nat} : k ∈ bkf outs outs.length 0 d ↔ k < outs.length ∧ d ∈ og outs k := by
  rw [bkf_zero, List.mem_filter, List.mem_range]
  simp
theorem bkf_nodup (outs : List (List Nat)) (d : Nat) : (bkf outs outs.length 0 d).Nodup := by
  rw [bkf_zero]
  exact List.Nodup.sublist List.filter_sublist List.nodup_range
theorem bkf_short (outs : List (List Nat)) (i l j : Nat) : (bkf outs i l j).length ≤ i + 1 := by
  unfold bkf
  rw [List.length_append]
  have := List.length_filter_le (fun k => decide (j ∈ og outs k)) (List.range i)
  rw [List.length_range] at this
  split <;> simp <;> omega
end K37
set_option Elab.async false
set_option linter.all false
set_option maxRecDepth 100000
/-! The law's longest way: the walk of _law_longest. -/
namespace K37
open PySem PySem.Spec PyProof.Rows L2
abbrev sLong : Stmt := topS 42
abbrev nLong : List Str := ["_law_plan_here", "_law_start_here", "_law_outs", "_law_backs", "_law_left", "_law_best_here", "_law_one", "_law_k", "_law_some", "_law_late", "_law_done", "_law_spot"]
theorem scLong : FnScope nLong ["_law_plan_here", "_law_start_here"] (defScope sLong) := ⟨rfl, rfl, rfl, by decide +kernel, rfl, by decide +kernel, by decide +kernel⟩
def spLong : Sp := fun vs H Q _ => ∃ (R : Rule) (r : Addr) (s : Int), vs = [.ref r, .int s] ∧ RuleAt R H r ∧ StOk R s ∧ ∀ H', Same H H' → (∀ b, fresh R 0 s = some b → 0 ≤ b ∧ b ≤ 1000) → Q (oV (fresh R 0 s)) H'
section
variable {P : Program} {w : World} {K_ : PySem.W.Frag} {mg : Str → Option Value} {base : Heap} {f C : Addr} {fd : FuncData}
theorem ok_long (F : Fun K_ "_law_longest" "_law_longest" sLong f fd) (ml : mg "len" = none) (mm : mg "max" = none) (mr : mg "range" = none) (me : mg "enumerate" = none) (cN : Cal P w K_ mg base 4 "_law_net" ["_law_plan_here", "_law_start_here"] spNet) :
    FnOk P w K_ mg base CX0 5 f fd ["_law_plan_here", "_law_start_here"] spLong := by
  refine F.ok scLong (fun vs H Q E h => ?_) (fun cdv A outer s H vs Q E hr h => ?_)
  · obtain ⟨R, r, s, rfl, _⟩ := h
    rfl
  · obtain ⟨R, r, s, rfl, RA, S, k⟩ := h
    have hu := hu_of hr
    have G := RA.good
    refine ⟨_, pss_cons (ps_set (i := 2) scLong.nd rfl (Or.inl rfl) (pe_cal cN hr (pa_cons (pv 0) (pa_cons (pv 1) pa_nil))))
      (pss_cons (ps_asg (pe_tup (pa_cons (pe_lc (own := [("_law_one", 6)]) (g := gName 6) (by rfl) scLong.nd (pi_list (pv 2)) (blkOk_by (own := [("_law_one", 6)]) (N := nLong) (sc := defScope sLong) (by decide +kernel)) (fun _ _ _ _ _ => pg_name (i := 6) scLong.nd rfl (Or.inl rfl)) (fun _ _ _ _ _ => pts_nil) (fun _ _ _ _ _ => pe_lst pa_nil))
          (pa_cons (pe_lc (own := [("_law_one", 6)]) (g := gName 6) (by rfl) scLong.nd (pi_list (pv 2)) (blkOk_by (own := [("_law_one", 6)]) (N := nLong) (sc := defScope sLong) (by decide +kernel)) (fun _ _ _ _ _ => pg_name (i := 6) scLong.nd rfl (Or.inl rfl)) (fun _ _ _ _ _ => pts_nil) (fun _ _ _ _ _ => pe_lenK K_ ml (pv 6)))
          (pa_cons (pe_lc (own := [("_law_one", 6)]) (g := gName 6) (by rfl) scLong.nd (pi_list (pv 2)) (blkOk_by (own := [("_law_one", 6)]) (N := nLong) (sc := defScope sLong) (by decide +kernel)) (fun _ _ _ _ _ => pg_name (i := 6) scLong.nd rfl (Or.inl rfl)) (fun _ _ _ _ _ => pts_nil) (fun _ _ _ _ _ => pe_int))
          pa_nil)))) (pg_tup rfl (pgs_cons (pg_name (i := 3) scLong.nd rfl (.inl rfl)) (pgs_cons (pg_name (i := 4) scLong.nd rfl (.inr rfl)) (pgs_cons (pg_name (i := 5) scLong.nd rfl (.inl rfl)) pgs_nil)))))
      (pss_cons (ps_for PassesOwn.never rfl (pi_enum (by rfl) me (pa_cons (pv 2) pa_nil)) (pg_tup rfl (pgs_cons (pg_name (i := 7) scLong.nd rfl (.inl rfl)) (pgs_cons (pg_name (i := 8) scLong.nd rfl (.inl rfl)) pgs_nil)))
        (pss_one (ps_for PassesOwn.never rfl (pi_list (pv 8)) (pg_name (i := 9) scLong.nd rfl (Or.inl rfl))
          (pss_one (ps_expr (pe_bm PySem.F.plainAttrs_list PySem.F.slot_list_append PySem.F.type_list_append mt_append (pe_ix ix_list (pv 3) (pv 9) (fun _ _ => rfl)) (pa_cons (pv 7) pa_nil)))))))
      (pss_cons (ps_par (i := 10) (j := 11) rfl scLong.nd rfl rfl (by decide) rfl rfl (pa_cons (pe_lc (own := [("_law_k", 7)]) (g := gName 7) (by rfl) scLong.nd (pi_range1 (by rfl) mr (pa_cons (pe_callB call_len_seq (by rfl) ml PySem.boot_len (pa_cons (pv 2) pa_nil)) pa_nil))
            (blkOk_by (own := [("_law_k", 7)]) (N := nLong) (sc := defScope sLong) (by decide +kernel)) (fun _ _ _ _ _ => pg_name (i := 7) scLong.nd rfl (Or.inl rfl)) (fun _ _ _ _ _ => pts_one (pt_cmpR op_eq (pe_ixL K_ (pv 4) (pv 7)) pe_int (nomark _))) (fun _ _ _ _ _ => pv 7))
          (pa_cons pe_int pa_nil)) (by rfl))
      (pss_cons (ps_while PassesOwn.never (pt_cmpR op_lt (pv 11) (pe_callB call_len_seq (by rfl) ml PySem.boot_len (pa_cons (pv 10) pa_nil)) (nomark _))
        (pss_cons (ps_for PassesOwn.never rfl (pi_list (pe_ix ix_list (pv 3) (pe_ix ix_list (pv 10) (pv 11) (fun _ _ => rfl)) (fun _ _ => rfl))) (pg_name (i := 7) scLong.nd rfl (Or.inl rfl))
          (pss_cons (ps_asg (pe_callB (call_max2 rfl) (by rfl) mm (by decide +kernel) (pa_cons (pe_ix ix_list (pv 5) (pv 7) (fun _ _ => rfl)) (pa_cons (pe_op op_add (pe_ix ix_list (pv 5) (pe_ix ix_list (pv 10) (pv 11) (fun _ _ => rfl)) (fun _ _ => rfl)) pe_int) pa_nil))) (pg_sub (pv 5) (pv 7) set_list))
          (pss_cons (ps_asg (pe_op op_sub (pe_ix ix_list (pv 4) (pv 7) (fun _ _ => rfl)) pe_int) (pg_sub (pv 4) (pv 7) set_list))
          (pss_one (ps_if (pt_cmpR op_eq (pe_ix ix_list (pv 4) (pv 7) (fun _ _ => rfl)) pe_int (nomark _)) (pss_one (ps_expr (pe_bm PySem.F.plainAttrs_list PySem.F.slot_list_append PySem.F.type_list_append mt_append (pv 10) (pa_cons (pv 7) pa_nil)))) pss_nil)))))
        (pss_one (ps_set (i := 11) scLong.nd rfl (Or.inl rfl) (pe_op op_add (pv 11) pe_int)))))
      (pss_one (ps_ret (pe_ifExp (pt_cmpR op_eq (pe_callB call_len_seq (by rfl) ml PySem.boot_len (pa_cons (pv 10) pa_nil)) (pe_callB call_len_seq (by rfl) ml PySem.boot_len (pa_cons (pv 2) pa_nil)) (nomark _)) (pe_ix ix_list (pv 5) pe_int (fun _ _ => rfl)) pe_non))))))), ?_⟩
    refine ⟨_, rfl, _, rfl, R, r, s, rfl, RA, S, fun H1 lo nodes outs s1 nlo OA B hl hlen => ?_⟩
    obtain ⟨ps, ho, hob⟩ := OA
    have N := B.net hl
    have hpl : ps.length = outs.length := Paired.length hob
    -- [[] for one in outs]
    refine ⟨_, rfl, lo, rfl, ⟨_, SqL.of ho⟩, fun lb nlb => ?_⟩
    refine lc_list (K := K_) (a := lo) (xs := ps.map V.ref) (fun i H' => Same H1 H' ∧ ∃ qs : List Addr, H' lb = some (.lst (qs.map V.ref)) ∧ qs.length = i ∧ qs.Nodup ∧ ∀ q ∈ qs, H1 q = none ∧ q ≠ lb ∧ H' q = some (.lst []))
      ⟨same_upd nlb, [], upd_same, rfl, List.nodup_nil, by simp⟩ (fun i H' _ ⟨s2, _⟩ => SqL.of (s2 _ _ ho)) ?_ ?_
    · rintro i y H' hi ⟨s2, qs, hb, hql, hnd, hqs⟩
      have hil := (List.getElem?_eq_some_iff.mp hi).1
      rw [List.length_map] at hil
      refine ⟨rfl, Nat.zero_le _, fun q nq => ⟨_, (same_upd nq) _ _ hb, by rw [List.length_map]; exact small1000 (by omega), ?_⟩⟩
      have qlb : lb ≠ q := ne_of_none hb nq
      refine ⟨fun b o e => ?_, qs ++ [q], by rw [upd_same, List.map_append]; rfl, by simp [hql], ?_, fun q' hq' => ?_⟩
      · rw [upd_ne (ne_of_none e nlb)]
        exact (s2.trans (same_upd nq)) _ _ e
      · rw [List.nodup_append]
        refine ⟨hnd, by simp, fun a ha b hb' e => ?_⟩
        rw [List.mem_singleton] at hb'
        have := (hqs a ha).2.2
        rw [e, hb', nq] at this
        cases this
      · rcases List.mem_append.mp hq' with h | h
        · obtain ⟨z1, z2, z3⟩ := hqs q' h
          exact ⟨z1, z2, by rw [upd_ne z2]; exact (same_upd nq) _ _ z3⟩
        · rw [List.mem_singleton] at h
          subst h
          exact ⟨s2.free nq, qlb.symm, by rw [upd_ne qlb.symm, upd_same]⟩
    rintro H2 ⟨s2, qs, hb, hql, hnd, hqs⟩
    rw [List.length_map, hpl] at hql
    -- [len(one) for one in outs]
    have rd : ∀ i y, (ps.map V.ref)[i]? = some y → i < outs.length ∧ ∃ p, y = .ref p ∧ ps[i]? = some p ∧ H1 p = some (.lst ((og outs i).map nV)) := by
      intro i y hi
      rw [List.getElem?_map] at hi
      obtain ⟨p, hp, rfl⟩ := Option.map_eq_some_iff.mp hi
      have hil : i < outs.length := by rw [← hpl]; exact (List.getElem?_eq_some_iff.mp hp).1
      obtain ⟨p', hp', h2⟩ := Paired.at hob (og_get hil)
      rw [hp] at hp'
      cases hp'
      exact ⟨hil, p, rfl, hp, h2⟩
    refine ⟨_, rfl, lo, rfl, ⟨_, SqL.of (s2 _ _ ho)⟩, fun ll nll => ?_⟩
    refine lc_list (K := K_) (a := lo) (xs := ps.map V.ref) (fun i H' => Same H2 H' ∧ H' ll = some (.lst (((outs.take i).map fun o => (o.length : Int)).map V.int)))
      ⟨same_upd nll, upd_same⟩ (fun i H' _ ⟨s3, _⟩ => SqL.of (s3 _ _ (s2 _ _ ho))) ?_ ?_
    · rintro i y H' hi ⟨s3, hll⟩
      obtain ⟨hil, p, rfl, _, hp⟩ := rd i y hi
      refine ⟨rfl, _, rfl, p, _, rfl, .inl (SqL.of (s3 _ _ (s2 _ _ hp))), _, hll, by rw [List.length_map, List.length_map]; exact small1000 (Nat.le_trans (List.length_take_le' _ _) (by omega)), fun b o e => ?_, ?_⟩
      · rw [upd_ne (ne_of_none e nll)]
        exact s3 _ _ e
      · rw [upd_same, List.take_add_one, og_get hil, List.length_map, List.map_append, List.map_append]; rfl
    rintro H3 ⟨s3, hll⟩
    rw [List.length_map, hpl, List.take_length] at hll
    -- [1 for one in outs]
    refine ⟨_, rfl, lo, rfl, ⟨_, SqL.of (s3 _ _ (s2 _ _ ho))⟩, fun lm nlm => ?_⟩
    refine lc_list (K := K_) (a := lo) (xs := ps.map V.ref) (fun i H' => Same H3 H' ∧ H' lm = some (.lst (((outs.take i).map fun _ => (1 : Int)).map V.int)))
      ⟨same_upd nlm, upd_same⟩ (fun i H' _ ⟨s4, _⟩ => SqL.of (s4 _ _ (s3 _ _ (s2 _ _ ho)))) ?_ ?_
    · rintro i y H' hi ⟨s4, hlm⟩
      obtain ⟨hil, p, rfl, _, hp⟩ := rd i y hi
      refine ⟨rfl, _, hlm, by rw [List.length_map, List.length_map]; exact small1000 (Nat.le_trans (List.length_take_le' _ _) (by omega)), fun b o e => ?_, ?_⟩
      · rw [upd_ne (ne_of_none e nlm)]
        exact s4 _ _ e
      · rw [upd_same, List.take_add_one, og_get hil, List.map_append, List.map_append]; rfl
    rintro H4 ⟨s4, hlm⟩
    rw [List.length_map, hpl, List.take_length] at hlm
    refine ⟨by show 3 ≤ sizeLine; decide, fun tt ntt => ?_⟩
    have s5 := same_upd (o := .tup [.ref lb, .ref ll, .ref lm]) ntt
    have htt : (upd H4 tt (.tup [.ref lb, .ref ll, .ref lm])) tt = some (.tup [.ref lb, .ref ll, .ref lm]) := upd_same
    have D : LD H1 lb ll lm qs outs.length := by
      refine ⟨hql, hnd, nlb, s2.free nll, (s2.trans s3).free nlm, fun q hq => ?_, ne_of_none hb nll, ne_of_none (s3 _ _ hb) nlm, ne_of_none hll nlm⟩
      obtain ⟨z1, z2, z3⟩ := hqs q hq
      exact ⟨z1, z2, ne_of_none z3 nll, ne_of_none (s3 _ _ z3) nlm⟩
    have L : LH H1 (upd H4 tt (.tup [.ref lb, .ref ll, .ref lm])) lb ll lm qs (bkf outs 0 0) (outs.map fun o => (o.length : Int)) (outs.map fun _ => (1 : Int)) := by
      refine ⟨((s2.trans s3).trans s4).trans s5, s5 _ _ (s4 _ _ (s3 _ _ hb)), fun j q hj => ?_, s5 _ _ (s4 _ _ hll), s5 _ _ hlm⟩
      rw [bkf_zero]
      exact s5 _ _ (s4 _ _ (s3 _ _ (hqs q (List.mem_of_getElem? hj)).2.2))
    generalize upd H4 tt (.tup [.ref lb, .ref ll, .ref lm]) = H5 at htt L ⊢
    refine ⟨tt, _, rfl, SqT.of htt, rfl, _, _, rfl, _, _, rfl, _, _, rfl, rfl, ?_⟩
    have hleft : KO outs [] (outs.map fun o => (o.length : Int)) (outs.map fun _ => (1 : Int)) ((List.range outs.length).filter fun k => decide ((og outs k).length = 0)) :=
      KO.start (List.Nodup.sublist List.filter_sublist List.nodup_range) fun k => by rw [List.mem_filter, List.mem_range]; simp
    generalize hl0 : (outs.map fun o => (o.length : Int)) = left0 at L hleft
    generalize hb0 : (outs.map fun _ => (1 : Int)) = best0 at L hleft
    -- backs
    refine ⟨_, rfl, lo, _, rfl, SqL.of (L.sm _ _ ho), for_it walk_enum (fun i σ H' => ∃ a7 a8 a9 : Option V, σ = [some (.ref r), some (.int s), some (.ref lo), some (.ref lb), some (.ref ll), some (.ref lm), none, a7, a8, a9, none, none] ∧
      LH H1 H' lb ll lm qs (bkf outs i 0) left0 best0) ⟨none, none, none, rfl, L⟩ (fun i σ H' _ ⟨_, _, _, _, L⟩ => SqL.of (L.sm _ _ ho)) ?_ ?_⟩
    · rintro i x σ H6 H7 hi ⟨a7, a8, a9, rfl, L⟩ ⟨T, x1, x2, rfl, nT, rfl, e1, e2⟩
      obtain ⟨hil, p, rfl, hp0, hp⟩ := rd i _ e2
      cases e1
      have L := L.same (same_upd (o := .tup [.int (i : Nat), .ref p]) nT)
      refine ⟨T, _, rfl, SqT.of upd_same, rfl, _, _, rfl, _, _, rfl, rfl, ?_⟩
      refine ⟨_, rfl, p, rfl, ⟨_, SqL.of (L.sm _ _ hp)⟩, for_list (K := K_) (a := p) (xs := (og outs i).map nV) (fun l σ H' => ∃ a9 : Option V, σ = [some (.ref r), some (.int s), some (.ref lo), some (.ref lb), some (.ref ll), some (.ref lm), none, some (.int (i : Nat)), some (.ref p), a9, none, none] ∧
        LH H1 H' lb ll lm qs (bkf outs i l) left0 best0) ⟨a9, rfl, L⟩ (fun l σ H' _ ⟨_, _, L⟩ => SqL.of (L.sm _ _ hp)) ?_ ?_⟩
      · rintro l y σ H8 hj ⟨a9, rfl, L⟩
        rw [List.getElem?_map] at hj
        obtain ⟨t, ht, rfl⟩ := Option.map_eq_some_iff.mp hj
        have htn := N.lt i t (List.mem_of_getElem? ht)
        have hqt : qs[t]? = some (qs[t]'(by omega)) := List.getElem?_eq_getElem _
        generalize qs[t]'(by omega) = q at hqt
        have hq := L.hq t q hqt
        have hsh := bkf_short outs i l t
        refine ⟨_, rfl, _, rfl, lb, _, t, .ref q, rfl, rfl, SqL.of L.hb, atI_nat (j := t) (by rw [List.getElem?_map, hqt]; rfl), .inl ⟨rfl, _, SqL.of hq⟩, _, rfl, q, _, _, rfl, rfl, hq, by rw [List.length_map]; exact small1000 (by omega), ?_⟩
        have L2 := L.putq D hqt (bkf outs i l t ++ [i])
        rw [List.map_append] at L2
        exact ⟨_, rfl, L2.congr fun j _ => bkf_step outs (N.nd i) ht j⟩
      · rintro σ H8 ⟨a9, rfl, L⟩
        rw [List.length_map] at L
        exact ⟨_, _, _, rfl, L.congr fun j _ => bkf_next outs i j⟩
    rintro σ H6 ⟨a7, a8, a9, rfl, L⟩
    rw [List.length_map, hpl] at L
    have hlenl : left0.length = outs.length := by rw [← hl0, List.length_map]
    -- done, spot
    refine ⟨_, rfl, lo, _, rfl, .inl (SqL.of (L.sm _ _ ho)), _, rfl, ?_⟩
    rw [List.length_map, hpl]
    refine ⟨by omega, by omega, fun ld nld => ?_⟩
    rw [show ((outs.length : Nat) : Int).toNat = outs.length by omega]
    refine lc_range (lo := 0) (n := outs.length) (fun i H' => Same H6 H' ∧ H' ld = some (.lst (((List.range i).filter fun k => decide ((og outs k).length = 0)).map nV))) ⟨same_upd nld, upd_same⟩ ?_ ?_
    · rintro i H' hi ⟨s7, hld⟩
      have hli : left0[i]? = some ((og outs i).length : Int) := by rw [← hl0, List.getElem?_map, og_get hi]; rfl
      refine ⟨rfl, _, rfl, _, rfl, ll, _, _, _, rfl, rfl, SqL.of (s7 _ _ L.hl), by rw [Int.zero_add]; exact atI_nat (j := i) (by rw [List.getElem?_map, hli]; rfl), rfl, _, rfl, ?_⟩
      have htk : (List.range (i + 1)).filter (fun k => decide ((og outs k).length = 0)) = (List.range i).filter (fun k => decide ((og outs k).length = 0)) ++ (if (og outs i).length = 0 then [i] else []) := by
        rw [List.range_succ, List.filter_append, List.filter_cons]
        by_cases h : (og outs i).length = 0
        · rw [if_pos h, if_pos (by simpa using h)]; rfl
        · rw [if_neg h, if_neg (by simpa using h)]; rfl
      refine ite2 (fun hc => ?_) (fun hc => ?_)
      · have hc : (og outs i).length = 0 := by simpa using hc
        refine ⟨_, rfl, _, hld, ?_, fun b o e => ?_, ?_⟩
        · rw [List.length_map]
          have := List.length_filter_le (fun k => decide ((og outs k).length = 0)) (List.range i)
          rw [List.length_range] at this
          exact small1000 (by omega)
        · rw [upd_ne (ne_of_none e nld)]
          exact s7 _ _ e
        · rw [upd_same, htk, if_pos hc, List.map_append, Int.zero_add]; rfl
      · have hc : ¬ (og outs i).length = 0 := by simpa using hc
        refine ⟨s7, ?_⟩
        rw [htk, if_neg hc, List.append_nil]
        exact hld
    rintro H7 ⟨s7, hld⟩
    refine ⟨_, _, rfl, ?_⟩
    have e1 := ne_of_none L.hb nld
    have e2 := ne_of_none L.hl nld
    have e3 := ne_of_none L.hm nld
    have e4 : ld ∉ qs := fun hm => by
      obtain ⟨i, hi, q⟩ := List.getElem_of_mem hm
      have := L.hq i _ (List.getElem?_eq_getElem hi)
      rw [q, nld] at this
      cases this
    have e0 := L.sm.free nld
    have L := L.same s7
    -- while
    refine ⟨fun m σ H' => ∃ (P : List Nat) (left best : List Int) (done : List Nat) (a7 : Option V), σ = [some (.ref r), some (.int s), some (.ref lo), some (.ref lb), some (.ref ll), some (.ref lm), none, a7, a8, a9, some (.ref ld), some (.int (P.length : Nat))] ∧
      m = outs.length - P.length ∧ LH H1 H' lb ll lm qs (bkf outs outs.length 0) left best ∧ H' ld = some (.lst (done.map nV)) ∧ KO outs P left best done, ⟨outs.length, [], left0, best0, _, a7, rfl, rfl, L, hld, hleft⟩, ?_⟩
    clear hleft hld L hl0 hb0 hlenl
    rintro m σ H8 ⟨P, left, best, done, a7, rfl, rfl, L, hld, K⟩
    have hdl := K.done_le
    refine ⟨_, rfl, _, rfl, ld, _, rfl, .inl (SqL.of hld), _, _, rfl, rfl, _, rfl, ?_⟩
    rw [List.length_map]
    refine ite2 (fun hc => ?_) (fun hc => ?_)
    · have hc : P.length < done.length := by simpa using hc
      have hd : done[P.length]? = some done[P.length] := List.getElem?_eq_getElem hc
      generalize done[P.length] = d at hd
      have K0 := K.enter hd
      have hdn : d < outs.length := K.j.lt d (List.mem_of_getElem? hd)
      have hqt : qs[d]? = some (qs[d]'(by omega)) := List.getElem?_eq_getElem _
      generalize qs[d]'(by omega) = q at hqt
      have hq := L.hq d q hqt
      refine ⟨fun σ' H' => ∃ m', m' < outs.length - P.length ∧ ∃ (P : List Nat) (left best : List Int) (done : List Nat) (a7 : Option V), σ' = [some (.ref r), some (.int s), some (.ref lo), some (.ref lb), some (.ref ll), some (.ref lm), none, a7, a8, a9, some (.ref ld), some (.int (P.length : Nat))] ∧
        m' = outs.length - P.length ∧ LH H1 H' lb ll lm qs (bkf outs outs.length 0) left best ∧ H' ld = some (.lst (done.map nV)) ∧ KO outs P left best done, fun _ _ h => h, ?_⟩
      refine ⟨_, rfl, _, rfl, _, rfl, ld, _, _, _, rfl, rfl, SqL.of hld, atI_nat (j := P.length) (by rw [List.getElem?_map, hd]; rfl), lb, _, _, .ref q, rfl, rfl, SqL.of L.hb, atI_nat (j := d) (by rw [List.getElem?_map, hqt]; rfl), q, rfl, ⟨_, SqL.of hq⟩,
        for_list (K := K_) (a := q) (xs := (bkf outs outs.length 0 d).map nV) (fun l σ H' => ∃ (left best : List Int) (done : List Nat) (a7 : Option V), σ = [some (.ref r), some (.int s), some (.ref lo), some (.ref lb), some (.ref ll), some (.ref lm), none, a7, a8, a9, some (.ref ld), some (.int (P.length : Nat))] ∧
          LH H1 H' lb ll lm qs (bkf outs outs.length 0) left best ∧ H' ld = some (.lst (done.map nV)) ∧ KB outs P d ((bkf outs outs.length 0 d).take l) left best done) ⟨left, best, done, a7, rfl, L, hld, K0⟩ (fun l σ H' _ ⟨_, _, _, _, _, L, _⟩ => SqL.of (L.hq d q hqt)) ?_ ?_⟩
      · rintro l y σ H9 hj ⟨left, best, done, a7, rfl, L, hld, K1⟩
        rw [List.getElem?_map] at hj
        obtain ⟨kk, hkk, rfl⟩ := Option.map_eq_some_iff.mp hj
        obtain ⟨hkn, hdk⟩ := bkf_mem.mp (List.mem_of_getElem? hkk)
        have hB : kk ∉ (bkf outs outs.length 0 d).take l := fun hm => by
          obtain ⟨i, hi1, hi2⟩ := List.getElem_of_mem hm
          rw [List.length_take] at hi1
          have : (bkf outs outs.length 0 d)[i]? = some kk := by
            rw [← hi2, List.getElem_take]
            exact List.getElem?_eq_getElem _
          have := nodup_at (bkf_nodup outs d) this hkk
          omega
        have K2 := K1.step N hkn hdk hB
        have htk : (bkf outs outs.length 0 d).take (l + 1) = (bkf outs outs.length 0 d).take l ++ [kk] := by rw [List.take_add_one, hkk]; rfl
        rw [← htk] at K2
        obtain ⟨bk, hbk, _⟩ := K1.j.bs kk hkn
        obtain ⟨bd, hbd, _⟩ := K1.j.bs d hdn
        have hlk := K1.j.lf kk hkn
        generalize (lack (og outs kk) _ : Int) = lk at hlk
        have hdd : done[P.length]? = some d := by
          obtain ⟨more, e⟩ := K1.pre
          rw [e, List.getElem?_append_right (Nat.le_refl _), Nat.sub_self]; rfl
        have hbl := K1.j.lenB
        have hll := K1.j.lenL
        have hks : kstep d kk (left, best, done) = (left.set kk (lk - 1), best.set kk (max bk (bd + 1)), if lk - 1 = 0 then done ++ [kk] else done) := by
          unfold kstep
          simp only [List.getD_eq_getElem?_getD, hbk, hbd, hlk, Option.getD_some]
        rw [hks] at K2
        refine ⟨_, rfl, _, rfl, lm, _, _, .int bk, rfl, rfl, SqL.of L.hm, atI_nat (j := kk) (by rw [List.getElem?_map, hbk]; rfl), _, rfl, _, rfl, _, rfl, ld, _, _, nV d, rfl, rfl, SqL.of hld, atI_nat (j := P.length) (by rw [List.getElem?_map, hdd]; rfl),
          lm, _, _, .int bd, rfl, rfl, SqL.of L.hm, atI_nat (j := d) (by rw [List.getElem?_map, hbd]; rfl), bd, 1, rfl, rfl, bk, bd + 1, rfl, _, rfl, _, rfl, lm, _, _, kk, rfl, rfl, L.hm, ixN_at (by rw [List.length_map]; omega), ?_⟩
        have hmx : (if bd + 1 > bk then bd + 1 else bk) = max bk (bd + 1) := by
          split <;> omega
        rw [hmx]
        have L2 := L.putm D (best.set kk (max bk (bd + 1)))
        rw [List.map_set] at L2
        have hld2 : (upd H9 lm (.lst ((best.map V.int).set kk (.int (max bk (bd + 1)))))) ld = some (.lst (done.map nV)) := by rw [upd_ne e3.symm]; exact hld
        generalize upd H9 lm (.lst ((best.map V.int).set kk (.int (max bk (bd + 1))))) = H10 at L2 hld2 ⊢
        refine ⟨_, rfl, _, rfl, ll, _, _, .int lk, rfl, rfl, SqL.of L2.hl, atI_nat (j := kk) (by rw [List.getElem?_map, hlk]; rfl), lk, 1, rfl, rfl, _, rfl, _, rfl, ll, _, _, kk, rfl, rfl, L2.hl, ixN_at (by rw [List.length_map]; omega), ?_⟩
        have L3 := L2.putl D (left.set kk (lk - 1))
        rw [List.map_set] at L3
        have hld3 : (upd H10 ll (.lst ((left.map V.int).set kk (.int (lk - 1))))) ld = some (.lst (done.map nV)) := by rw [upd_ne e2.symm]; exact hld2
        have hl3 := L3.hl
        generalize upd H10 ll (.lst ((left.map V.int).set kk (.int (lk - 1)))) = H11 at L3 hld3 hl3 ⊢
        refine ⟨_, rfl, _, rfl, ll, _, _, .int (lk - 1), rfl, rfl, SqL.of hl3, atI_nat (j := kk) (by rw [List.getElem?_map, List.getElem?_set_self (by omega)]; rfl), rfl, _, rfl, ?_⟩
        refine ite2 (fun hz => ?_) (fun hz => ?_)
        · have hz : lk - 1 = 0 := by simpa using hz
          rw [if_pos hz] at K2
          have hdl2 := K1.j.nd
          have hdl3 : done.length ≤ outs.length := by
            have := nodup_le (U := List.range outs.length) hdl2 fun x hx => List.mem_range.mpr (K1.j.lt x hx)
            rwa [List.length_range] at this
          refine ⟨_, rfl, .inl ⟨rfl, _, SqL.of hld3⟩, _, rfl, ld, _, _, rfl, rfl, hld3, by rw [List.length_map]; exact small1000 (by omega), ?_⟩
          exact ⟨_, _, _, _, rfl, L3.off e0 e1.symm e2.symm e3.symm e4, by rw [upd_same, List.map_append]; rfl, K2⟩
        · have hz : ¬ lk - 1 = 0 := by simpa using hz
          rw [if_neg hz] at K2
          exact ⟨_, _, _, _, rfl, L3, hld3, K2⟩
      · rintro σ H9 ⟨left, best, done, a7, rfl, L, hld, K2⟩
        rw [List.length_map, List.take_length] at K2
        have K3 := K2.leave fun k hk => by rw [bkf_mem]; exact ⟨fun h => h.2, fun h => ⟨hk, h⟩⟩
        have hdl3 := K3.done_le
        have hpp : (P ++ [d]).length ≤ done.length := by
          obtain ⟨more, e⟩ := K3.pre
          have := congrArg List.length e
          simp only [List.length_append] at this ⊢
          omega
        rw [List.length_append, List.length_singleton] at hpp
        refine ⟨_, rfl, _, 1, rfl, rfl, outs.length - (P ++ [d]).length, ?_, P ++ [d], left, best, done, a7, ?_, rfl, L, hld, K3⟩
        · rw [List.length_append, List.length_singleton]; omega
        · rw [List.length_append, List.length_singleton]; rfl
    · have hc : ¬ P.length < done.length := by simpa using hc
      obtain ⟨more, e⟩ := K.pre
      have em : more = [] := by
        rw [e, List.length_append] at hc
        exact List.length_eq_zero_iff.mp (by omega)
      subst em
      rw [List.append_nil] at e
      subst e
      obtain ⟨hv, hbd⟩ := longest_is G.toFits (outer_ge G.asc s) (Int.le_refl s) S.le B hl K
      refine ⟨_, rfl, ld, _, rfl, .inl (SqL.of hld), _, rfl, lo, _, rfl, .inl (SqL.of (L.sm _ _ ho)), rfl, _, rfl, ?_⟩
      rw [List.length_map, List.length_map, hpl]
      refine ite2 (fun hc => ?_) (fun hc => ?_)
      · have hc : done.length = outs.length := by
          have : ((done.length : Nat) : Int) = (outs.length : Nat) := by simpa using hc
          omega
        rw [if_pos hc] at hv
        have h0 : 0 < outs.length := by rw [hl]; exact (List.getElem?_eq_some_iff.mp B.first).1
        obtain ⟨b, hb, _⟩ := K.j.bs 0 h0
        refine ⟨_, rfl, lm, _, 0, .int b, rfl, rfl, SqL.of L.hm, atI_nat (j := 0) (by rw [List.getElem?_map, hb]; rfl), ?_⟩
        have := k H8 (s1.trans L.sm) (fun b e => by have := hbd b e; omega)
        rw [← hv, hb] at this
        exact this
      · have hc : ¬ done.length = outs.length := fun z => hc (by rw [z]; simp)
        rw [if_neg hc] at hv
        have := k H8 (s1.trans L.sm) (fun b e => by have := hbd b e; omega)
        rw [← hv] at this
        exact this
end
end K37
set_option Elab.async false
set_option linter.all false
set_option maxRecDepth 100000
/-! The feed and its draws. -/
namespace K37
open PySem PySem.Spec PyProof.Rows L2
def fk (cl : Addr) (spot rest turn : Int) : List (Key × V) := [(.inr "cells", .ref cl), (.inr "spot", .int spot), (.inr "rest", .int rest), (.inr "turn", .int turn)]
theorem fk_cells (cl : Addr) (a b c : Int) : valV (fk cl a b c) (.inr "cells") = some (.ref cl) := rfl
theorem fk_spot (cl : Addr) (a b c : Int) : valV (fk cl a b c) (.inr "spot") = some (.int a) := rfl
theorem fk_rest (cl : Addr) (a b c : Int) : valV (fk cl a b c) (.inr "rest") = some (.int b) := rfl
theorem fk_turn (cl : Addr) (a b c : Int) : valV (fk cl a b c) (.inr "turn") = some (.int c) := rfl
theorem put_spot (cl : Addr) (a b c d : Int) : putK (fk cl a b c) (.inr "spot") (.int d) = fk cl d b c := rfl
theorem put_rest (cl : Addr) (a b c d : Int) : putK (fk cl a b c) (.inr "rest") (.int d) = fk cl a d c := rfl
theorem put_turn (cl : Addr) (a b c d : Int) : putK (fk cl a b c) (.inr "turn") (.int d) = fk cl a b d := rfl
/-- the feed at d: fewer than 64 cells; at most B draws so far -/
structure FeedIs (H : Hp) (d cl : Addr) (cells : List Int) (spot rest turn : Int) : Prop where
  at_ : H d = some (.dK (fk cl spot rest turn))
  cl_ : H cl = some (.lst (cells.map V.int))
def FeedAt (H : Hp) (d cl : Addr) (B : Nat) : Prop := ∃ (cells : List Int) (spot rest turn : Int), FeedIs H d cl cells spot rest turn ∧ cells.length ≤ 63 ∧ 0 ≤ spot ∧ 0 ≤ turn ∧ turn ≤ B
section
variable {H H' : Hp} {d cl : Addr} {cells : List Int} {a b c x : Int} {B B' : Nat}
theorem FeedAt.mono (h : FeedAt H d cl B) (hb : B ≤ B') : FeedAt H d cl B' := by
  obtain ⟨cs, s, r, t, h1, h2, h3, h4, h5⟩ := h
  exact ⟨cs, s, r, t, h1, h2, h3, h4, by omega⟩
theorem FeedAt.same (h : FeedAt H d cl B) (s : Same H H') : FeedAt H' d cl B := by
  obtain ⟨cs, s', r, t, ⟨h1, h1'⟩, h2⟩ := h
  exact ⟨cs, s', r, t, ⟨s _ _ h1, s _ _ h1'⟩, h2⟩
theorem FeedAt.off (h : FeedAt H d cl B) {a : Addr} {o : HO} (e1 : a ≠ d) (e2 : a ≠ cl) : FeedAt (upd H a o) d cl B := by
  obtain ⟨cs, s', r, t, ⟨h1, h1'⟩, h2⟩ := h
  exact ⟨cs, s', r, t, ⟨by rw [upd_ne e1.symm]; exact h1, by rw [upd_ne e2.symm]; exact h1'⟩, h2⟩
theorem FeedAt.new (h : FeedAt H d cl B) {a : Addr} (n : H a = none) : a ≠ d ∧ a ≠ cl := by
  obtain ⟨cs, s', r, t, ⟨h1, h1'⟩, h2⟩ := h
  exact ⟨(fun z => by rw [z, h1] at n; cases n), (fun z => by rw [z, h1'] at n; cases n)⟩
theorem FeedIs.get (F : FeedIs H d cl cells a b c) (k : Str) {v : V} (h : valV (fk cl a b c) (.inr k) = some v) : DGet H d (.str k) (some v) := by
  rw [← h]
  exact DGet.k (k := .inr k) F.at_
theorem FeedIs.put (F : FeedIs H d cl cells a b c) {a' b' c' : Int} : FeedIs (upd H d (.dK (fk cl a' b' c'))) d cl cells a' b' c' :=
  ⟨upd_same, by rw [upd_ne fun z => by have := F.cl_; rw [z, F.at_] at this; cases this]; exact F.cl_⟩
theorem FeedIs.spot (F : FeedIs H d cl cells a b c) : DPut H d (.str "spot") (.int x) (upd H d (.dK (fk cl x b c))) := by
  rw [← put_spot cl a b c x]
  exact DPut.k (k := .inr "spot") F.at_ (by show 4 < sizeLine; decide)
theorem FeedIs.rest (F : FeedIs H d cl cells a b c) : DPut H d (.str "rest") (.int x) (upd H d (.dK (fk cl a x c))) := by
  rw [← put_rest cl a b c x]
  exact DPut.k (k := .inr "rest") F.at_ (by show 4 < sizeLine; decide)
theorem FeedIs.turn (F : FeedIs H d cl cells a b c) : DPut H d (.str "turn") (.int x) (upd H d (.dK (fk cl a b x))) := by
  rw [← put_turn cl a b c x]
  exact DPut.k (k := .inr "turn") F.at_ (by show 4 < sizeLine; decide)
end
abbrev sDraw : Stmt := topS 26
theorem scDraw : FnScope ["_law_feed_here", "_law_size", "_law_digit", "_law_cells", "_law_spot", "_law_cell", "_law_value"] ["_law_feed_here", "_law_size"] (defScope sDraw) := ⟨rfl, rfl, rfl, by decide +kernel, rfl, by decide +kernel, by decide +kernel⟩
def spDraw : Sp := fun vs H Q _ => ∃ (d cl : Addr) (B : Nat) (n : Int), vs = [.ref d, .int n] ∧ FeedAt H d cl B ∧ 0 < n ∧ n ≤ 1000 ∧ B ≤ 100000 ∧ ∀ H' i, Kp d H H' → FeedAt H' d cl (B + 1) → 0 ≤ i → i < n → Q (.int i) H'
section
variable {P : Program} {w : World} {K : PySem.W.Frag} {mg : Str → Option Value} {base : Heap} {f C : Addr} {fd : FuncData}
theorem ok_draw (F : Fun K "_law_draw" "_law_draw" sDraw f fd) (ml : mg "len" = none) (mi : mg "int" = none) : FnOk P w K mg base CX0 1 f fd ["_law_feed_here", "_law_size"] spDraw := by
  refine F.ok scDraw (fun vs H Q E h => ?_) (fun cdv A outer s H vs Q E hr h => ?_)
  · obtain ⟨d, cl, B, n, rfl, _⟩ := h
    rfl
  · obtain ⟨d, cl, B, n, rfl, ⟨cells, spot, rest, turn, F0, hcl, hs, ht, htB⟩, hn, hn2, hB, k⟩ := h
    have hu := hu_of hr
    refine ⟨_, pss_cons (ps_dput hu (pv 0) pe_str (pe_op op_add (pe_dget hu (pv 0) pe_str (fun _ _ => rfl)) pe_int) rfl)
      (pss_cons (ps_if (pt_cmpR op_gt (pe_dget hu (pv 0) pe_str (fun _ _ => rfl)) pe_int (nomark _))
        (pss_cons (ps_set (i := 2) scDraw.nd rfl (Or.inl rfl) (pe_op op_mod (pe_callTy call_int1 (by rfl) mi boot_int (pa_cons (pe_dget hu (pv 0) pe_str (fun _ _ => rfl)) pa_nil)) (pv 1)))
        (pss_cons (ps_dput hu (pv 0) pe_str (pe_op op_fdiv (pe_callTy call_int1 (by rfl) mi boot_int (pa_cons (pe_dget hu (pv 0) pe_str (fun _ _ => rfl)) pa_nil)) (pv 1)) rfl)
        (pss_one (ps_ret (pv 2))))) pss_nil)
      (pss_cons (ps_par (i := 3) (j := 4) rfl scDraw.nd rfl rfl (by decide) rfl rfl (pa_cons (pe_dget hu (pv 0) pe_str (fun _ _ => rfl)) (pa_cons (pe_dget hu (pv 0) pe_str (fun _ _ => rfl)) pa_nil)) (by rfl))
      (pss_cons (ps_dput hu (pv 0) pe_str (pe_op op_add (pv 4) pe_int) rfl)
      (C8.pss_cut (ps_set (i := 5) scDraw.nd rfl (Or.inl rfl) (pe_ifExp (pt_cmpR (op_neD hr.units) (pv 3) (pe_lst pa_nil) (nomark _))
        (pe_ix ix_list (pv 3) (pe_op op_mod (pe_callTy call_int1 (by rfl) mi boot_int (pa_cons (pv 4) pa_nil)) (pe_callB call_len_seq (by rfl) ml PySem.boot_len (pa_cons (pv 3) pa_nil))) (fun _ _ => rfl)) pe_int))
      (C8.pss_cut (ps_if (PW.pt (pw_and (pt_cmpR op_ge (pv 5) (pe_op op_pow pe_int pe_int) (nomark _)) (pw_and1 (pt_cmpR op_lt (pv 4) (pe_callB call_len_seq (by rfl) ml PySem.boot_len (pa_cons (pv 3) pa_nil)) (nomark _)))))
        (pss_cons (ps_dput hu (pv 0) pe_str (pe_op op_fdiv (pe_callTy call_int1 (by rfl) mi boot_int (pa_cons (pv 5) pa_nil)) (pv 1)) rfl)
        (pss_one (ps_ret (pe_op op_mod (pe_callTy call_int1 (by rfl) mi boot_int (pa_cons (pv 5) pa_nil)) (pv 1))))) pss_nil)
      (pss_cons (ps_set (i := 6) scDraw.nd rfl (Or.inl rfl) (pe_op op_mod (pe_callTy call_int1 (by rfl) mi boot_int (pa_cons (pe_op op_add (pe_op op_add (pe_op op_mod (pe_callTy call_int1 (by rfl) mi boot_int (pa_cons (pv 5) pa_nil)) pe_int) (pe_op op_mul pe_int (pe_dget hu (pv 0) pe_str (fun _ _ => rfl)))) pe_int) pa_nil)) pe_int))
      (pss_cons (ps_set (i := 6) scDraw.nd rfl (Or.inl rfl) (pe_op op_mod (pe_callTy call_int1 (by rfl) mi boot_int (pa_cons (pe_op op_add (pe_op op_add (pe_op op_mul (pv 6) (pv 6)) (pe_op op_mul (pe_op op_mul pe_int (pe_dget hu (pv 0) pe_str (fun _ _ => rfl))) (pe_dget hu (pv 0) pe_str (fun _ _ => rfl)))) pe_int) pa_nil)) pe_int))
      (pss_one (ps_ret (pe_op op_mod (pe_callTy call_int1 (by rfl) mi boot_int (pa_cons (pe_op op_fdiv (pe_op op_mod (pe_callTy call_int1 (by rfl) mi boot_int (pa_cons (pe_op op_add (pe_op op_add (pe_op op_mul (pv 6) (pv 6)) (pe_op op_mul pe_int (pv 6))) pe_int) pa_nil)) pe_int) pe_int) pa_nil)) (pv 1))))))))))), ?_⟩
    have hb1 : (B : Int) ≤ 100000 := by omega
    have md : ∀ i : Int, 0 ≤ i % n ∧ i % n < n := fun i => ⟨Int.emod_nonneg _ (by omega), Int.emod_lt_of_pos _ hn⟩
    -- the feed's other objects stay
    have kp : ∀ a b c : Int, Kp d H (upd H d (.dK (fk cl a b c))) := fun a b c x o e hx => by rw [upd_ne hx]; exact e
    refine ⟨_, rfl, d, _, rfl, F0.get "turn" (fk_turn ..), turn, 1, rfl, rfl, _, rfl, d, _, rfl, F0.turn, ?_⟩
    have F1 := F0.put (a' := spot) (b' := rest) (c' := turn + 1)
    refine ⟨_, rfl, d, _, rfl, F1.get "rest" (fk_rest ..), rest, 0, rfl, rfl, _, rfl, ?_⟩
    refine ite2 (fun hc => ?_) (fun hc => ?_)
    · refine ⟨_, rfl, d, _, rfl, F1.get "rest" (fk_rest ..), .inl ⟨rest, rfl, _, rfl, rest, n, rfl, rfl, hn, ?_⟩⟩
      refine ⟨_, rfl, d, _, rfl, F1.get "rest" (fk_rest ..), .inl ⟨rest, rfl, _, rfl, rest, n, rfl, rfl, ⟨hn, by omega⟩, _, rfl, d, _, rfl, F1.rest, ?_⟩⟩
      rw [upd_upd]
      exact ⟨_, rfl, k _ _ (kp _ _ _) ⟨cells, spot, rest / n, turn + 1, F0.put, hcl, hs, by omega, by omega⟩ (md rest).1 (md rest).2⟩
    refine ⟨_, rfl, d, _, rfl, F1.get "cells" (fk_cells ..), _, rfl, d, _, rfl, F1.get "spot" (fk_spot ..), _, _, rfl, ?_⟩
    refine ⟨_, rfl, spot, 1, rfl, rfl, _, rfl, d, _, rfl, F1.spot, ?_⟩
    rw [upd_upd]
    have F2 := F0.put (a' := spot + 1) (b' := rest) (c' := turn + 1)
    have kp2 := kp (spot + 1) rest (turn + 1)
    generalize upd H d (.dK (fk cl (spot + 1) rest (turn + 1))) = H2 at F2 kp2 ⊢
    -- cell
    refine ⟨fun σ H' => ∃ x : Int, σ = [some (.ref d), some (.int n), none, some (.ref cl), some (.int spot), some (.int x), none] ∧ Kp d H H' ∧ FeedIs H' d cl cells (spot + 1) rest (turn + 1), ⟨_, rfl, Nat.zero_le _, fun z nz => ?_⟩, ?_⟩
    · have s3 : Same H2 (upd H2 z (.lst [])) := same_upd nz
      have hcl3 := s3 _ _ F2.cl_
      have F3 : FeedIs (upd H2 z (.lst [])) d cl cells (spot + 1) rest (turn + 1) := ⟨s3 _ _ F2.at_, hcl3⟩
      have kp3 : Kp d H (upd H2 z (.lst [])) := fun b o e hb => s3 _ _ (kp2 b o e hb)
      obtain ⟨d1, d2, d3, d4, d5, d6, d7⟩ := eqD_nil (K := K) (SqL.of hcl3) (SqL.of (upd_same (H := H2) (a := z) (o := .lst [])))
      refine ⟨d1, d2, d3, d4, d5, d6, _, rfl, ?_⟩
      rw [d7]
      by_cases hnil : cells = []
      · rw [decide_eq_true hnil]
        exact iteF ⟨9101, rfl, kp3, F3⟩
      · rw [decide_eq_false hnil]
        have hpos : 0 < cells.length := List.length_pos_iff.mpr hnil
        have h1 : 0 ≤ spot % (cells.length : Int) := Int.emod_nonneg _ (by omega)
        have h2 : spot % (cells.length : Int) < cells.length := Int.emod_lt_of_pos _ (by omega)
        obtain ⟨j, hj⟩ : ∃ j : Nat, spot % (cells.length : Int) = (j : Int) := ⟨(spot % (cells.length : Int)).toNat, by omega⟩
        have hjl : j < cells.length := by omega
        refine iteT ⟨_, rfl, _, rfl, .inl ⟨spot, rfl, _, rfl, cl, _, rfl, .inl (SqL.of hcl3), spot, _, rfl, rfl, by rw [List.length_map]; show (0 : Int) < _; omega, cl, _, _, .int cells[j], rfl, rfl, SqL.of hcl3, ?_, ?_⟩⟩
        · rw [List.length_map, hj]
          exact atI_nat (by rw [List.getElem?_map, List.getElem?_eq_getElem hjl]; rfl)
        · exact ⟨_, rfl, kp3, F3⟩
    rintro σ H3 ⟨x, rfl, kp3, F3⟩
    have kp4 : ∀ a b c : Int, Kp d H (upd H3 d (.dK (fk cl a b c))) := fun a b c y o e hy => by rw [upd_ne hy]; exact kp3 _ _ e hy
    have fin : ∀ i : Int, Q (.int (i % n)) H3 := fun i => k _ _ kp3 ⟨cells, _, _, _, F3, hcl, by omega, by omega, by omega⟩ (md i).1 (md i).2
    refine ⟨fun σ H' => σ = [some (.ref d), some (.int n), none, some (.ref cl), some (.int spot), some (.int x), none] ∧ H' = H3, ⟨_, rfl, 10, 18, rfl, rfl, ⟨by decide, by decide, by decide⟩, x, _, rfl, rfl, _, rfl, ?_⟩, ?_⟩
    · refine ite2 (fun hc => ?_) (fun hc => ?_)
      · refine ⟨_, rfl, _, rfl, cl, _, rfl, .inl (SqL.of F3.cl_), spot, _, rfl, rfl, _, rfl, ?_⟩
        refine ite2 (fun hc => ?_) (fun hc => ?_)
        · refine ⟨_, rfl, .inl ⟨x, rfl, _, rfl, x, n, rfl, rfl, ⟨hn, by omega⟩, _, rfl, d, _, rfl, F3.rest, ?_⟩⟩
          exact ⟨_, rfl, .inl ⟨x, rfl, _, rfl, x, n, rfl, rfl, hn, k _ _ (kp4 _ _ _) ⟨cells, _, _, _, F3.put, hcl, by omega, by omega, by omega⟩ (md x).1 (md x).2⟩⟩
        · exact ⟨rfl, rfl⟩
      · exact iteF ⟨rfl, rfl⟩
    rintro σ H4 ⟨rfl, rfl⟩
    refine ⟨_, rfl, .inl ⟨x, rfl, x, 998244353, rfl, rfl, (show (0 : Int) < 998244353 by decide), _, rfl, d, _, rfl, F3.get "turn" (fk_turn ..), 80141, turn + 1, rfl, rfl, .inl ⟨by decide, by decide⟩, _, _, rfl, rfl, _, 53, rfl, rfl, .inl ⟨_, rfl, _, 2147483629, rfl, rfl, (show (0 : Int) < 2147483629 by decide), ?_⟩⟩⟩
    obtain ⟨v2, e2⟩ : ∃ v2, (x % 998244353 + 80141 * (turn + 1) + 53) % 2147483629 = v2 := ⟨_, rfl⟩
    have b1 : 0 ≤ v2 := by rw [← e2]; exact Int.emod_nonneg _ (by decide)
    have b2 : v2 < 2147483629 := by rw [← e2]; exact Int.emod_lt_of_pos _ (by decide)
    refine ⟨_, rfl, _, rfl, v2, v2, congrArg V.int e2, congrArg V.int e2, .inl ⟨by omega, by omega⟩, _, rfl, d, _, rfl, F3.get "turn" (fk_turn ..), 7001, turn + 1, rfl, rfl, .inl ⟨by decide, by decide⟩, _, rfl, d, _, rfl, F3.get "turn" (fk_turn ..), _, turn + 1, rfl, rfl, .inr ⟨by omega, by omega⟩, _, _, rfl, rfl, _, 89, rfl, rfl,
      .inl ⟨_, rfl, _, 2147483587, rfl, rfl, (show (0 : Int) < 2147483587 by decide), ?_⟩⟩
    obtain ⟨v4, e4⟩ : ∃ v4, (v2 * v2 + 7001 * (turn + 1) * (turn + 1) + 89) % 2147483587 = v4 := ⟨_, rfl⟩
    have b3 : 0 ≤ v4 := by rw [← e4]; exact Int.emod_nonneg _ (by decide)
    have b4 : v4 < 2147483587 := by rw [← e4]; exact Int.emod_lt_of_pos _ (by decide)
    exact ⟨_, rfl, _, rfl, v4, v4, congrArg V.int e4, congrArg V.int e4, .inl ⟨by omega, by omega⟩, _, rfl, 613, v4, rfl, congrArg V.int e4, .inl ⟨by decide, by decide⟩, _, _, rfl, rfl, _, 7, rfl, rfl, .inl ⟨_, rfl, _, 2147483579, rfl, rfl, (show (0 : Int) < 2147483579 by decide), _, 64, rfl, rfl, ⟨by decide, by decide⟩, .inl ⟨_, rfl, _, rfl, _, n, rfl, rfl, hn, fin _⟩⟩⟩
end
end K37
set_option Elab.async false
set_option linter.all false
set_option maxRecDepth 100000
/-! What the law draws: feed, any, moves, cuts, start. -/
namespace K37
open PySem PySem.Spec PyProof.Rows L2
theorem Kp.tr {d : Addr} {H H' H2 : Hp} (h : Kp d H H') (h2 : Kp d H' H2) : Kp d H H2 := fun b o e hb => h2 _ _ (h _ _ e hb) hb
theorem FeedAt.dk {H : Hp} {d cl : Addr} {B : Nat} (h : FeedAt H d cl B) : ∃ k, H d = some (.dK k) := by
  obtain ⟨cs, s, r, t, h1, _⟩ := h
  exact ⟨_, h1.at_⟩
theorem FeedAt.ne {H : Hp} {d a cl : Addr} {B : Nat} (h : FeedAt H d cl B) {o : HO} (e : H a = some o) (n : ∀ k, o ≠ .dK k) : a ≠ d := fun z => by
  obtain ⟨k, hk⟩ := h.dk
  rw [z, hk] at e
  cases e
  exact n _ rfl
theorem Kp.none {d a : Addr} {H H' : Hp} (h : Kp d H H') (n : H' a = none) (e : a ≠ d) : H a = none := by
  cases q : H a with
  | none => rfl
  | some o => rw [h _ _ q e] at n; cases n
theorem seqL_same {K : PySem.W.Frag} {H H' : Hp} {a : Addr} {xs : List V} (e : Same H H') (h : SqL K H a xs) : SqL K H' a xs := by
  rcases h with (h | ⟨o, h⟩) | h
  · exact .inl (.inl (e _ _ h))
  · exact .inl (.inr ⟨o, e _ _ h⟩)
  · exact .inr h
abbrev sFeed : Stmt := topS 25
abbrev sAny : Stmt := topS 27
abbrev sMoves : Stmt := topS 30
abbrev sCuts : Stmt := topS 32
abbrev sStart : Stmt := topS 34
theorem scFeed : FnScope ["_law_script", "_law_cell"] ["_law_script"] (defScope sFeed) := ⟨rfl, rfl, rfl, by decide +kernel, rfl, by decide +kernel, by decide +kernel⟩
theorem scAny : FnScope ["_law_feed_here", "_law_some"] ["_law_feed_here", "_law_some"] (defScope sAny) := ⟨rfl, rfl, rfl, by decide +kernel, rfl, by decide +kernel, by decide +kernel⟩
theorem scMoves : FnScope ["_law_case_here", "_law_is_last"] ["_law_case_here", "_law_is_last"] (defScope sMoves) := ⟨rfl, rfl, rfl, by decide +kernel, rfl, by decide +kernel, by decide +kernel⟩
theorem scCuts : FnScope ["_law_feed_here", "_law_size", "_law_spot", "_law_found", "_law_k"] ["_law_feed_here", "_law_size"] (defScope sCuts) := ⟨rfl, rfl, rfl, by decide +kernel, rfl, by decide +kernel, by decide +kernel⟩
theorem scStart : FnScope ["_law_feed_here", "_law_cuts_here", "_law_low", "_law_some", "_law_cut"] ["_law_feed_here", "_law_cuts_here"] (defScope sStart) := ⟨rfl, rfl, rfl, by decide +kernel, rfl, by decide +kernel, by decide +kernel⟩
def spFeed (K : PySem.W.Frag) : Sp := fun vs H Q _ => ∃ (a : Addr) (ns : List Int), vs = [.ref a] ∧ SqL K H a (ns.map V.int) ∧ ∀ H' d cl, Same H H' → H d = none → H cl = none → FeedAt H' d cl 0 → Q (.ref d) H'
def spAny : Sp := fun vs H Q _ => ∃ (d cl l : Addr) (B : Nat) (xs : List V), vs = [.ref d, .ref l] ∧ FeedAt H d cl B ∧ H l = some (.lst xs) ∧ xs ≠ [] ∧ xs.length ≤ 1000 ∧ B ≤ 100000 ∧ ∀ H' x, Kp d H H' → FeedAt H' d cl (B + 1) → x ∈ xs → Q x H'
def mvV (m : Mv) : V := .str m.str
def spMoves : Sp := fun vs H Q _ => ∃ (c : Int) (b : Bool), vs = [.int c, .bl b] ∧ ∀ H' l (ms : List Mv), Same H H' → H l = none → H' l = some (.lst (ms.map mvV)) → ms ≠ [] → ms.length ≤ 10 → Q (.ref l) H'
def spCuts : Sp := fun vs H Q _ => ∃ (d cl : Addr) (B : Nat), vs = [.ref d, .int 3] ∧ FeedAt H d cl B ∧ B ≤ 90000 ∧ ∀ H' t (cs : List Int), Kp d H H' → FeedAt H' d cl (B + 5) → H' t = some (.tup (cs.map V.int)) → Asc cs → cs.length ≤ 2 → (∀ c ∈ cs, -3 ≤ c ∧ c ≤ 7) → (∀ c ∈ cs, ∀ e ∈ cs, e - c ≤ 4) → Q (.ref t) H'
def spStart : Sp := fun vs H Q _ => ∃ (d cl t : Addr) (B : Nat), vs = [.ref d, .ref t] ∧ FeedAt H d cl B ∧ H t = some (.tup []) ∧ B ≤ 90000 ∧ ∀ H' c, Kp d H H' → FeedAt H' d cl (B + 1) → -4 ≤ c → c ≤ 1 → Q (.int c) H'
section
variable {P : Program} {w : World} {K : PySem.W.Frag} {mg : Str → Option Value} {base : Heap} {f C : Addr} {fd : FuncData}
theorem ok_any (F : Fun K "_law_any" "_law_any" sAny f fd) (ml : mg "len" = none) (cD : Cal P w K mg base 1 "_law_draw" ["_law_feed_here", "_law_size"] spDraw) : FnOk P w K mg base CX0 2 f fd ["_law_feed_here", "_law_some"] spAny := by
  refine F.ok scAny (fun vs H Q E h => ?_) (fun cdv A outer s H vs Q E hr h => ?_)
  · obtain ⟨d, cl, l, B, xs, rfl, _⟩ := h
    rfl
  · obtain ⟨d, cl, l, B, xs, rfl, FA, hl, hne, hxl, hB, k⟩ := h
    refine ⟨_, pss_one (ps_ret (pe_ix ix_list (pv 1) (pe_cal cD hr (pa_cons (pv 0) (pa_cons (pe_callB call_len_seq (by rfl) ml PySem.boot_len (pa_cons (pv 1) pa_nil)) pa_nil))) (fun _ _ => rfl))), ?_⟩
    have hpos : 0 < xs.length := List.length_pos_iff.mpr hne
    refine ⟨_, rfl, _, rfl, _, rfl, l, _, rfl, .inl (SqL.of hl), d, cl, B, _, rfl, FA, by omega, by omega, hB, fun H' i kp FA' h0 h1 => ?_⟩
    obtain ⟨j, rfl⟩ : ∃ j : Nat, i = (j : Int) := ⟨i.toNat, by omega⟩
    have hj : j < xs.length := by omega
    have hl' := kp _ _ hl (FA.ne hl fun _ z => nomatch z)
    exact ⟨l, _, _, xs[j], rfl, rfl, SqL.of hl', atI_nat (List.getElem?_eq_getElem hj), k _ _ kp FA' (List.getElem_mem hj)⟩
theorem ok_moves (F : Fun K "_law_moves" "_law_moves" sMoves f fd) : FnOk P w K mg base CX0 1 f fd ["_law_case_here", "_law_is_last"] spMoves := by
  refine F.ok scMoves (fun vs H Q E h => ?_) (fun cdv A outer s H vs Q E hr h => ?_)
  · obtain ⟨c, b, rfl, _⟩ := h
    rfl
  · obtain ⟨c, b, rfl, k⟩ := h
    refine ⟨_, pss_cons (ps_if (PW.pt (pw_and (pt_cmpR op_eq (pv 0) pe_int (nomark _)) (pw_and1 (pt_val (pv 1))))) (pss_one (ps_ret (pe_lst (pa_cons pe_str (pa_cons pe_str (pa_cons pe_str pa_nil)))))) pss_nil)
      (pss_one (ps_ret (pe_ifExp (pt_cmpR op_eq (pv 0) pe_int (nomark _)) (pe_lst (pa_cons pe_str (pa_cons pe_str (pa_cons pe_str (pa_cons pe_str (pa_cons pe_str pa_nil))))))
        (pe_lst (pa_cons pe_str (pa_cons pe_str (pa_cons pe_str (pa_cons pe_str (pa_cons pe_str (pa_cons pe_str pa_nil)))))))))), ?_⟩
    have fin : ∀ (ms : List Mv) (z : Addr), H z = none → ms ≠ [] → ms.length ≤ 10 → Q (.ref z) (upd H z (.lst (ms.map mvV))) := fun ms z nz h1 h2 => k _ z ms (same_upd nz) nz upd_same h1 h2
    have two : (tIf (tTest (tOp rEq (tVar 0) (tC (.int 2)))) (tLst (tCons (tC (.str "out")) (tCons (tC (.str "out")) (tCons (tC (.str "take")) (tCons (tC (.str "next")) (tCons (tC (.str "wait")) tNil))))))
        (tLst (tCons (tC (.str "take")) (tCons (tC (.str "take")) (tCons (tC (.str "take")) (tCons (tC (.str "next")) (tCons (tC (.str "wait")) (tCons (tC (.str "out")) tNil)))))))) (L2.start ["_law_case_here", "_law_is_last"] [.int c, .bl b]) H Q := by
      refine ⟨_, rfl, rfl, _, rfl, ?_⟩
      refine ite2 (fun hc => ?_) (fun hc => ?_)
      · exact ⟨by show 5 ≤ sizeLine; decide, fun z nz => fin [.out, .out, .take, .next, .wait] z nz (by simp) (by decide)⟩
      · exact ⟨by show 6 ≤ sizeLine; decide, fun z nz => fin [.take, .take, .take, .next, .wait, .out] z nz (by simp) (by decide)⟩
    refine ⟨_, rfl, rfl, _, rfl, ?_⟩
    refine ite2 (fun hc => ?_) (fun hc => ?_)
    · refine ⟨_, rfl, b, rfl, ?_⟩
      refine ite2 (fun hc => ?_) (fun hc => ?_)
      · exact ⟨by show 3 ≤ sizeLine; decide, fun z nz => fin [.out, .out, .next] z nz (by simp) (by decide)⟩
      · exact two
    · exact iteF two
theorem ok_start (F : Fun K "_law_start" "_law_start" sStart f fd) (ml : mg "list" = none) (cA : Cal P w K mg base 2 "_law_any" ["_law_feed_here", "_law_some"] spAny) : FnOk P w K mg base CX0 3 f fd ["_law_feed_here", "_law_cuts_here"] spStart := by
  refine F.ok scStart (fun vs H Q E h => ?_) (fun cdv A outer s H vs Q E hr h => ?_)
  · obtain ⟨d, cl, t, B, rfl, _⟩ := h
    rfl
  · obtain ⟨d, cl, t, B, rfl, FA, ht, hB, k⟩ := h
    refine ⟨_, pss_cons (ps_set (i := 2) scStart.nd rfl (Or.inl rfl) (pe_ifExp (pt_cmpR (op_neD hr.units) (pv 1) (pe_tup pa_nil) (nomark _)) (pe_ix ix_tup (pv 1) pe_int (fun _ _ => rfl)) pe_int))
      (pss_cons (ps_set (i := 3) scStart.nd rfl (Or.inl rfl) (pe_lst (pa_cons (pe_op op_sub (pv 2) pe_int) (pa_cons (pe_op op_sub (pv 2) pe_int) (pa_cons (pe_op op_sub (pv 2) pe_int) (pa_cons (pe_op op_sub (pv 2) pe_int) (pa_cons (pv 2) (pa_cons (pe_op op_add (pv 2) pe_int) pa_nil))))))))
      (pss_one (ps_ret (pe_cal cA hr (pa_cons (pv 0) (pa_cons (pe_op op_cat (pe_op op_cat (pv 3) (pe_callTy call_list_of (by rfl) ml (by decide +kernel) (pa_cons (pv 1) pa_nil)))
        (pe_lc (own := [("_law_cut", 4)]) (g := gName 4) (by rfl) scStart.nd (pi_tup (pv 1)) (blkOk_by (own := [("_law_cut", 4)]) (N := ["_law_feed_here", "_law_cuts_here", "_law_low", "_law_some", "_law_cut"]) (sc := defScope sStart) (by decide +kernel)) (fun _ _ _ _ _ => pg_name (i := 4) scStart.nd rfl (Or.inl rfl))
          (fun _ _ _ _ _ => pts_nil) (fun _ _ _ _ _ => pe_op op_add (pv 4) pe_int))) pa_nil)))))), ?_⟩
    refine ⟨_, rfl, Nat.zero_le _, fun z nz => ?_⟩
    have q1 : Same H (upd H z (.tup [])) := same_upd nz
    obtain ⟨d1, d2, d3, d4, d5, d6, d7⟩ := eqT_nil (K := K) (is := []) (SqT.of (q1 _ _ ht)) (SqT.of (upd_same (H := H) (a := z) (o := .tup [])))
    refine ⟨d1, d2, d3, d4, d5, d6, _, rfl, ?_⟩
    rw [d7]
    refine iteF ⟨_, rfl, 0, 4, rfl, rfl, _, rfl, 0, 3, rfl, rfl, _, rfl, 0, 2, rfl, rfl, _, rfl, 0, 1, rfl, rfl, _, rfl, _, rfl, 0, 1, rfl, rfl, by show 6 ≤ sizeLine; decide, fun l nl => ?_⟩
    have q2 := q1.trans (same_upd (o := .lst [.int (0 - 4), .int (0 - 3), .int (0 - 2), .int (0 - 1), .int 0, .int (0 + 1)]) nl)
    have hl : (upd (upd H z (.tup [])) l (.lst [.int (0 - 4), .int (0 - 3), .int (0 - 2), .int (0 - 1), .int 0, .int (0 + 1)])) l = some (.lst [.int (0 - 4), .int (0 - 3), .int (0 - 2), .int (0 - 1), .int 0, .int (0 + 1)]) := upd_same
    generalize upd (upd H z (.tup [])) l (.lst [.int (0 - 4), .int (0 - 3), .int (0 - 2), .int (0 - 1), .int 0, .int (0 + 1)]) = H2 at q2 hl ⊢
    refine ⟨_, rfl, _, rfl, _, rfl, t, _, rfl, .inr (SqT.of (q2 _ _ ht)), fun l2 nl2 => ?_⟩
    have q3 := same_upd (o := .lst []) nl2
    refine ⟨l, l2, _, _, rfl, rfl, q3 _ _ hl, upd_same, by show 6 + 0 ≤ sizeLine; decide, fun l3 nl3 => ?_⟩
    have q4 := (q2.trans q3).trans (same_upd (o := .lst ([.int (0 - 4), .int (0 - 3), .int (0 - 2), .int (0 - 1), .int 0, .int (0 + 1)] ++ [])) nl3)
    have hl3 : (upd (upd H2 l2 (.lst [])) l3 (.lst ([.int (0 - 4), .int (0 - 3), .int (0 - 2), .int (0 - 1), .int 0, .int (0 + 1)] ++ []))) l3 = some (.lst ([.int (0 - 4), .int (0 - 3), .int (0 - 2), .int (0 - 1), .int 0, .int (0 + 1)] ++ [])) := upd_same
    generalize upd (upd H2 l2 (.lst [])) l3 (.lst ([.int (0 - 4), .int (0 - 3), .int (0 - 2), .int (0 - 1), .int 0, .int (0 + 1)] ++ [])) = H3 at q4 hl3 ⊢
    refine ⟨_, rfl, t, rfl, ⟨_, SqT.of (q4 _ _ ht)⟩, fun D nD => ?_⟩
    refine lc_tup (K := K) (a := t) (xs := []) (fun i H' => H' = upd H3 D (.lst [])) rfl (fun i H' _ e => by rw [e]; exact SqT.of ((same_upd nD) _ _ (q4 _ _ ht))) (fun i x H' hi => by simp at hi) ?_
    rintro H4 rfl
    have q5 := q4.trans (same_upd (o := .lst []) nD)
    refine ⟨l3, D, _, _, rfl, rfl, (same_upd nD) _ _ hl3, upd_same, by show 6 + 0 ≤ sizeLine; decide, fun l4 nl4 => ?_⟩
    have q6 := q5.trans (same_upd (o := .lst (([.int (0 - 4), .int (0 - 3), .int (0 - 2), .int (0 - 1), .int 0, .int (0 + 1)] ++ []) ++ [])) nl4)
    refine ⟨d, cl, l4, B, _, rfl, FA.same q6, upd_same, by simp, by decide, by omega, fun H' x kp FA' hx => ?_⟩
    have key : ∃ c : Int, x = .int c ∧ -4 ≤ c ∧ c ≤ 1 := by
      simp at hx
      rcases hx with h | h | h | h | h | h
      · exact ⟨-4, h, by decide, by decide⟩
      · exact ⟨-3, h, by decide, by decide⟩
      · exact ⟨-2, h, by decide, by decide⟩
      · exact ⟨-1, h, by decide, by decide⟩
      · exact ⟨0, h, by decide, by decide⟩
      · exact ⟨1, h, by decide, by decide⟩
    obtain ⟨c, rfl, h1, h2⟩ := key
    exact k H' c (fun b o e hb => kp _ _ (q6 _ _ e) hb) FA' h1 h2
theorem ok_feed (F : Fun K "_law_feed" "_law_feed" sFeed f fd) (mi : mg "int" = none) : FnOk P w K mg base CX0 1 f fd ["_law_script"] (spFeed K) := by
  refine F.ok scFeed (fun vs H Q E h => ?_) (fun cdv A outer s H vs Q E hr h => ?_)
  · obtain ⟨a, ns, rfl, _⟩ := h
    rfl
  · obtain ⟨a, ns, rfl, ha, k⟩ := h
    refine ⟨_, pss_one (ps_ret (pe_disp (pps_cons pe_str (pe_lc (own := [("_law_cell", 1)]) (g := gName 1) (by rfl) scFeed.nd (pi_list (pe_slice sl_list (pv 0) po_none (po_some pe_int)))
        (blkOk_by (own := [("_law_cell", 1)]) (N := ["_law_script", "_law_cell"]) (sc := defScope sFeed) (by decide +kernel)) (fun _ _ _ _ _ => pg_name (i := 1) scFeed.nd rfl (Or.inl rfl)) (fun _ _ _ _ _ => pts_nil) (fun _ _ _ _ _ => pe_callTy call_int1 (by rfl) mi boot_int (pa_cons (pv 1) pa_nil)))
      (pps_cons pe_str pe_int (pps_cons pe_str pe_int (pps_cons pe_str pe_int pps_nil)))) rfl rfl (by simp) (by decide))), ?_⟩
    intro p np
    have s1 : Same H (upd H p (.dK [])) := same_upd np
    refine ⟨_, rfl, 63, rfl, a, _, rfl, seqL_same s1 ha, fun q nq => ?_⟩
    have pq : p ≠ q := ne_of_none upd_same nq
    have hms : ∃ ms : List Int, cutV (ns.map V.int) none (some 63) = ms.map V.int ∧ ms.length ≤ 63 := by
      refine ⟨(ns.drop 0).take (min 63 ns.length), ?_, ?_⟩
      · unfold cutV
        rw [HT.sIx_none, List.length_map, show (some (63 : Int)) = some ((63 : Nat) : Int) from rfl, HT.sIx_nat, Nat.sub_zero, ← List.map_drop, ← List.map_take]
      · exact Nat.le_trans (List.length_take_le _ _) (Nat.min_le_left _ _)
    obtain ⟨ms, e, hm⟩ := hms
    rw [e]
    have s2 : Same (upd H p (.dK [])) (upd (upd H p (.dK [])) q (.lst (ms.map V.int))) := same_upd nq
    have hq : (upd (upd H p (.dK [])) q (.lst (ms.map V.int))) q = some (.lst (ms.map V.int)) := upd_same
    generalize upd (upd H p (.dK [])) q (.lst (ms.map V.int)) = H2 at s2 hq ⊢
    refine ⟨q, rfl, ⟨_, SqL.of hq⟩, fun D nD => ?_⟩
    refine lc_list (K := K) (a := q) (xs := ms.map V.int) (fun i H' => Same H2 H' ∧ H' D = some (.lst ((ms.take i).map V.int))) ⟨same_upd nD, upd_same⟩ (fun i H' _ ⟨s3, _⟩ => SqL.of (s3 _ _ hq)) ?_ ?_
    · rintro i y H' hi ⟨s3, hD⟩
      rw [List.getElem?_map] at hi
      obtain ⟨z, hz, rfl⟩ := Option.map_eq_some_iff.mp hi
      refine ⟨rfl, _, rfl, .inl ⟨z, rfl, _, hD, by rw [List.length_map]; exact small1000 (Nat.le_trans (List.length_take_le' _ _) (by omega)), fun b o eb => ?_, ?_⟩⟩
      · rw [upd_ne (ne_of_none eb nD)]
        exact s3 _ _ eb
      · rw [upd_same, List.take_add_one, hz, List.map_append]; rfl
    · rintro H3 ⟨s3, hD⟩
      rw [List.length_map, List.take_length] at hD
      have hp3 : H3 p = some (.dK []) := s3 _ _ (s2 _ _ upd_same)
      have Dp : D ≠ p := fun z => by
        have := s2 _ _ (upd_same (H := H) (a := p) (o := .dK []))
        rw [← z, nD] at this
        cases this
      refine ⟨hp3, fk D 0 0 0, rfl, by show 4 ≤ 15; decide, ?_⟩
      refine k _ p D (fun b o eb => ?_) np (s1.free (s2.free nD)) ⟨ms, 0, 0, 0, ⟨upd_same, by rw [upd_ne Dp]; exact hD⟩, hm, Int.le_refl _, Int.le_refl _, by omega⟩
      rw [upd_ne (ne_of_none eb np)]
      exact s3 _ _ (s2 _ _ (s1 _ _ eb))
theorem ok_cuts (F : Fun K "_law_cuts" "_law_cuts" sCuts f fd) (mt : mg "tuple" = none) (mr : mg "range" = none) (cD : Cal P w K mg base 1 "_law_draw" ["_law_feed_here", "_law_size"] spDraw) (cA : Cal P w K mg base 2 "_law_any" ["_law_feed_here", "_law_some"] spAny) :
    FnOk P w K mg base CX0 3 f fd ["_law_feed_here", "_law_size"] spCuts := by
  refine F.ok scCuts (fun vs H Q E h => ?_) (fun cdv A outer s H vs Q E hr h => ?_)
  · obtain ⟨d, cl, B, rfl, _⟩ := h
    rfl
  · obtain ⟨d, cl, B, rfl, FA, hB, k⟩ := h
    refine ⟨_, pss_cons (ps_par (i := 2) (j := 3) rfl scCuts.nd rfl rfl (by decide) rfl rfl (pa_cons (pe_op op_sub (pe_cal cD hr (pa_cons (pv 0) (pa_cons pe_int pa_nil))) pe_int) (pa_cons (pe_lst pa_nil) pa_nil)) (by rfl))
      (pss_cons (ps_for PassesOwn.never rfl (pi_range1 (by rfl) mr (pa_cons (pe_cal cD hr (pa_cons (pv 0) (pa_cons (pv 1) pa_nil))) pa_nil)) (pg_name (i := 4) scCuts.nd rfl (Or.inl rfl))
        (pss_cons (ps_expr (pe_bm PySem.F.plainAttrs_list PySem.F.slot_list_append PySem.F.type_list_append mt_append (pv 3) (pa_cons (pv 2) pa_nil)))
        (pss_one (ps_set (i := 2) scCuts.nd rfl (Or.inl rfl) (pe_op op_add (pv 2) (pe_cal cA hr (pa_cons (pv 0) (pa_cons (pe_lst (pa_cons pe_int (pa_cons pe_int (pa_cons pe_int (pa_cons pe_int (pa_cons pe_int pa_nil)))))) pa_nil))))))))
      (pss_one (ps_ret (pe_callTy call_tuple_of (by rfl) mt (by decide +kernel) (pa_cons (pv 3) pa_nil))))), ?_⟩
    refine ⟨_, rfl, d, cl, B, 7, rfl, FA, by decide, by decide, by omega, fun H1 i kp1 FA1 h0 h1 => ?_⟩
    refine ⟨i, 3, rfl, rfl, Nat.zero_le _, fun l nl => ⟨_, _, rfl, ?_⟩⟩
    have s2 : Same H1 (upd H1 l (.lst [])) := same_upd nl
    have ld : l ≠ d := fun z => by
      obtain ⟨q, hq⟩ := FA1.dk
      rw [z, hq] at nl; cases nl
    have lcl := (FA1.new nl).2
    have l0 : H l = none := kp1.none nl ld
    refine ⟨_, rfl, _, rfl, d, cl, B + 1, 3, rfl, FA1.same s2, by decide, by decide, by omega, fun H2 m kp2 FA2 m0 m1 => ?_⟩
    refine ⟨m, rfl, by omega, by omega, ?_⟩
    have kp3 : Kp d H H2 := fun b o e hb => kp2 _ _ (s2 _ _ (kp1 _ _ e hb)) hb
    have hl2 := kp2 _ _ (upd_same (H := H1) (a := l) (o := .lst [])) ld
    refine for_range (lo := 0) (n := m.toNat) (fun j σ H' => ∃ (spot : Int) (a4 : Option V) (cs : List Int), σ = [some (.ref d), some (.int 3), some (.int spot), some (.ref l), a4] ∧ Kp d H H' ∧ FeedAt H' d cl (B + 2 + j) ∧ H' l = some (.lst (cs.map V.int)) ∧ cs.length = j ∧ Asc cs ∧
        (∀ c ∈ cs, c < spot ∧ -3 ≤ c ∧ c ≤ 3 + 4 * (j : Int) - 4) ∧ -3 ≤ spot ∧ spot ≤ 3 + 4 * (j : Int) ∧ (∀ c ∈ cs, ∀ e ∈ cs, e - c ≤ 4) ∧ (j ≤ 1 → ∀ c ∈ cs, spot - c ≤ 4))
      ⟨i - 3, none, [], rfl, kp3, FA2.mono (by omega), hl2, rfl, List.Pairwise.nil, by simp, by omega, by omega, by simp, by simp⟩ ?_ ?_
    · rintro j σ H3 hj ⟨spot, a4, cs, rfl, kp, FA3, hl3, hcl, hasc, hcs, b1, b2, b3, b4⟩
      have hj2 : j ≤ 1 := by omega
      refine ⟨_, rfl, .inl ⟨rfl, _, SqL.of hl3⟩, _, rfl, l, _, _, rfl, rfl, hl3, by rw [List.length_map]; exact small1000 (by omega), ?_⟩
      have hl4 : (upd H3 l (.lst (cs.map V.int ++ [.int spot]))) l = some (.lst ((cs ++ [spot]).map V.int)) := by rw [upd_same, List.map_append]; rfl
      have kp4 : Kp d H (upd H3 l (.lst (cs.map V.int ++ [.int spot]))) := fun b o e hb => by
        rw [upd_ne (ne_of_none e l0)]
        exact kp _ _ e hb
      have FA4 : FeedAt (upd H3 l (.lst (cs.map V.int ++ [.int spot]))) d cl (B + 2 + j) := FA3.off ld lcl
      generalize upd H3 l (.lst (cs.map V.int ++ [.int spot])) = H4 at hl4 kp4 FA4 ⊢
      refine ⟨_, rfl, _, rfl, by show 5 ≤ sizeLine; decide, fun z nz => ?_⟩
      refine ⟨d, cl, z, B + 2 + j, _, rfl, FA4.same (same_upd nz), upd_same, by simp, by show 5 ≤ 1000; decide, by omega, fun H5 x kp5 FA5 hx => ?_⟩
      have key : ∃ g : Int, x = .int g ∧ 1 ≤ g ∧ g ≤ 4 := by
        simp at hx
        rcases hx with h | h | h | h
        · exact ⟨1, h, by decide, by decide⟩
        · exact ⟨2, h, by decide, by decide⟩
        · exact ⟨3, h, by decide, by decide⟩
        · exact ⟨4, h, by decide, by decide⟩
      obtain ⟨g, rfl, g1, g2⟩ := key
      refine ⟨spot, g, rfl, rfl, spot + g, some (.int (0 + (j : Int))), cs ++ [spot], rfl, fun b o e hb => kp5 _ _ ((same_upd nz) _ _ (kp4 _ _ e hb)) hb, FA5.mono (by omega), kp5 _ _ ((same_upd nz) _ _ hl4) ld, by simp [hcl], ?_, fun c hc => ?_, by omega, by omega, fun c hc e he => ?_, fun hj3 c hc => ?_⟩
      · unfold Asc at hasc ⊢
        rw [List.pairwise_append]
        refine ⟨hasc, by simp, fun a ha b hb => ?_⟩
        rw [List.mem_singleton] at hb
        subst hb
        exact (hcs a ha).1
      · rcases List.mem_append.mp hc with hc | hc
        · have := hcs c hc; omega
        · rw [List.mem_singleton] at hc; omega
      · rcases List.mem_append.mp hc with hc | hc <;> rcases List.mem_append.mp he with he | he
        · exact b3 c hc e he
        · rw [List.mem_singleton] at he
          have := b4 hj2 c hc; omega
        · rw [List.mem_singleton] at hc
          have := hcs e he; omega
        · rw [List.mem_singleton] at hc he; omega
      · have j0 : j = 0 := by omega
        subst j0
        have : cs = [] := List.length_eq_zero_iff.mp hcl
        subst this
        simp at hc
        omega
    · rintro σ H3 ⟨spot, a4, cs, rfl, kp, FA3, hl3, hcl, hasc, hcs, b1, b2, b3, b4⟩
      refine ⟨_, rfl, l, _, rfl, .inl ⟨SqL.of hl3, fun t nt => ?_⟩⟩
      refine k _ t cs (fun b o e hb => (same_upd nt) _ _ (kp _ _ e hb)) ((FA3.same (same_upd nt)).mono (by omega)) upd_same hasc (by omega) (fun c hc => ?_) b3
      have := hcs c hc
      omega
end
end K37
set_option Elab.async false
set_option linter.all false
set_option maxRecDepth 100000
/-! What the law draws: a table. -/
namespace K37
open PySem PySem.Spec PyProof.Rows L2
theorem FeedAt.tups {H H' : Hp} {d cl : Addr} {B : Nat} (h : FeedAt H d cl B) (k : Kp d H H') : Tups H H' := fun b xs hb => k _ _ hb (h.ne hb fun _ z => nomatch z)
theorem tups_upd {H : Hp} {l : Addr} {xs : List V} {o : HO} (h : H l = some (.lst xs)) : Tups H (upd H l o) := fun b ys hb => by
  rw [upd_ne fun z => by rw [z, h] at hb; cases hb]
  exact hb
abbrev Row := List (Mv × Nat)
/-- the rows made so far; lf is their list -/
structure TabH (H0 H : Hp) (d cl : Addr) (B : Nat) (lf : Addr) (bs : List Addr) (rows : List Row) : Prop where
  kp : Kp d H0 H
  fd : FeedAt H d cl B
  fl : H lf = some (.lst (bs.map V.ref))
  ob : Paired (PhaseAt H) bs rows
  n0 : H0 lf = none
  nd : lf ≠ d
  nc : lf ≠ cl
section
variable {H0 H H' : Hp} {d cl lf a : Addr} {B B' : Nat} {bs : List Addr} {rows : List Row}
theorem TabH.kps (T : TabH H0 H d cl B lf bs rows) (k : Kp d H H') (f : FeedAt H' d cl B') : TabH H0 H' d cl B' lf bs rows :=
  ⟨T.kp.trans k, f, k _ _ T.fl T.nd, Paired.mapP T.ob fun _ _ q => PhaseAt.tups q (T.fd.tups k), T.n0, T.nd, T.nc⟩
theorem TabH.same (T : TabH H0 H d cl B lf bs rows) (s : Same H H') : TabH H0 H' d cl B lf bs rows := T.kps (sameKp s d) (T.fd.same s)
theorem TabH.mono (T : TabH H0 H d cl B lf bs rows) (h : B ≤ B') : TabH H0 H d cl B' lf bs rows := ⟨T.kp, T.fd.mono h, T.fl, T.ob, T.n0, T.nd, T.nc⟩
/-- another list grows -/
theorem TabH.off (T : TabH H0 H d cl B lf bs rows) {xs : List V} {o : HO} (ha : H a = some (.lst xs)) (h0 : H0 a = none) (e1 : a ≠ lf) (e2 : a ≠ d) (e3 : a ≠ cl) : TabH H0 (upd H a o) d cl B lf bs rows :=
  ⟨fun b o' e hb => by rw [upd_ne (ne_of_none e h0)]; exact T.kp _ _ e hb, T.fd.off e2 e3, by rw [upd_ne e1.symm]; exact T.fl, Paired.mapP T.ob fun _ _ q => PhaseAt.tups q (tups_upd ha), T.n0, T.nd, T.nc⟩
theorem TabH.row (T : TabH H0 H d cl B lf bs rows) {t : Addr} {row : Row} (ht : PhaseAt H t row) : TabH H0 (upd H lf (.lst (bs.map V.ref ++ [.ref t]))) d cl B lf (bs ++ [t]) (rows ++ [row]) :=
  ⟨fun b o' e hb => by rw [upd_ne (ne_of_none e T.n0)]; exact T.kp _ _ e hb, T.fd.off T.nd T.nc, by rw [upd_same, List.map_append]; rfl, Paired.snoc (Paired.mapP T.ob fun _ _ q => PhaseAt.tups q (tups_upd T.fl)) (PhaseAt.tups ht (tups_upd T.fl)), T.n0, T.nd, T.nc⟩
end
/-- rows as the law makes them -/
structure RowsOk (n : Nat) (rows : List Row) : Prop where
  three : ∀ row ∈ rows, row.length = 3
  lt : ∀ row ∈ rows, ∀ m ∈ row, m.2 < n
theorem RowsOk.snoc {n : Nat} {rows : List Row} (h : RowsOk n rows) {row : Row} (h3 : row.length = 3) (hl : ∀ m ∈ row, m.2 < n) : RowsOk n (rows ++ [row]) := by
  refine ⟨fun r hr => ?_, fun r hr => ?_⟩
  · rcases List.mem_append.mp hr with hr | hr
    · exact h.three r hr
    · rw [List.mem_singleton] at hr; subst hr; exact h3
  · rcases List.mem_append.mp hr with hr | hr
    · exact h.lt r hr
    · rw [List.mem_singleton] at hr; subst hr; exact hl
abbrev sTable : Stmt := topS 31
abbrev nTable : List Str := ["_law_feed_here", "_law_many", "_law_way", "_law_found", "_law_k", "_law_row", "_law_case_here", "_law_move"]
theorem scTable : FnScope nTable ["_law_feed_here", "_law_many"] (defScope sTable) := ⟨rfl, rfl, rfl, by decide +kernel, rfl, by decide +kernel, by decide +kernel⟩
def spTable : Sp := fun vs H Q _ => ∃ (d cl : Addr) (B n : Nat), vs = [.ref d, .int (n : Nat)] ∧ FeedAt H d cl B ∧ 0 < n ∧ n ≤ 3 ∧ B ≤ 50000 ∧ ∀ H' t (ph : List Row), Kp d H H' → FeedAt H' d cl (B + 30) → PhAt H' t ph → ph.length = n → RowsOk n ph → Q (.ref t) H'
/-- a row in the making -/
def RowH (H : Hp) (lr : Addr) (n j : Nat) (row : Row) : Prop := ∃ cs : List Addr, H lr = some (.lst (cs.map V.ref)) ∧ Paired (PairAt H) cs row ∧ row.length = j ∧ ∀ m ∈ row, m.2 < n
theorem RowH.tups {H H' : Hp} {lr : Addr} {n j : Nat} {row : Row} (h : RowH H lr n j row) (hl : ∀ xs, H lr = some (.lst xs) → H' lr = some (.lst xs)) (t : Tups H H') : RowH H' lr n j row := by
  obtain ⟨cs, h1, h2, h3⟩ := h
  exact ⟨cs, hl _ h1, Paired.mapP h2 fun _ _ q => t _ _ q, h3⟩
theorem RowH.pair {H : Hp} {lr t : Addr} {n j : Nat} {row : Row} (h : RowH H lr n j row) {m : Mv × Nat} (ht : PairAt H t m) (hm : m.2 < n) : ∃ xs, H lr = some (.lst xs) ∧ xs.length = j ∧ RowH (upd H lr (.lst (xs ++ [.ref t]))) lr n (j + 1) (row ++ [m]) := by
  obtain ⟨cs, h1, h2, h3, h4⟩ := h
  have hl : cs.length = row.length := Paired.length h2
  refine ⟨_, h1, by rw [List.length_map, hl, h3], cs ++ [t], by rw [upd_same, List.map_append]; rfl, Paired.snoc (Paired.mapP h2 fun _ _ q => tups_upd h1 _ _ q) (tups_upd h1 _ _ ht), by simp [h3], fun q hq => ?_⟩
  rcases List.mem_append.mp hq with hq | hq
  · exact h4 q hq
  · rw [List.mem_singleton] at hq; subst hq; exact hm
section
variable {P : Program} {w : World} {K : PySem.W.Frag} {mg : Str → Option Value} {base : Heap} {f C : Addr} {fd : FuncData}
theorem ok_table (F : Fun K "_law_table" "_law_table" sTable f fd) (mt : mg "tuple" = none) (mr : mg "range" = none) (mn : mg "min" = none) (cD : Cal P w K mg base 1 "_law_draw" ["_law_feed_here", "_law_size"] spDraw) (cA : Cal P w K mg base 2 "_law_any" ["_law_feed_here", "_law_some"] spAny)
    (cM : Cal P w K mg base 1 "_law_moves" ["_law_case_here", "_law_is_last"] spMoves) : FnOk P w K mg base CX0 3 f fd ["_law_feed_here", "_law_many"] spTable := by
  refine F.ok scTable (fun vs H Q E h => ?_) (fun cdv A outer s H vs Q E hr h => ?_)
  · obtain ⟨d, cl, B, n, rfl, _⟩ := h
    rfl
  · obtain ⟨d, cl, B, n, rfl, FA, hn0, hn3, hB, k⟩ := h
    refine ⟨_, pss_cons (ps_par (i := 2) (j := 3) rfl scTable.nd rfl rfl (by decide) rfl rfl (pa_cons (pe_cal cD hr (pa_cons (pv 0) (pa_cons pe_int pa_nil))) (pa_cons (pe_lst pa_nil) pa_nil)) (by rfl))
      (pss_cons (ps_for PassesOwn.never rfl (pi_range1 (by rfl) mr (pa_cons (pv 1) pa_nil)) (pg_name (i := 4) scTable.nd rfl (Or.inl rfl))
        (pss_cons (ps_set (i := 5) scTable.nd rfl (Or.inl rfl) (pe_lst pa_nil))
        (pss_cons (ps_for PassesOwn.never rfl (pi_range1 (by rfl) mr (pa_cons pe_int pa_nil)) (pg_name (i := 6) scTable.nd rfl (Or.inl rfl))
          (pss_one (ps_if (pt_cmpR op_eq (pv 2) pe_int (nomark _))
            (pss_one (ps_expr (pe_bm PySem.F.plainAttrs_list PySem.F.slot_list_append PySem.F.type_list_append mt_append (pv 5) (pa_cons (pe_tup (pa_cons (pe_cal cA hr (pa_cons (pv 0) (pa_cons (pe_lst (pa_cons pe_str (pa_cons pe_str (pa_cons pe_str (pa_cons pe_str pa_nil))))) pa_nil))) (pa_cons (pe_cal cD hr (pa_cons (pv 0) (pa_cons (pv 1) pa_nil))) pa_nil))) pa_nil))))
            (pss_cons (ps_set (i := 7) scTable.nd rfl (Or.inl rfl) (pe_cal cA hr (pa_cons (pv 0) (pa_cons (pe_cal cM hr (pa_cons (pv 6) (pa_cons (pe_cmpR op_eq (pv 4) (pe_op op_sub (pv 1) pe_int) (nomark _)) pa_nil))) pa_nil))))
            (pss_one (ps_expr (pe_bm PySem.F.plainAttrs_list PySem.F.slot_list_append PySem.F.type_list_append mt_append (pv 5) (pa_cons (pe_tup (pa_cons (pv 7) (pa_cons (pe_callB (call_min2 rfl) (by rfl) mn (by decide +kernel) (pa_cons (pe_op op_add (pv 4) (pe_cal cD hr (pa_cons (pv 0) (pa_cons pe_int pa_nil)))) (pa_cons (pe_op op_sub (pv 1) pe_int) pa_nil))) pa_nil))) pa_nil))))))))
        (pss_one (ps_expr (pe_bm PySem.F.plainAttrs_list PySem.F.slot_list_append PySem.F.type_list_append mt_append (pv 3) (pa_cons (pe_callTy call_tuple_of (by rfl) mt (by decide +kernel) (pa_cons (pv 5) pa_nil)) pa_nil)))))))
      (pss_one (ps_ret (pe_callTy call_tuple_of (by rfl) mt (by decide +kernel) (pa_cons (pv 3) pa_nil))))), ?_⟩
    refine ⟨_, rfl, d, cl, B, 3, rfl, FA, by decide, by decide, by omega, fun H1 way kp1 FA1 h0 h1 => ?_⟩
    refine ⟨Nat.zero_le _, fun lf nlf => ⟨_, _, rfl, ?_⟩⟩
    obtain ⟨fd1, fc1⟩ := FA1.new nlf
    have T0 : TabH H (upd H1 lf (.lst [])) d cl (B + 1) lf [] [] := ⟨fun b o e hb => (same_upd nlf) _ _ (kp1 _ _ e hb), FA1.same (same_upd nlf), upd_same, .nil, kp1.none nlf fd1, fd1, fc1⟩
    refine ⟨_, rfl, _, rfl, by omega, by omega, ?_⟩
    rw [show ((n : Nat) : Int).toNat = n by omega]
    refine for_range (lo := 0) (n := n) (fun i σ H' => ∃ (bs : List Addr) (rows : List Row) (a4 a5 a6 a7 : Option V), σ = [some (.ref d), some (.int (n : Nat)), some (.int way), some (.ref lf), a4, a5, a6, a7] ∧ TabH H H' d cl (B + 1 + 6 * i) lf bs rows ∧ rows.length = i ∧ RowsOk n rows)
      ⟨[], [], none, none, none, none, rfl, T0, rfl, ⟨by simp, by simp⟩⟩ ?_ ?_
    · rintro i σ H2 hi ⟨bs, rows, a4, a5, a6, a7, rfl, T, hrl, RO⟩
      refine ⟨Nat.zero_le _, fun lr nlr => ?_⟩
      obtain ⟨rd, rc⟩ := T.fd.new nlr
      have r0 := T.kp.none nlr rd
      have rf : lr ≠ lf := fun z => by rw [z, T.fl] at nlr; cases nlr
      have T1 := T.same (same_upd (o := .lst []) nlr)
      refine ⟨_, rfl, by decide, by decide, for_range (lo := 0) (n := 3) (fun j σ H' => ∃ (row : Row) (a6 a7 : Option V), σ = [some (.ref d), some (.int (n : Nat)), some (.int way), some (.ref lf), some (.int (0 + (i : Nat))), some (.ref lr), a6, a7] ∧ TabH H H' d cl (B + 1 + 6 * i + 2 * j) lf bs rows ∧ RowH H' lr n j row)
        ⟨[], a6, a7, rfl, T1, [], upd_same, .nil, rfl, by simp⟩ ?_ ?_⟩
      · rintro j σ H3 hj ⟨row, a6, a7, rfl, T, RH⟩
        -- a pair more
        have more : ∀ (H4 : Hp) (t : Addr) (m : Mv × Nat) (a7 : Option V), TabH H H4 d cl (B + 1 + 6 * i + 2 * j + 2) lf bs rows → RowH H4 lr n j row → H4 t = none → m.2 < n → ∃ xs, (upd H4 t (.tup [.str m.1.str, .int (m.2 : Nat)])) lr = some (.lst xs) ∧ xs.length < sizeLine ∧
            TabH H (upd (upd H4 t (.tup [.str m.1.str, .int (m.2 : Nat)])) lr (.lst (xs ++ [.ref t]))) d cl (B + 1 + 6 * i + 2 * (j + 1)) lf bs rows ∧ ∃ row', RowH (upd (upd H4 t (.tup [.str m.1.str, .int (m.2 : Nat)])) lr (.lst (xs ++ [.ref t]))) lr n (j + 1) row' := by
          intro H4 t m a7 T4 R4 nt hm
          have s4 : Same H4 (upd H4 t (.tup [.str m.1.str, .int (m.2 : Nat)])) := same_upd nt
          obtain ⟨xs, e1, e2, e3⟩ := (R4.tups (fun xs => s4 _ _) (Same.tups s4)).pair (t := t) (m := m) upd_same hm
          exact ⟨xs, e1, by rw [e2]; exact small1000 (by omega), (T4.same s4).off e1 r0 rf rd rc, _, e3⟩
        have str4 : ∀ x : V, x ∈ [V.str "take", V.str "next", V.str "out", V.str "wait"] → ∃ mv : Mv, x = .str mv.str := by
          intro x hx
          simp at hx
          rcases hx with h | h | h | h
          · exact ⟨.take, h⟩
          · exact ⟨.next, h⟩
          · exact ⟨.out, h⟩
          · exact ⟨.wait, h⟩
        obtain ⟨cs, hlr, _⟩ := id RH
        refine ⟨_, rfl, rfl, _, rfl, ?_⟩
        refine ite2 (fun hc => ?_) (fun hc => ?_)
        · refine ⟨_, rfl, .inl ⟨rfl, _, SqL.of hlr⟩, _, rfl, by show 4 ≤ sizeLine; decide, fun z nz => ?_⟩
          have s4 : Same H3 (upd H3 z (.lst [.str "take", .str "next", .str "out", .str "wait"])) := same_upd nz
          have T4 := T.same s4
          refine ⟨d, cl, z, _, _, rfl, T4.fd, upd_same, by simp, by show 4 ≤ 1000; decide, by omega, fun H5 x kp5 FA5 hx => ?_⟩
          obtain ⟨mv, rfl⟩ := str4 x hx
          have T5 := T4.kps kp5 FA5
          refine ⟨_, rfl, _, rfl, d, cl, _, n, rfl, T5.fd, by omega, by omega, by omega, fun H6 q kp6 FA6 q0 q1 => ?_⟩
          have T6 := T5.kps kp6 FA6
          obtain ⟨q', rfl⟩ : ∃ q' : Nat, q = (q' : Int) := ⟨q.toNat, by omega⟩
          have R6 : RowH H6 lr n j row := RH.tups (fun xs h => kp6 _ _ (kp5 _ _ (s4 _ _ h) rd) rd) fun b xs h => T5.fd.tups kp6 _ _ (T4.fd.tups kp5 _ _ (s4 _ _ h))
          refine ⟨by show 2 ≤ sizeLine; decide, fun t nt => ?_⟩
          obtain ⟨xs, e1, e2, e3, row', e4⟩ := more H6 t (mv, q') a7 (T6.mono (by omega)) R6 nt (by show q' < n; omega)
          exact ⟨lr, xs, _, rfl, rfl, e1, e2, row', _, _, rfl, e3, e4⟩
        · refine ⟨_, rfl, _, rfl, _, rfl, _, rfl, _, 1, rfl, rfl, rfl, _, _, rfl, fun H4 l ms s4 nl hl hne hml => ?_⟩
          have T4 := T.same s4
          refine ⟨d, cl, l, _, _, rfl, T4.fd, hl, by simp [hne], by rw [List.length_map]; omega, by omega, fun H5 x kp5 FA5 hx => ?_⟩
          obtain ⟨mv, _, rfl⟩ := List.mem_map.mp hx
          have T5 := T4.kps kp5 FA5
          have hlr5 := kp5 _ _ (s4 _ _ hlr) rd
          refine ⟨_, rfl, .inl ⟨rfl, _, SqL.of hlr5⟩, _, rfl, _, rfl, _, rfl, d, cl, _, 2, rfl, T5.fd, by decide, by decide, by omega, fun H6 q kp6 FA6 q0 q1 => ?_⟩
          have T6 := T5.kps kp6 FA6
          have R6 : RowH H6 lr n j row := RH.tups (fun xs h => kp6 _ _ (kp5 _ _ (s4 _ _ h) rd) rd) fun b xs h => T5.fd.tups kp6 _ _ (T4.fd.tups kp5 _ _ (s4 _ _ h))
          refine ⟨_, q, rfl, rfl, _, rfl, _, 1, rfl, rfl, _, _, rfl, by show 2 ≤ sizeLine; decide, fun t nt => ?_⟩
          obtain ⟨m2, em, hm⟩ : ∃ m2 : Nat, (if (n : Int) - 1 < 0 + (i : Int) + q then (n : Int) - 1 else 0 + (i : Int) + q) = (m2 : Int) ∧ m2 < n := by
            split
            · exact ⟨n - 1, by omega, by omega⟩
            · exact ⟨(0 + (i : Int) + q).toNat, by omega, by omega⟩
          obtain ⟨xs, e1, e2, e3, row', e4⟩ := more H6 t (mv, m2) a7 (T6.mono (by omega)) R6 nt hm
          rw [em]
          exact ⟨lr, xs, _, rfl, rfl, e1, e2, row', _, _, rfl, e3, e4⟩
      · rintro σ H3 ⟨row, a6, a7, rfl, T, RH⟩
        obtain ⟨cs, e1, e2, e3, e4⟩ := RH
        have hbl : bs.length = rows.length := Paired.length T.ob
        refine ⟨_, rfl, .inl ⟨rfl, _, SqL.of T.fl⟩, _, rfl, lr, _, rfl, .inl ⟨SqL.of e1, fun t nt => ?_⟩⟩
        have s4 : Same H3 (upd H3 t (.tup (cs.map V.ref))) := same_upd nt
        have T4 := T.same s4
        refine ⟨lf, _, _, rfl, rfl, T4.fl, by rw [List.length_map, hbl]; exact small1000 (by omega), ?_⟩
        exact ⟨_, rows ++ [row], _, _, _, _, rfl, (T4.row ⟨cs, upd_same, Paired.mapP e2 fun _ _ q => s4 _ _ q⟩).mono (by omega), by simp [hrl], RO.snoc e3 e4⟩
    · rintro σ H2 ⟨bs, rows, a4, a5, a6, a7, rfl, T, hrl, RO⟩
      refine ⟨_, rfl, lf, _, rfl, .inl ⟨SqL.of T.fl, fun t nt => ?_⟩⟩
      have s3 : Same H2 (upd H2 t (.tup (bs.map V.ref))) := same_upd nt
      have T3 := T.same s3
      exact k _ t rows T3.kp (T3.fd.mono (by omega)) ⟨bs, upd_same, T3.ob⟩ hrl RO
end
end K37
set_option Elab.async false
set_option linter.all false
set_option maxRecDepth 100000
/-! What the law draws: phases of the menu, the plan. -/
namespace K37
open PySem PySem.Spec PyProof.Rows L2
def wk : List (Key × V) := [(.inr "t", .str "take"), (.inr "n", .str "next"), (.inr "o", .str "out"), (.inr "w", .str "wait")]
/-- one sign of a phase's text: its letter and its figure -/
def sgB (sg : Str) (m : Mv × Nat) : Bool := match sg.cps.toList with
  | [a, b] => decide (valV wk (.inr ⟨#[a]⟩) = some (.str m.1.str)) && decide (PySem.intText? ⟨#[b]⟩ = some (m.2 : Int)) && decide (sg.length ≤ 100)
  | _ => false
def rowB : List Str → Row → Bool
  | [], [] => true
  | s :: ss, m :: ms => sgB s m && rowB ss ms
  | _, _ => false
def partsB : List Str → List Row → Bool
  | [], [] => true
  | p :: ps, r :: rs => decide (p.length ≤ 100) && rowB (Txt.split p " ") r && partsB ps rs
  | _, _ => false
def mvOf (c : Nat) : Mv := if c = 116 then .take else if c = 110 then .next else if c = 111 then .out else .wait
def parseT (x : Str) : List Row := (Txt.split x "/").map fun p => (Txt.split p " ").map fun s => match s.cps.toList with
  | [a, b] => (mvOf a, b - 48)
  | _ => (.out, 0)
def goodB (ph : List Row) : Bool := decide (0 < ph.length) && decide (ph.length ≤ 3) && ph.all fun r => decide (r.length = 3) && r.all fun m => decide (m.2 < ph.length)
def textB (x : Str) : Bool := decide (x.length ≤ 100) && partsB (Txt.split x "/") (parseT x) && goodB (parseT x)
def txV : V → Bool
  | .str x => textB x
  | _ => false
structure MenuIs (vs : List V) (n : Nat) : Prop where
  pos : 0 < vs.length
  len : vs.length ≤ n
  all : vs.all txV = true
theorem MenuIs.app {vs ws : List V} {n m : Nat} (h : MenuIs vs n) (hl : ws.length ≤ m) (ha : ws.all txV = true) : MenuIs (vs ++ ws) (n + m) := by
  refine ⟨?_, ?_, ?_⟩
  · rw [List.length_append]; have := h.pos; omega
  · rw [List.length_append]; have := h.len; omega
  · rw [List.all_append, h.all, ha]; rfl
abbrev sPhases : Stmt := topS 28
abbrev sMenu : Stmt := topS 29
abbrev sPlan : Stmt := topS 33
abbrev nPhases : List Str := ["_law_text_in", "_law_words", "_law_found", "_law_part", "_law_sign"]
theorem scPhases : FnScope nPhases ["_law_text_in"] (defScope sPhases) := ⟨rfl, rfl, rfl, by decide +kernel, rfl, by decide +kernel, by decide +kernel⟩
theorem scMenu : FnScope ["_law_some"] [] (defScope sMenu) := ⟨rfl, rfl, rfl, by decide +kernel, rfl, by decide +kernel, by decide +kernel⟩
theorem scPlan : FnScope ["_law_feed_here", "_law_size", "_law_many", "_law_cuts_here"] ["_law_feed_here", "_law_size", "_law_many"] (defScope sPlan) := ⟨rfl, rfl, rfl, by decide +kernel, rfl, by decide +kernel, by decide +kernel⟩
def spMenu : Sp := fun vs H Q _ => vs = [] ∧ ∀ H' l (xs : List V), Same H H' → H l = none → H' l = some (.lst xs) → MenuIs xs 100 → Q (.ref l) H'
def spPhases : Sp := fun vs H Q _ => ∃ x : Str, vs = [.str x] ∧ textB x = true ∧ ∀ H' t, Same H H' → PhAt H' t (parseT x) → Q (.ref t) H'
section
variable {P : Program} {w : World} {K : PySem.W.Frag} {mg : Str → Option Value} {base : Heap} {f C : Addr} {fd : FuncData}
theorem ok_menu (F : Fun K "_law_menu" "_law_menu" sMenu f fd) : FnOk P w K mg base CX0 1 f fd [] spMenu := by
  refine F.ok scMenu (fun vs H Q E h => ?_) (fun cdv A outer s H vs Q E hr h => ?_)
  · obtain ⟨rfl, _⟩ := h
    rfl
  · obtain ⟨rfl, k⟩ := h
    refine ⟨_, C8.pss_cut (ps_set (i := 0) scMenu.nd rfl (Or.inl rfl) (pe_lst (pa_cons pe_str (pa_cons pe_str (pa_cons pe_str (pa_cons pe_str pa_nil))))))
      (C8.pss_cut (ps_set (i := 0) scMenu.nd rfl (Or.inl rfl) (pe_op op_cat (pv 0) (pe_lst (pa_cons pe_str (pa_cons pe_str (pa_cons pe_str pa_nil))))))
      (C8.pss_cut (ps_set (i := 0) scMenu.nd rfl (Or.inl rfl) (pe_op op_cat (pv 0) (pe_lst (pa_cons pe_str (pa_cons pe_str (pa_cons pe_str (pa_cons pe_str (pa_cons pe_str pa_nil))))))))
      (C8.pss_cut (ps_set (i := 0) scMenu.nd rfl (Or.inl rfl) (pe_op op_cat (pv 0) (pe_lst (pa_cons pe_str (pa_cons pe_str (pa_cons pe_str pa_nil))))))
      (pss_one (ps_ret (pe_op op_cat (pv 0) (pe_lst (pa_cons pe_str (pa_cons pe_str (pa_cons pe_str (pa_cons pe_str pa_nil)))))))))))
      , ?_⟩
    refine ⟨fun σ H' => ∃ (l : Addr) (xs : List V), σ = [some (.ref l)] ∧ Same H H' ∧ H l = none ∧ H' l = some (.lst xs) ∧ MenuIs xs 10, ⟨by show 4 ≤ sizeLine; decide, fun l n => ⟨l, _, rfl, same_upd n, n, upd_same, ⟨by decide +kernel, by decide +kernel, by decide +kernel⟩⟩⟩, ?_⟩
    rintro σ H1 ⟨l, xs, rfl, s1, n1, h1, m1⟩
    have sl : 100 ≤ sizeLine := by decide
    refine ⟨fun σ H' => ∃ (l : Addr) (xs : List V), σ = [some (.ref l)] ∧ Same H H' ∧ H l = none ∧ H' l = some (.lst xs) ∧ MenuIs xs 20, ⟨_, rfl, by show 3 ≤ sizeLine; decide, fun z nz => ⟨l, z, xs, _, rfl, rfl, (same_upd nz) _ _ h1, upd_same, ?_, fun l2 n2 => ?_⟩⟩, ?_⟩
    · have := m1.len
      show _ + 3 ≤ sizeLine
      omega
    · exact ⟨l2, _, rfl, (s1.trans (same_upd nz)).trans (same_upd n2), (s1.trans (same_upd nz)).free n2, upd_same, m1.app (m := 10) (by decide +kernel) (by decide +kernel)⟩
    clear h1 m1 n1 s1
    rintro σ H1 ⟨l, xs, rfl, s1, n1, h1, m1⟩
    refine ⟨fun σ H' => ∃ (l : Addr) (xs : List V), σ = [some (.ref l)] ∧ Same H H' ∧ H l = none ∧ H' l = some (.lst xs) ∧ MenuIs xs 30, ⟨_, rfl, by show 5 ≤ sizeLine; decide, fun z nz => ⟨l, z, xs, _, rfl, rfl, (same_upd nz) _ _ h1, upd_same, ?_, fun l2 n2 => ?_⟩⟩, ?_⟩
    · have := m1.len
      show _ + 5 ≤ sizeLine
      omega
    · exact ⟨l2, _, rfl, (s1.trans (same_upd nz)).trans (same_upd n2), (s1.trans (same_upd nz)).free n2, upd_same, m1.app (m := 10) (by decide +kernel) (by decide +kernel)⟩
    clear h1 m1 n1 s1
    rintro σ H1 ⟨l, xs, rfl, s1, n1, h1, m1⟩
    refine ⟨fun σ H' => ∃ (l : Addr) (xs : List V), σ = [some (.ref l)] ∧ Same H H' ∧ H l = none ∧ H' l = some (.lst xs) ∧ MenuIs xs 40, ⟨_, rfl, by show 3 ≤ sizeLine; decide, fun z nz => ⟨l, z, xs, _, rfl, rfl, (same_upd nz) _ _ h1, upd_same, ?_, fun l2 n2 => ?_⟩⟩, ?_⟩
    · have := m1.len
      show _ + 3 ≤ sizeLine
      omega
    · exact ⟨l2, _, rfl, (s1.trans (same_upd nz)).trans (same_upd n2), (s1.trans (same_upd nz)).free n2, upd_same, m1.app (m := 10) (by decide +kernel) (by decide +kernel)⟩
    clear h1 m1 n1 s1
    rintro σ H1 ⟨l, xs, rfl, s1, n1, h1, m1⟩
    refine ⟨_, rfl, by show 4 ≤ sizeLine; decide, fun z nz => ⟨l, z, xs, _, rfl, rfl, (same_upd nz) _ _ h1, upd_same, ?_, fun l2 n2 => ?_⟩⟩
    · have := m1.len
      show _ + 4 ≤ sizeLine
      omega
    · exact k _ l2 _ ((s1.trans (same_upd nz)).trans (same_upd n2)) ((s1.trans (same_upd nz)).free n2) upd_same (m1.app (m := 60) (by decide +kernel) (by decide +kernel))
end
end K37
set_option Elab.async false
set_option linter.all false
set_option maxRecDepth 100000
/-! What the law draws: phases of the menu, the plan. -/
namespace K37
open PySem PySem.Spec PyProof.Rows L2
theorem sgB_at {sg : Str} {m : Mv × Nat} (h : sgB sg m = true) : ∃ a b, sg.cps.toList = [a, b] ∧ valV wk (.inr ⟨#[a]⟩) = some (.str m.1.str) ∧ PySem.intText? ⟨#[b]⟩ = some (m.2 : Int) ∧ sg.length ≤ 100 := by
  unfold sgB at h
  split at h
  · rename_i a b e
    simp only [Bool.and_eq_true, decide_eq_true_eq] at h
    exact ⟨a, b, e, h.1.1, h.1.2, h.2⟩
  · cases h
theorem rowB_at : ∀ {ss : List Str} {ms : Row}, rowB ss ms = true → ss.length = ms.length ∧ ∀ (i : Nat) (s : Str), ss[i]? = some s → ∃ m, ms[i]? = some m ∧ sgB s m = true
  | [], [], _ => ⟨rfl, fun i s h => by simp at h⟩
  | s :: ss, m :: ms, h => by
    unfold rowB at h
    rw [Bool.and_eq_true] at h
    obtain ⟨e, q⟩ := rowB_at h.2
    refine ⟨by simp [e], fun i t ht => ?_⟩
    cases i with
    | zero => simp at ht; subst ht; exact ⟨m, rfl, h.1⟩
    | succ i => exact q i t (by simpa using ht)
  | [], _ :: _, h => by simp [rowB] at h
  | _ :: _, [], h => by simp [rowB] at h
theorem partsB_at : ∀ {ps : List Str} {rs : List Row}, partsB ps rs = true → ps.length = rs.length ∧ ∀ (i : Nat) (p : Str), ps[i]? = some p → ∃ r, rs[i]? = some r ∧ p.length ≤ 100 ∧ rowB (Txt.split p " ") r = true
  | [], [], _ => ⟨rfl, fun i s h => by simp at h⟩
  | p :: ps, r :: rs, h => by
    unfold partsB at h
    rw [Bool.and_eq_true, Bool.and_eq_true, decide_eq_true_eq] at h
    obtain ⟨e, q⟩ := partsB_at h.2
    refine ⟨by simp [e], fun i t ht => ?_⟩
    cases i with
    | zero => simp at ht; subst ht; exact ⟨r, rfl, h.1⟩
    | succ i => exact q i t (by simpa using ht)
  | [], _ :: _, h => by simp [partsB] at h
  | _ :: _, [], h => by simp [partsB] at h
structure PhOk (ph : List Row) : Prop where
  n1 : 0 < ph.length
  n3 : ph.length ≤ 3
  rows : RowsOk ph.length ph
theorem goodB_ok {ph : List Row} (h : goodB ph = true) : PhOk ph := by
  unfold goodB at h
  simp only [Bool.and_eq_true, decide_eq_true_eq, List.all_eq_true] at h
  exact ⟨h.1.1, h.1.2, ⟨fun r hr => (h.2 r hr).1, fun r hr m hm => (h.2 r hr).2 m hm⟩⟩
section
variable {P : Program} {w : World} {K : PySem.W.Frag} {mg : Str → Option Value} {base : Heap} {f C : Addr} {fd : FuncData}
theorem ok_phases (F : Fun K "_law_phases" "_law_phases" sPhases f fd) (mt : mg "tuple" = none) (mi : mg "int" = none) : FnOk P w K mg base CX0 1 f fd ["_law_text_in"] spPhases := by
  refine F.ok scPhases (fun vs H Q E h => ?_) (fun cdv A outer s H vs Q E hr h => ?_)
  · obtain ⟨x, rfl, _⟩ := h
    rfl
  · obtain ⟨x, rfl, hx, k⟩ := h
    have hu := hu_of hr
    refine ⟨_, pss_cons (ps_set (i := 1) scPhases.nd rfl (Or.inr rfl) (pe_disp (pps_cons pe_str pe_str (pps_cons pe_str pe_str (pps_cons pe_str pe_str (pps_cons pe_str pe_str pps_nil)))) rfl rfl (by simp) (by decide)))
      (pss_cons (ps_set (i := 2) scPhases.nd rfl (Or.inl rfl) (pe_lst pa_nil))
      (pss_cons (ps_for PassesOwn.never rfl (pi_list (pe_split (pv 0) pe_str)) (pg_name (i := 3) scPhases.nd rfl (Or.inl rfl))
        (pss_one (ps_expr (pe_bm PySem.F.plainAttrs_list PySem.F.slot_list_append PySem.F.type_list_append mt_append (pv 2) (pa_cons (pe_callTy call_tuple_of (by rfl) mt (by decide +kernel) (pa_cons (pe_lc (own := [("_law_sign", 4)]) (g := gName 4) (by rfl) scPhases.nd (pi_list (pe_split (pv 3) pe_str))
          (blkOk_by (own := [("_law_sign", 4)]) (N := nPhases) (sc := defScope sPhases) (by decide +kernel)) (fun _ _ _ _ _ => pg_name (i := 4) scPhases.nd rfl (Or.inl rfl)) (fun _ _ _ _ _ => pts_nil)
          (fun _ _ _ _ _ => pe_tup (pa_cons (pe_dget hu (pv 1) (pe_ix ix_str (pv 4) pe_int (fun _ _ => rfl)) (fun _ _ => rfl)) (pa_cons (pe_callTy call_int_str (by rfl) mi boot_int (pa_cons (pe_ix ix_str (pv 4) pe_int (fun _ _ => rfl)) pa_nil)) pa_nil)))) pa_nil)) pa_nil)))))
      (pss_one (ps_ret (pe_callTy call_tuple_of (by rfl) mt (by decide +kernel) (pa_cons (pv 2) pa_nil)))))), ?_⟩
    unfold textB at hx
    rw [Bool.and_eq_true, Bool.and_eq_true, decide_eq_true_eq] at hx
    obtain ⟨⟨hxl, hpb⟩, hok⟩ := hx
    have hok := goodB_ok hok
    generalize parseT x = ph at hpb hok k
    obtain ⟨hpl, hpa⟩ := partsB_at hpb
    have sl : 1000 ≤ sizeLine := by decide
    intro wd nwd
    refine ⟨upd_same, wk, rfl, by decide, ?_⟩
    rw [upd_upd]
    have s1 : Same H (upd H wd (.dK wk)) := same_upd nwd
    have hw1 : (upd H wd (.dK wk)) wd = some (.dK wk) := upd_same
    show tSeq _ _ _ _ (upd H wd (.dK wk))
    generalize upd H wd (.dK wk) = H1 at s1 hw1 ⊢
    refine ⟨Nat.zero_le _, fun lf nlf => ?_⟩
    have s2 : Same H1 (upd H1 lf (.lst [])) := same_upd nlf
    have f0 := s1.free nlf
    have wf : wd ≠ lf := ne_of_none hw1 nlf
    have hf2 : (upd H1 lf (.lst [])) lf = some (.lst []) := upd_same
    have hw2 := s2 _ _ hw1
    have s2 := s1.trans s2
    generalize upd H1 lf (.lst []) = H2 at s2 hf2 hw2 ⊢
    refine ⟨_, rfl, ⟨x, rfl⟩, x, "/", rfl, rfl, rfl, by omega, fun lp nlp => ?_⟩
    have fp : lf ≠ lp := ne_of_none hf2 nlp
    have s3 : Same H2 (upd H2 lp (.lst ((Txt.split x "/").map V.str))) := same_upd nlp
    refine ⟨lp, rfl, ⟨_, SqL.of upd_same⟩, for_list (K := K) (a := lp) (xs := (Txt.split x "/").map V.str) (fun i σ H' => ∃ (bs : List Addr) (a3 : Option V), σ = [some (.str x), some (.ref wd), some (.ref lf), a3, none] ∧ Same H H' ∧ H' lf = some (.lst (bs.map V.ref)) ∧ Paired (PhaseAt H') bs (ph.take i) ∧
      H' wd = some (.dK wk) ∧ H' lp = some (.lst ((Txt.split x "/").map V.str))) ⟨[], none, rfl, s2.trans s3, s3 _ _ hf2, by rw [List.take_zero]; exact .nil, s3 _ _ hw2, upd_same⟩ (fun i σ H' _ ⟨_, _, _, _, _, _, _, h⟩ => SqL.of h) ?_ ?_⟩
    · rintro i y σ H3 hi ⟨bs, a3, rfl, s4, hf, hb, hwd, hlp⟩
      rw [List.getElem?_map] at hi
      obtain ⟨p, hp, rfl⟩ := Option.map_eq_some_iff.mp hi
      obtain ⟨row, hrow, hpl2, hrb⟩ := hpa i p hp
      obtain ⟨hsl, hsa⟩ := rowB_at hrb
      refine ⟨_, rfl, .inl ⟨rfl, _, SqL.of hf⟩, _, rfl, ⟨p, rfl⟩, p, " ", rfl, rfl, rfl, by omega, fun ls nls => ?_⟩
      have s5 : Same H3 (upd H3 ls (.lst ((Txt.split p " ").map V.str))) := same_upd nls
      have hls : (upd H3 ls (.lst ((Txt.split p " ").map V.str))) ls = some (.lst ((Txt.split p " ").map V.str)) := upd_same
      generalize upd H3 ls (.lst ((Txt.split p " ").map V.str)) = H4 at s5 hls ⊢
      refine ⟨ls, rfl, ⟨_, SqL.of hls⟩, fun D nD => ?_⟩
      refine lc_list (K := K) (a := ls) (xs := (Txt.split p " ").map V.str) (fun j H' => Same H4 H' ∧ ∃ cs : List Addr, H' D = some (.lst (cs.map V.ref)) ∧ Paired (PairAt H') cs (row.take j)) ⟨same_upd nD, [], upd_same, by rw [List.take_zero]; exact .nil⟩ (fun j H' _ ⟨s6, _⟩ => SqL.of (s6 _ _ hls)) ?_ ?_
      · rintro j y H5 hj ⟨s6, cs, hD, hcs⟩
        rw [List.getElem?_map] at hj
        obtain ⟨sg, hsg, rfl⟩ := Option.map_eq_some_iff.mp hj
        obtain ⟨m, hm, hsb⟩ := hsa j sg hsg
        obtain ⟨a, b, e1, e2, e3, e4⟩ := sgB_at hsb
        have hw5 := s6 _ _ (s5 _ _ hwd)
        have hg : DGet H5 wd (.str ⟨#[a]⟩) (some (.str m.1.str)) := by
          rw [← e2]
          exact DGet.k (k := .inr ⟨#[a]⟩) hw5
        have hcl : cs.length ≤ 3 := by
          have h1 : cs.length = (row.take j).length := Paired.length hcs
          have h2 := hok.rows.three row (List.mem_of_getElem? hrow)
          rw [List.length_take] at h1
          omega
        refine ⟨rfl, _, rfl, _, rfl, sg, 0, a, rfl, rfl, by omega, by rw [e1]; exact atI_nat (j := 0) rfl, wd, _, rfl, hg, _, rfl, sg, 1, b, rfl, rfl, by omega, by rw [e1]; exact atI_nat (j := 1) rfl, ⟨#[b]⟩, m.2, rfl, e3, by show 1 ≤ 640; decide, by show 2 ≤ sizeLine; decide, fun t nt => ?_⟩
        have s7 : Same H5 (upd H5 t (.tup [.str m.1.str, .int (m.2 : Nat)])) := same_upd nt
        have D7 := s7 _ _ hD
        refine ⟨_, D7, by rw [List.length_map]; exact small1000 (by omega), fun c o ec => ?_, cs ++ [t], by rw [upd_same, List.map_append]; rfl, ?_⟩
        · rw [upd_ne (ne_of_none ec nD)]
          exact s7 _ _ (s6 _ _ ec)
        · rw [List.take_add_one, hm]
          refine Paired.snoc (Paired.mapP hcs fun c m q => tups_upd D7 _ _ (s7 _ _ q)) (tups_upd D7 _ _ upd_same)
      · rintro H5 ⟨s6, cs, hD, hcs⟩
        rw [List.length_map, hsl, List.take_length] at hcs
        have hbl : bs.length ≤ 3 := by
          have h1 : bs.length = (ph.take i).length := Paired.length hb
          have h2 := hok.n3
          rw [List.length_take] at h1
          omega
        refine ⟨D, _, rfl, .inl ⟨SqL.of hD, fun t nt => ?_⟩⟩
        have s7 : Same H5 (upd H5 t (.tup (cs.map V.ref))) := same_upd nt
        have s8 := (s5.trans s6).trans s7
        have hf8 := s8 _ _ hf
        refine ⟨lf, _, _, rfl, rfl, hf8, by rw [List.length_map]; exact small1000 (by omega), bs ++ [t], _, rfl, fun c o ec => ?_, by rw [upd_same, List.map_append]; rfl, ?_, ?_, ?_⟩
        · rw [upd_ne (ne_of_none ec f0)]
          exact s8 _ _ (s4 _ _ ec)
        · rw [List.take_add_one, hrow]
          refine Paired.snoc (Paired.mapP hb fun c r q => PhaseAt.tups (PhaseAt.same q s8) (tups_upd hf8)) (PhaseAt.tups ⟨cs, upd_same, Paired.mapP hcs fun c m q => s7 _ _ q⟩ (tups_upd hf8))
        · rw [upd_ne wf]; exact s8 _ _ hwd
        · rw [upd_ne fp.symm]; exact s8 _ _ hlp
    · rintro σ H3 ⟨bs, a3, rfl, s4, hf, hb, hwd, hlp⟩
      rw [List.length_map, hpl, List.take_length] at hb
      refine ⟨_, rfl, lf, _, rfl, .inl ⟨SqL.of hf, fun t nt => ?_⟩⟩
      have s5 : Same H3 (upd H3 t (.tup (bs.map V.ref))) := same_upd nt
      exact k _ t (s4.trans s5) ⟨bs, upd_same, Paired.mapP hb fun _ _ q => PhaseAt.same q s5⟩
/-- a plan's marks lie near one another -/
structure Near (R : Rule) : Prop where
  lo : ∀ c ∈ R.cuts, -3 ≤ c ∧ c ≤ 7
  nr : ∀ c ∈ R.cuts, ∀ e ∈ R.cuts, e - c ≤ 4
def spPlan : Sp := fun vs H Q _ => ∃ (d cl : Addr) (B : Nat), vs = [.ref d, .int 3, .int 3] ∧ FeedAt H d cl B ∧ B ≤ 40000 ∧ ∀ H' r (R : Rule), Kp d H H' → FeedAt H' d cl (B + 50) → RuleAt R H' r → Near R → Q (.ref r) H'
theorem rule_good {cs : List Int} {ph : List Row} (h1 : Asc cs) (h2 : cs.length ≤ 2) (h3 : PhOk ph) : Good ⟨cs, ph⟩ := by
  have nxt : ∀ p c, p < ph.length → (Rule.pr ⟨cs, ph⟩ p c).2 < ph.length := by
    intro p c hp
    show ((ph.getD p []).getD c (.out, 0)).2 < ph.length
    have hm : ph[p]? = some ph[p] := List.getElem?_eq_getElem hp
    rw [List.getD_eq_getElem?_getD (l := ph), hm, Option.getD_some, List.getD_eq_getElem?_getD]
    cases hc : ph[p][c]? with
    | none => exact h3.n1
    | some m => exact h3.rows.lt _ (List.getElem_mem hp) m (List.mem_of_getElem? hc)
  exact { asc := h1, n3 := h3.n3, n1 := h3.n1, nxt := nxt, rows := h3.rows.three, two := h2 }
theorem ok_plan (F : Fun K "_law_plan" "_law_plan" sPlan f fd) (cD : Cal P w K mg base 1 "_law_draw" ["_law_feed_here", "_law_size"] spDraw) (cA : Cal P w K mg base 2 "_law_any" ["_law_feed_here", "_law_some"] spAny) (cC : Cal P w K mg base 3 "_law_cuts" ["_law_feed_here", "_law_size"] spCuts)
    (cP : Cal P w K mg base 1 "_law_phases" ["_law_text_in"] spPhases) (cM : Cal P w K mg base 1 "_law_menu" [] spMenu) (cT : Cal P w K mg base 3 "_law_table" ["_law_feed_here", "_law_many"] spTable) : FnOk P w K mg base CX0 4 f fd ["_law_feed_here", "_law_size", "_law_many"] spPlan := by
  refine F.ok scPlan (fun vs H Q E h => ?_) (fun cdv A outer s H vs Q E hr h => ?_)
  · obtain ⟨d, cl, B, rfl, _⟩ := h
    rfl
  · obtain ⟨d, cl, B, rfl, FA, hB, k⟩ := h
    refine ⟨_, pss_cons (ps_set (i := 3) scPlan.nd rfl (Or.inl rfl) (pe_cal cC hr (pa_cons (pv 0) (pa_cons (pv 1) pa_nil))))
      (pss_cons (ps_if (pt_cmpR op_eq (pe_cal cD hr (pa_cons (pv 0) (pa_cons pe_int pa_nil))) pe_int (nomark _))
        (pss_one (ps_ret (pe_tup (pa_cons (pv 3) (pa_cons (pe_cal cP hr (pa_cons (pe_cal cA hr (pa_cons (pv 0) (pa_cons (pe_cal0 cM hr) pa_nil))) pa_nil)) pa_nil))))) pss_nil)
      (pss_one (ps_ret (pe_tup (pa_cons (pv 3) (pa_cons (pe_cal cT hr (pa_cons (pv 0) (pa_cons (pe_op op_add pe_int (pe_cal cD hr (pa_cons (pv 0) (pa_cons (pv 2) pa_nil)))) pa_nil))) pa_nil)))))), ?_⟩
    refine ⟨_, rfl, _, rfl, d, cl, B, rfl, FA, by omega, fun H1 t cs kp1 FA1 ht hasc hc2 hc3 hc4 => ?_⟩
    refine ⟨_, rfl, d, cl, B + 5, 3, rfl, FA1, by decide, by decide, by omega, fun H2 i kp2 FA2 i0 i1 => ?_⟩
    have ht2 := kp2 _ _ ht (FA1.ne ht fun _ z => nomatch z)
    have kq : ∀ {H' : Hp}, Kp d H2 H' → Kp d H H' := fun h => (kp1.trans kp2).trans h
    -- what the plan is
    have fin : ∀ (H3 : Hp) (tp : Addr) (ph : List Row) (B' : Nat), Kp d H2 H3 → FeedAt H3 d cl B' → B' ≤ B + 50 → PhAt H3 tp ph → PhOk ph → ∀ r, H3 r = none → Q (.ref r) (upd H3 r (.tup [.ref t, .ref tp])) := by
      intro H3 tp ph B' kp3 FA3 hB' hph hok r nr
      have s4 : Same H3 (upd H3 r (.tup [.ref t, .ref tp])) := same_upd nr
      have ht3 := kp3 _ _ ht2 (FA2.ne ht2 fun _ z => nomatch z)
      refine k _ r ⟨cs, ph⟩ (kq fun b o e hb => s4 _ _ (kp3 _ _ e hb)) ((FA3.same s4).mono hB') ⟨rule_good hasc hc2 hok, fun m hm => ?_, t, tp, upd_same, s4 _ _ ht3, hph.same s4⟩ ⟨hc3, hc4⟩
      have := hc3 m hm
      omega
    refine ⟨rfl, _, rfl, ?_⟩
    refine ite2 (fun hc => ?_) (fun hc => ?_)
    · refine ⟨_, rfl, _, rfl, rfl, fun H3 l xs s3 nl hl MI => ?_⟩
      have FA3 := FA2.same s3
      refine ⟨d, cl, l, _, xs, rfl, FA3, hl, List.length_pos_iff.mp MI.pos, by have := MI.len; omega, by omega, fun H4 x kp4 FA4 hx => ?_⟩
      have hxt := List.all_eq_true.mp MI.all x hx
      obtain ⟨tx, rfl, htx⟩ : ∃ tx, x = .str tx ∧ textB tx = true := by
        unfold txV at hxt
        split at hxt
        · exact ⟨_, rfl, hxt⟩
        · cases hxt
      have hok : PhOk (parseT tx) := by
        unfold textB at htx
        rw [Bool.and_eq_true] at htx
        exact goodB_ok htx.2
      refine ⟨tx, rfl, htx, fun H5 tp s5 hph => ⟨by show 2 ≤ sizeLine; decide, fun r nr => fin H5 tp _ _ (fun b o e hb => s5 _ _ (kp4 _ _ (s3 _ _ e) hb)) (FA4.same s5) (by omega) hph hok r nr⟩⟩
    · refine ⟨_, rfl, _, rfl, _, rfl, _, rfl, d, cl, _, 3, rfl, FA2, by decide, by decide, by omega, fun H3 q kp3 FA3 q0 q1 => ?_⟩
      obtain ⟨n, en, hn0, hn3⟩ : ∃ n : Nat, 1 + q = (n : Int) ∧ 0 < n ∧ n ≤ 3 := ⟨(1 + q).toNat, by omega, by omega, by omega⟩
      refine ⟨1, q, rfl, rfl, d, cl, _, n, by rw [← en]; rfl, FA3, hn0, hn3, by omega, fun H4 tp ph kp4 FA4 hph hpl RO => ⟨by show 2 ≤ sizeLine; decide, fun r nr => fin H4 tp ph _ (kp3.trans kp4) FA4 (by omega) hph ⟨by omega, by omega, by rw [hpl]; exact RO⟩ r nr⟩⟩
end
end K37
set_option Elab.async false
set_option linter.all false
set_option maxRecDepth 100000
/-! repr of what the law shows; a call with a keyword alone. -/
namespace K37
open PySem PySem.Spec PyProof.Rows L2
/-- how long a text may be -/
structure Sh (d : PyData) (n k : Nat) : Prop where
  sh : d.showable = true
  nd : d.hasDict = false
  dp : d.depth ≤ k
  len : d.shown.length ≤ n
theorem join_le {m : Nat} : ∀ {ts : List Str}, (∀ t ∈ ts, t.length ≤ m) → (Str.join ", " ts).length ≤ ts.length * (m + 2) := by
  intro ts h
  by_cases e : ts = []
  · subst e
    exact Nat.le_trans (Nat.le_of_eq (show (Str.join ", " []).length = 0 by decide)) (Nat.zero_le _)
  · have h1 := join_length_add ts e
    have h2 : piled ts ≤ ts.length * (m + 2) := by
      clear h1 e
      induction ts with
      | nil => exact Nat.zero_le _
      | cons t ts ih =>
        have a := ih fun t ht => h t (List.mem_cons_of_mem _ ht)
        have b := h t List.mem_cons_self
        have c : piled (t :: ts) = t.length + 2 + piled ts := by simp [piled]
        rw [c, List.length_cons, Nat.succ_mul]
        omega
    omega
theorem shownAll_le {ds : List PyData} {m : Nat} (h : ∀ d ∈ ds, d.shown.length ≤ m) : ∀ t ∈ PyData.shownAll ds, t.length ≤ m := by
  induction ds with
  | nil => intro t ht; rw [PyData.shownAll_nil] at ht; cases ht
  | cons d ds ih =>
    intro t ht
    rw [PyData.shownAll_cons] at ht
    rcases List.mem_cons.mp ht with rfl | ht
    · exact h d List.mem_cons_self
    · exact ih (fun d hd => h d (List.mem_cons_of_mem _ hd)) t ht
section
variable {ds : List PyData} {n k c : Nat}
theorem sh_all (h : ∀ d ∈ ds, Sh d n k) : PyData.showableAll ds = true ∧ PyData.hasDictAll ds = false ∧ PyData.depthAll ds ≤ k := by
  induction ds with
  | nil => exact ⟨by simp [PyData.showableAll], by simp [PyData.hasDictAll], by simp [PyData.depthAll]⟩
  | cons d ds ih =>
    obtain ⟨h1, h2, h3⟩ := ih fun d hd => h d (List.mem_cons_of_mem _ hd)
    have q := h d List.mem_cons_self
    refine ⟨by simp [PyData.showableAll, h1, q.sh], by simp [PyData.hasDictAll, h2, q.nd], ?_⟩
    have := q.dp
    simp only [PyData.depthAll]
    omega
theorem Sh.tup (h : ∀ d ∈ ds, Sh d n k) (hc : ds.length ≤ c) : Sh (.tuple ds) (3 + c * (n + 2)) (k + 1) := by
  obtain ⟨h1, h2, h3⟩ := sh_all h
  refine ⟨by simpa [PyData.showable] using h1, by simpa [PyData.hasDict] using h2, by simp only [PyData.depth]; omega, ?_⟩
  have h4 := join_le (shownAll_le fun d hd => (h d hd).len)
  rw [PyData.shownAll_length] at h4
  have h5 : ds.length * (n + 2) ≤ c * (n + 2) := Nat.mul_le_mul_right _ hc
  rw [PyData.shown_tuple, strLen_append, strLen_append]
  have e1 : (("(" : String) : Str).length = 1 := rfl
  have e2 : ((if ds.length == 1 then ",)" else ")" : String) : Str).length ≤ 2 := by split <;> decide
  omega
theorem Sh.list (h : ∀ d ∈ ds, Sh d n k) (hc : ds.length ≤ c) : Sh (.list ds) (3 + c * (n + 2)) (k + 1) := by
  obtain ⟨h1, h2, h3⟩ := sh_all h
  refine ⟨by simpa [PyData.showable] using h1, by simpa [PyData.hasDict] using h2, by simp only [PyData.depth]; omega, ?_⟩
  have h4 := join_le (shownAll_le fun d hd => (h d hd).len)
  rw [PyData.shownAll_length] at h4
  have h5 : ds.length * (n + 2) ≤ c * (n + 2) := Nat.mul_le_mul_right _ hc
  rw [PyData.shown_list, strLen_append, strLen_append]
  have e1 : (("[" : String) : Str).length = 1 := rfl
  have e2 : (("]" : String) : Str).length = 1 := rfl
  omega
theorem small_log {i : Int} (h : i.natAbs ≤ 1000) : i.natAbs.log2 < 1920 := by
  have h2 : i.natAbs.log2 < 10 := PySem.Flt.log2_lt_of (by decide) (Nat.lt_of_le_of_lt h (by decide))
  omega
theorem Sh.int {i : Int} (h : i.natAbs ≤ 1000) : Sh (.int i) 1002 1 := by
  refine ⟨by simp only [PyData.showable]; exact decide_eq_true (small_log h), by simp only [PyData.hasDict], by simp [PyData.depth], ?_⟩
  rw [PyData.shown_int]
  have := len_str_of_int i
  omega
theorem Sh.none : Sh .none 1002 1 := ⟨by simp only [PyData.showable], by simp only [PyData.hasDict], by simp [PyData.depth], by rw [PyData.shown_none]; decide⟩
theorem Sh.mv (m : Mv) : Sh (.str m.str) 1002 1 := by
  refine ⟨by simp only [PyData.showable], by simp only [PyData.hasDict], by simp [PyData.depth], ?_⟩
  rw [PyData.shown_str]
  cases m <;> decide +kernel
end
/-! ### what the law shows -/
def pairD (m : Mv × Nat) : PyData := .tuple [.str m.1.str, .int (m.2 : Nat)]
def rowD (row : Row) : PyData := .tuple (row.map pairD)
def planD (R : Rule) : PyData := .tuple [.tuple (R.cuts.map .int), .tuple (R.ph.map rowD)]
def oD : Option Int → PyData
  | none => .none
  | some i => .int i
theorem dp_all {K : PySem.W.Frag} {H : Hp} {α : Type} {F : Addr → α → Prop} {g : α → PyData} (hg : ∀ b m, F b m → Dp K H (.ref b) (g m)) : ∀ {bs : List Addr} {ms : List α}, Paired F bs ms → DpAll K H (bs.map V.ref) (ms.map g) := by
  intro bs ms h
  induction h with
  | nil => exact .nil
  | cons r t ih => exact .cons (hg _ _ r) ih
theorem RuleAt.dp {K : PySem.W.Frag} {R : Rule} {H : Hp} {r : Addr} (h : RuleAt R H r) : Dp K H (.ref r) (planD R) := by
  obtain ⟨am, ap, h1, h2, bs, h3, h4⟩ := h.adr
  refine .tup (SqT.of h1) (.cons (.tup (SqT.of h2) (dp_ints _)) (.cons (.tup (SqT.of h3) (dp_all (F := PhaseAt H) (fun b row q => ?_) h4)) .nil))
  obtain ⟨cs, q1, q2⟩ := q
  exact .tup (SqT.of q1) (dp_all (F := PairAt H) (fun c m z => .tup (SqT.of z) (.cons (.str _) (.cons (.int _) .nil))) q2)
theorem Sh.up {d : PyData} {n k n' k' : Nat} (h : Sh d n k) (h1 : n ≤ n') (h2 : k ≤ k') : Sh d n' k' := ⟨h.sh, h.nd, Nat.le_trans h.dp h2, Nat.le_trans h.len h1⟩
theorem oD_sh {o : Option Int} (h : ∀ b, o = some b → 0 ≤ b ∧ b ≤ 1000) : Sh (oD o) 1002 1 := by
  cases o with
  | none => exact Sh.none
  | some b =>
    have := h b rfl
    exact Sh.int (by omega)
theorem planD_sh {R : Rule} (G : Good R) (hl : ∀ m ∈ R.cuts, -100 ≤ m ∧ m ≤ 100) : Sh (planD R) 50000 10 := by
  have h1 : Sh (.tuple (R.cuts.map PyData.int)) (3 + 2 * 1004) 2 := Sh.tup (fun d hd => by
    obtain ⟨m, hm, rfl⟩ := List.mem_map.mp hd
    have := hl m hm
    exact Sh.int (by omega)) (by rw [List.length_map]; exact G.two)
  have hp : ∀ row ∈ R.ph, ∀ m ∈ row, Sh (pairD m) (3 + 2 * 1004) 2 := fun row hr m hm => Sh.tup (fun d hd => by
    rcases List.mem_cons.mp hd with rfl | hd
    · exact Sh.mv _
    · rw [List.mem_singleton] at hd
      subst hd
      have hlt : m.2 < R.ph.length := by
        obtain ⟨p, hp, e⟩ := List.getElem_of_mem hr
        obtain ⟨c, hc, e2⟩ := List.getElem_of_mem hm
        have := G.nxt p c hp
        unfold Rule.pr at this
        rw [List.getD_eq_getElem?_getD (l := R.ph), List.getElem?_eq_getElem hp, Option.getD_some, e, List.getD_eq_getElem?_getD, List.getElem?_eq_getElem hc, Option.getD_some, e2] at this
        exact this
      have := G.n3
      exact Sh.int (by omega)) (by show 2 ≤ 2; decide)
  have h2 : Sh (.tuple (R.ph.map rowD)) (3 + 3 * ((3 + 3 * ((3 + 2 * 1004) + 2)) + 2)) 4 := Sh.tup (fun d hd => by
    obtain ⟨row, hr, rfl⟩ := List.mem_map.mp hd
    exact Sh.tup (c := 3) (fun d hd => by
      obtain ⟨m, hm, rfl⟩ := List.mem_map.mp hd
      exact hp row hr m hm) (by rw [List.length_map]; have := G.rows row hr; omega)) (by rw [List.length_map]; exact G.n3)
  have h3 : Sh (planD R) (3 + 2 * ((3 + 3 * ((3 + 3 * ((3 + 2 * 1004) + 2)) + 2)) + 2)) 5 := Sh.tup (fun d hd => by
    rcases List.mem_cons.mp hd with rfl | hd
    · exact h1.up (by decide) (by decide)
    · rw [List.mem_singleton] at hd
      subst hd
      exact h2) (by show 2 ≤ 2; decide)
  exact h3.up (by decide) (by decide)
def rRepr (K : PySem.W.Frag) : List V → Hp → VK → Prop := fun xs H Q => ∃ (a : Addr) (d : PyData), xs = [V.ref a] ∧ Dp K H (.ref a) d ∧ Sh d 100000 20 ∧ Q (.str d.shown) H
def rReprO : List V → Hp → VK → Prop := fun xs H Q => ∃ o : Option Int, xs = [oV o] ∧ (∀ b, o = some b → 0 ≤ b ∧ b ≤ 1000) ∧ Q (.str (oD o).shown) H
section
variable {X : Cx}
theorem cr_repr (hg : X.A.guards = some []) (hu : X.A.units + 64 < cLine) : CallR X (.builtin "repr") (rRepr X.K) := by
  intro pins s σ H xs us Q I r h
  obtain ⟨a, d, rfl, hd, S, q⟩ := h
  rw [Vals.ref1 r]
  obtain ⟨as, hr⟩ := Dp.reads I d (.ref a) (.ref a) hd rfl
  have hdp := S.dp
  exact repr_of_reads' hr S.sh (PyData.noDict_hsm S.nd) hg (by omega) (fun _ _ e => e) (fun h' u tk hk => ⟨.str d.shown, H, I.kept (t' := tk) hk, ⟨u, rfl⟩, q⟩) (Nat.le_trans S.len (by decide))
theorem cr_reprO : CallR X (.builtin "repr") rReprO := by
  intro pins s σ H xs us Q I r h
  obtain ⟨o, rfl, hb, q⟩ := h
  cases o with
  | none =>
    have e : us = [Value.none] := by
      cases r with
      | cons r1 r2 => cases r2; cases r1; rfl
    subst e
    refine PySem.P.repr_of_none ⟨.str (oD none).shown, H, I.tok _, ⟨s.toks, ?_⟩, q⟩
    rw [show (oD none).shown = ("None" : Str) from PyData.shown_none]
  | some i =>
    obtain ⟨u, rfl, t, rfl⟩ := vals1 r
    have := hb i rfl
    refine PySem.P.repr_of_int (small_log (by omega)) ⟨.str (oD (some i)).shown, H, I.tok _, ⟨s.toks, ?_⟩, q⟩
    rw [show (oD (some i)).shown = ((toString i : String) : Str) from PyData.shown_int i]
/-- f(k = v) -/
theorem pe_callK0 {CX : CXT} {k : Nat} {f : Addr} {fd : FuncData} {ps ks : List Str} {sp : Sp} {E : XK} {x : Str} {p pos : Pos} {kws : List Keyword} {tk : TA} {g : List Value → List Value → List Value} {gV : List V → List V → List V}
    (F : FnOk X.prog X.w X.K X.mg X.base CX k f fd ps sp) (hr : Room k X.A) (hgl : Gl X x) (hm : X.mg x = some (.ref f)) (hk : PySem.W.keepIn X.K (.ref f) = true) (hb : KBn X.K fd ps 0 ks g gV) (hx : Passes CX X E) (hkw : PK X kws tk)
    (hall : (backToKw pos (keywordEach kws X.env)).all (·.1.isSome) = true := by rfl) (hks : (backToKw pos (keywordEach kws X.env)).filterMap (·.1) = ks := by rfl) (hdb : (x == ("__debug__" : Str)) = false := by decide)
    (hpl : ((backTo pos (starEach [] X.env)).any (·.1) || (backToKw pos (keywordEach kws X.env)).any (·.1.isNone)) = false := by rfl) :
    PE X (.Call (.Name x p) [] kws pos) (tCallN 0 ks.length sp gV E tNil tk) := by
  refine ⟨fun pins s σ H Q I h => ?_⟩
  refine wpAny_Call_Name_kw (ld_glob I hgl hm ?_ hdb)
  refine PySem.W.callWith_KW0 (h₀ := X.base) I.ok.mod.kin hk hall (thn (hkw.run pos pins s σ H _ I h) fun ws s2 ⟨zs, H2, I2, rz, l1, l2, q2⟩ => ⟨I2.kIn, ?_⟩) hpl
  rw [hks]
  exact run_fnN (us := []) (vs := []) F hr hb hx I2 .nil rz rfl l2 q2
end
end K37
set_option Elab.async false
set_option linter.all false
set_option maxRecDepth 100000
/-! The law's own def is entered at the caller's place, where no repr is under way. -/
namespace K37
open PySem PySem.Spec PyProof.Rows L2
section
variable (P : Program) (w : World) (K : PySem.W.Frag) (mg : Str → Option Value) (base : Heap)
/-- a promise of one def, kept where the claim's caller calls it -/
def RunsA (fa : Addr) (fd : FuncData) (x : Str) (sp : Sp) : Prop := ∀ (s : Shared) (H : Hp) (u : Value) (v : V) (Q : VK), Env0 P w K mg base callerA [] s H → BindsTo s fd ⟨[u], []⟩ [(x, u)] → RelV v u → sp [v] H Q E0 →
  codeAny (model P w) callerA (.call (.ref fa) ⟨[u], []⟩) (CR CX0 [] P w H s Q E0) s
end
section
variable {P : Program} {w : World} {K : PySem.W.Frag} {mg mb : Str → Option Value} {base : Heap}
theorem runs_fn {x y : Str} {st : Stmt} {fa : Addr} {fd : FuncData} {N : List Str} {k : Nat} {sp : Sp} (F : Fun K x x st fa fd) (S : FnScope N [y] (defScope st)) (hr : Room (k + 1) callerA)
    (body : ∀ (cdv : Value) (A : Around) (s : Shared) (H : Hp) (v : V) (Q : VK), A.guards = some [] → Room k A → A = callerA.deeper (envOfC x (defScope st) s.heap.objs.size fa cdv) → sp [v] H Q E0 →
      ∃ t, PSs (cxOf CX0 P w K mg base N x (defScope st) fa cdv callerA [] s H E0).nox (defBody st) t ∧ t { nx := fun _ H' => Q .non H', rt := Q } (L2.start N [v]) H) : RunsA P w K mg base fa fd y sp := by
  intro s H u v Q ev hb rv hs
  obtain ⟨oc, od, kV, doc, pm, an, cdv, ct, osl, rfl, lk, hcd⟩ := F.ex
  have kx : K.In s.heap := ev.mod.kin.keeps fun b o e => (ev.bs b o e).1
  have nl : s.heap.NoLimit := ev.mod.nolimit.keeps fun b o e => (ev.bs b o e).1
  refine codeAny_call_function hr.depth (kx _ _ lk) rfl S.co S.gen rfl (PySem.W.codeRec_of kx hcd) (hb _ _ _ _ ?_)
  refine wpAny_newFunctionEnv_cells S.kind (fun z hz => ?_) fun env he s1 ic => ?_
  · obtain ⟨n, v'⟩ := z
    have hn : n ∈ [y] := by
      rcases List.mem_cons.mp hz with e | e
      · cases e; exact List.mem_cons_self
      · cases e
    exact (S.par n hn).elim .inl fun q => .inr ⟨q, PySem.W.cellsFrom_some _ _ _ (.inl q)⟩
  subst he
  refine ⟨nl.keeps ic.toInCall.keep, codeAny_func ?_⟩
  obtain ⟨t, ht, hq⟩ := body cdv _ s H v Q rfl (hr.deeper _) rfl hs
  have I : Inv (cxOf CX0 P w K mg base N x (defScope st) fa cdv callerA [] s H E0) [] (L2.start N [v]) H s1 := inv_start (us := [u]) S hr.hd ev rfl (Paired.cons rv .nil) ic
  have fin : ∀ {σ' : L2.St} {H' : Hp} {z : V} {r : Value} {s' : Shared}, Inv (cxOf CX0 P w K mg base N x (defScope st) fa cdv callerA [] s H E0) [] σ' H' s' → RelV z r → Q z H' → CE [] P w H s Q r s' := fun {_ H' z _ _} J rz q => ⟨z, H', J.os, J.bare, J.base, J.hok, rz, q⟩
  refine wpAny_mono (ht.nox.run [] s1 _ H _ I hq) (fun fl s' h => ?_) fun _ _ h => h
  cases fl with
  | ret r =>
    obtain ⟨z, σ', H', J, rz, q⟩ := h
    exact fin J rz q
  | next =>
    obtain ⟨σ', H', J, q⟩ := h
    exact fin (z := V.non) (r := Value.none) J rfl q
  | brk => exact h.elim fun _ z => z.elim fun _ z => z.2.elim
  | cont => exact h.elim fun _ z => z.elim fun _ z => z.2.elim
/-- the law is called: from what is tracked of its script on -/
theorem callA {fa a : Addr} {fd : FuncData} {x : Str} {sp : Sp} {t : Shared} {vs : List Value} {H : Hp} (kx : K.In t.heap) (hns : t.heap.Ns mainGlobals mg) (hb : t.heap.Ns builtinsNs mb) (hbb : ∀ x : Str, x ≠ "__name__" → mb x = bootBuiltins x)
    (nl : t.heap.NoLimit) (hg : t.gens = #[]) (ha : t.heap.get? a = some { cls := .type "list", data := .seq vs.toArray }) (F : ∀ base : Heap, K.In base → base.Ns mainGlobals mg → RunsA P w K mg base fa fd x sp) (hbd : ∀ (s : Shared) (u : Value), BindsTo s fd ⟨[u], []⟩ [(x, u)])
    (only : Only H) (hok : HOk P w H t.heap) (hA : ∀ b, H b ≠ none → b = a) (hK : H a ≠ none → K.lookup a = none) (hsp : sp [.ref a] H (fun v _ => v = .bl true) E0) :
    codeAny (model P w) callerA (.call (.ref fa) ⟨[.ref a], []⟩) (fun r s' => r = .ok (.ret (.bool true)) ∧ PySem.OldK t.heap s'.heap ∧ s'.os = t.os ∧ AllBare s'.gens) t := by
  have isa : ∀ {b : Addr} {u : HO}, H b = some u → b = a := fun {b u} q => hA b (by rw [q]; simp)
  have low : ∀ {b : Addr} {o : Obj}, t.heap.get? b = some o → H b = none → (hidT t.heap H).get? b = some o := fun e n => hidT_get e n
  have dct : ∀ {b : Addr} {o : Obj} {es : Array DictEntry} {ep : Nat}, t.heap.get? b = some o → o.data = .dict es ep → H b = none := fun {b o es ep} e d => by
    cases q : H b with
    | none => rfl
    | some u =>
      rw [isa q, ha] at e
      cases e
      exact nomatch (show Data.seq vs.toArray _ = Data.dict es ep from d)
  have nsk : ∀ {b : Addr} {m : Str → Option Value}, t.heap.Ns b m → (hidT t.heap H).Ns b m := fun {b m} ⟨o, es, ep, e, d, r⟩ => ⟨o, es, ep, low e (dct e d), d, r⟩
  have kb : K.In (hidT t.heap H) := fun b o e => low (kx b o e) (by
    cases q : H b with
    | none => rfl
    | some u =>
      have z := isa q
      subst z
      rw [hK (by rw [q]; simp)] at e
      cases e)
  have md : Mod K mg (hidT t.heap H) := ⟨kb, nsk hns, ⟨mb, nsk hb, hbb⟩, let ⟨mc, h1, h2⟩ := nl; ⟨mc, nsk h1, h2⟩⟩
  have ev : Env0 P w K mg (hidT t.heap H) callerA [] t H := ⟨rfl, md, fun b o e => of_hidT e, Nat.le_of_eq (hidT_size _ _), trivial, fun b z => absurd (show b ∈ ([] : List Addr) from z) (by simp), hok, .of_eq hg⟩
  refine codeAny_mono (F _ kb (nsk hns) t H (.ref a) (.ref a) _ ev (hbd t (.ref a)) rfl hsp) fun r s' h => ?_
  cases r with
  | error e => exact h.elim
  | ok fl =>
    cases fl with
    | ret u =>
      obtain ⟨v, H', os, bare, un, ok', rv, q⟩ := h
      obtain rfl : v = .bl true := q
      obtain rfl : u = Value.bool true := rv
      refine ⟨rfl, PySem.OldK.of_keep fun b o e => ?_, os, bare⟩
      cases q : H b with
      | none => exact un.keep b o e q (fun z => absurd (show b ∈ ([] : List Addr) from z) (by simp)) (by simp)
      | some u =>
        rcases only b with z | ⟨ob, xs, z⟩
        · rw [q] at z; cases z
        · obtain ⟨e1, _⟩ := hok b _ z
          obtain ⟨e2, _⟩ := ok' b _ (un.frzs b ob _ z)
          rw [e] at e1
          cases e1
          exact e2
    | next => exact h.elim
    | brk => exact h.elim
    | cont => exact h.elim
theorem law_callA {fa a : Addr} {fd : FuncData} {x : Str} {sp : Sp} {t : Shared} {vs : List Value} {ns : List Int} (kx : K.In t.heap) (hns : t.heap.Ns mainGlobals mg) (hb : t.heap.Ns builtinsNs mb) (hbb : ∀ x : Str, x ≠ "__name__" → mb x = bootBuiltins x)
    (nl : t.heap.NoLimit) (hg : t.gens = #[]) (ha : t.heap.get? a = some { cls := .type "list", data := .seq vs.toArray }) (hi : IntsAre vs ns) (hl : ns.length ≤ sizeLine) (F : ∀ base : Heap, K.In base → base.Ns mainGlobals mg → RunsA P w K mg base fa fd x sp)
    (hbd : ∀ (s : Shared) (u : Value), BindsTo s fd ⟨[u], []⟩ [(x, u)]) (hsp : ∀ H : Hp, SqL K H a (ns.map V.int) → sp [.ref a] H (fun v _ => v = .bl true) E0) :
    codeAny (model P w) callerA (.call (.ref fa) ⟨[.ref a], []⟩) (fun r s' => r = .ok (.ret (.bool true)) ∧ PySem.OldK t.heap s'.heap ∧ s'.os = t.os ∧ AllBare s'.gens) t := by
  have rv := vals_ints hi
  have lv := hi.length
  cases hk : K.lookup a with
  | some o =>
    have e := kx a o hk
    rw [ha] at e
    cases e
    exact callA (H := fun _ => none) kx hns hb hbb nl hg ha F hbd (fun _ => .inl rfl) (fun b u z => nomatch (show (none : Option HO) = some u from z)) (fun b z => absurd rfl z) (fun z => absurd rfl z)
      (hsp _ (.inr ⟨_, vs.toArray, _, hk, rfl, rfl, rfl, by rw [List.size_toArray, lv]; exact hl, by simpa using rv⟩))
  | none =>
    refine callA (H := fun b => if b = a then some (.frz { cls := .type "list", data := .seq vs.toArray } (.lst (ns.map V.int))) else none) kx hns hb hbb nl hg ha F hbd (fun b => ?_) (fun b u z => ?_) (fun b z => ?_) (fun _ => hk) (hsp _ (.inl (.inr ⟨_, if_pos rfl⟩)))
    · by_cases q : b = a
      · exact .inr ⟨_, _, if_pos q⟩
      · exact .inl (if_neg q)
    · by_cases q : b = a
      · cases (if_pos q).symm.trans z
        subst q
        exact ⟨ha, by rw [List.length_map]; exact hl, vs, _, rv, ha⟩
      · cases (if_neg q).symm.trans z
    · by_cases q : b = a
      · exact q
      · exact absurd (if_neg q) z
end
theorem walk_ofA {l : PySem.W.OpenLaw} {n : Nat} {q : Program} {loose : List Str} {XP : (Str → Option Value) → Heap → Prop} {YP : World → Heap → Prop} {d : DefRec} {K : Params → PySem.W.Frag} {sp : World → Sp} {x : Str} (hn : l.most = some n) (hn2 : n ≤ sizeLine) (hdf : d.params.defaults = [])
    (hY : ∀ (w : World) (h : Heap), YP w h → (K w.params).In h) (F : ∀ (w : World) (mg : Str → Option Value) (fa : Addr) (h : Heap), (K w.params).In h → h.Ns mainGlobals mg → mg d.name = some (.ref fa) →
      ∃ fd : FuncData, (∀ (s : Shared) (u : Value), BindsTo s fd ⟨[u], []⟩ [(x, u)]) ∧ ∀ base : Heap, (K w.params).In base → base.Ns mainGlobals mg → RunsA l.prog w (K w.params) mg base fa fd x (sp w))
    (hsp : ∀ (w : World) (H : Hp) (a : Addr) (ns : List Int), ns.length ≤ n → SqL (K w.params) H a (ns.map V.int) → sp w [.ref a] H (fun v _ => v = .bl true) E0) : PySem.W.WalkO q loose XP YP l.row.toRowW d [] (fun f vs => PySem.call f vs) := by
  refine Att.attach_call hn hdf fun w s0 t mg mb fa o pm cd doc a vs ns G Y ho hd hcd hmg hob hin hlen hg => ?_
  have kx := hY w _ Y
  obtain ⟨fd, hb, hF⟩ := F w mg fa _ kx G.T.g hmg
  exact law_callA kx G.T.g G.T.b G.T.builtins G.T.nolimit hg hob hin (Nat.le_trans hlen hn2) hF hb fun H hS => hsp w H a ns hlen hS
end K37
set_option Elab.async false
set_option linter.all false
set_option maxRecDepth 100000
/-! The law's own def. -/
namespace K37
open PySem PySem.Spec PyProof.Rows L2
theorem foldl_mem : ∀ (vs : List (Option Int)) (v : Option Int) (b : Int), vs.foldl maxI v = some b → some b ∈ v :: vs
  | [], v, b, h => by
    have h : v = some b := h
    rw [h]; exact List.mem_cons_self
  | u :: vs, v, b, h => by
    have h : vs.foldl maxI (maxI v u) = some b := h
    rcases List.mem_cons.mp (foldl_mem vs _ b h) with e | e
    · cases v with
      | none => cases e
      | some x => cases u with
        | none => cases e
        | some y =>
          have e : some b = some (max x y) := e
          injection e with e
          rcases Int.le_total x y with q | q
          · rw [Int.max_eq_right q] at e
            rw [e]; simp
          · rw [Int.max_eq_left q] at e
            rw [e]; simp
    · exact List.mem_cons_of_mem _ (List.mem_cons_of_mem _ e)
theorem greatI_mem {vs : List (Option Int)} {b : Int} (h : greatI vs = some b) : some b ∈ vs := by
  cases vs with
  | nil => cases h
  | cons v vs => exact foldl_mem vs v b h
theorem RuleAt.tups {R : Rule} {H H' : Hp} {r : Addr} (h : RuleAt R H r) (t : Tups H H') : RuleAt R H' r := by
  obtain ⟨am, ap, h1, h2, h3⟩ := h.adr
  exact ⟨h.good, h.lim, am, ap, t _ _ h1, t _ _ h2, h3.tups t⟩
/-- the marks the law starts from: its own, or one integer -/
structure Marks (R : Rule) (cs : List Int) : Prop where
  ne : cs ≠ []
  own : R.cuts ≠ [] → cs = R.cuts
  one : R.cuts = [] → ∃ c, cs = [c] ∧ -10 ≤ c ∧ c ≤ 10
theorem Marks.st {R : Rule} {cs : List Int} (M : Marks R cs) (G : Good R) (Nr : Near R) {s : Int} (hs : s ∈ lawStarts cs R.ph.length) : StOk R s := by
  have hn3 := G.n3
  by_cases hc : R.cuts = []
  · obtain ⟨c, rfl, c1, c2⟩ := M.one hc
    have ho : outerOf R s = s := by unfold outerOf; rw [hc]; rfl
    have hs2 : -20 ≤ s ∧ s ≤ 20 := by
      unfold lawStarts at hs
      simp at hs
      omega
    exact ⟨by omega, by omega, by omega, by omega⟩
  · have e := M.own hc
    subst e
    rcases List.eq_nil_or_concat R.cuts with h | ⟨l, a, h⟩
    · exact absurd h hc
    · rw [List.concat_eq_append] at h
      have ham : a ∈ R.cuts := by rw [h]; simp
      have ho : outerOf R s = a := by unfold outerOf; rw [h, List.getLast?_append]; rfl
      have hhd : R.cuts.headD 0 ∈ R.cuts := by
        cases q : R.cuts with
        | nil => exact absurd q hc
        | cons x y => exact List.mem_cons_self
      have hle : ∀ m ∈ R.cuts, m ≤ a := fun m hm => by
        have := outer_ge G.asc s m hm
        omega
      have h1 := Nr.lo a ham
      have h2 := Nr.lo _ hhd
      have h3 := Nr.nr _ hhd a ham
      have h4 := hle _ hhd
      have hs2 : s ≤ a ∧ a - s ≤ 12 ∧ -100 ≤ s := by
        unfold lawStarts at hs
        rcases List.mem_cons.mp hs with rfl | hs
        · omega
        · have g1 := hle s hs
          have g2 := Nr.nr s hs a ham
          have g3 := Nr.lo s hs
          omega
      exact ⟨by omega, by omega, by omega, by omega⟩
/-- what greatest_rounds asks has the law's due -/
theorem Marks.told {R : Rule} {cs : List Int} (M : Marks R cs) (G : Good R) {ws : List (Option Int)} (A : Ans R (firsts R) ws) : greatI ws = lawDue R cs := by
  cases hc : R.cuts with
  | nil => exact due_none hc A (by unfold firsts; rw [hc]; simp) M.ne
  | cons c r =>
    have e := M.own (by rw [hc]; simp)
    subst e
    have hf : firsts R = (c - 1 - R.ph.length) :: c :: r := by unfold firsts; rw [hc]
    refine due_marks G.toFits hc A (fun m hm => ?_) ⟨c - 1 - R.ph.length, by rw [hf]; exact List.mem_cons_self, Int.le_refl _⟩ (fun x hx => ?_)
    · rw [hf]
      rw [hc] at hm
      exact List.mem_cons_of_mem _ hm
    · rw [hf] at hx
      rcases List.mem_cons.mp hx with rfl | hx
      · omega
      · have := head_least G.asc hc x (by rw [hc]; exact hx)
        omega
/-- so has the greatest over all integers around -/
theorem Marks.around {R : Rule} {cs : List Int} (M : Marks R cs) (G : Good R) {lo : Int} {n : Nat} {ws : List (Option Int)} (A : Ans R ((List.range n).map fun i : Nat => lo + (i : Int)) ws) (hlo : lo = cs.headD 0 - 3 - R.ph.length)
    (hhi : ∀ c ∈ cs, c < lo + n) : greatI ws = lawDue R cs := by
  have hn : 0 < n := by
    cases q : cs with
    | nil => exact absurd q M.ne
    | cons c l =>
      have h1 := hhi c (by rw [q]; exact List.mem_cons_self)
      rw [q] at hlo
      have hlo : lo = c - 3 - R.ph.length := hlo
      omega
  have hes : ∀ x, x ∈ ((List.range n).map fun i : Nat => lo + (i : Int)) ↔ lo ≤ x ∧ x < lo + n := fun x => by
    rw [List.mem_map]
    constructor
    · rintro ⟨i, hi, rfl⟩
      have := List.mem_range.mp hi
      omega
    · intro h
      exact ⟨(x - lo).toNat, List.mem_range.mpr (by omega), by omega⟩
  cases hc : R.cuts with
  | nil => exact due_none hc A (List.ne_nil_of_mem ((hes lo).mpr ⟨Int.le_refl _, by omega⟩)) M.ne
  | cons c r =>
    have e := M.own (by rw [hc]; simp)
    subst e
    have hlo : lo = c - 3 - R.ph.length := by rw [hlo, hc]; rfl
    refine due_marks G.toFits hc A (fun m hm => (hes m).mpr ⟨?_, hhi m hm⟩) ⟨lo, (hes lo).mpr ⟨Int.le_refl _, by omega⟩, by omega⟩ (fun x hx => ?_)
    · have := head_least G.asc hc m hm
      omega
    · have := (hes x).mp hx
      omega
abbrev sLaw : Stmt := topS 44
abbrev nLaw : List Str := ["_law_script", "_law_feed_here", "_law_lap", "_law_plan_here", "_law_kept", "_law_cuts_here", "_law_starts", "_law_due", "_law_start_here", "_law_told", "_law_around"]
theorem scLaw : FnScope nLaw ["_law_script"] (defScope sLaw) := ⟨rfl, rfl, rfl, by decide +kernel, rfl, by decide +kernel, by decide +kernel⟩
def spLaw (K : PySem.W.Frag) : Sp := fun vs H Q _ => ∃ (a : Addr) (ns : List Int), vs = [.ref a] ∧ SqL K H a (ns.map V.int) ∧ ∀ H', Q (.bl true) H'
section
variable {P : Program} {w : World} {K : PySem.W.Frag} {mg : Str → Option Value} {base : Heap} {f C : Addr} {fd : FuncData}
/-- what the law calls -/
structure LawCals (P : Program) (w : World) (K : PySem.W.Frag) (mg : Str → Option Value) (base : Heap) : Prop where
  feed : Cal P w K mg base 1 "_law_feed" ["_law_script"] (spFeed K)
  plan : Cal P w K mg base 4 "_law_plan" ["_law_feed_here", "_law_size", "_law_many"] spPlan
  start : Cal P w K mg base 3 "_law_start" ["_law_feed_here", "_law_cuts_here"] spStart
  best : Cal P w K mg base 1 "_law_best" ["_law_values"] spGreat
  long : Cal P w K mg base 5 "_law_longest" ["_law_plan_here", "_law_start_here"] spLong
  gr : ∃ (f : Addr) (fd : FuncData), FnOk P w K mg base CX0 9 f fd ["rule"] spGr ∧ Binds K fd ["rule"] [] ∧ KBn K fd ["rule"] 0 ["rule"] (fun us ws => us ++ ws) (fun vs zs => vs ++ zs) ∧ PySem.W.keepIn K (.ref f) = true ∧ mg "greatest_rounds" = some (.ref f)
  most : Cal P w K mg base 9 "most_rounds" ["rule", "first"] spMost
  mr : mg "range" = none
  ml : mg "len" = none
  mp : mg "repr" = none
  mt : mg "list" = none
theorem runs_law (F : Fun K "law" "law" sLaw f fd) (L : LawCals P w K mg base) : RunsA P w K mg base f fd "_law_script" (spLaw K) := by
  obtain ⟨fg, fdg, FG, bG, kG, kpG, mG⟩ := L.gr
  refine runs_fn (k := 12) F scLaw ⟨rfl, by decide, by decide⟩ ?_
  rintro cdv A s H v Q hg hr rfl ⟨a, ns, hv, ha, k⟩
  obtain rfl : v = .ref a := by simpa using hv
  refine ⟨_, pss_cons (ps_set (i := 1) scLaw.nd rfl (Or.inl rfl) (pe_cal L.feed hr (pa_cons (pv 0) pa_nil)))
    (pss_cons (ps_for PassesOwn.never rfl (pi_range1 (by rfl) L.mr (pa_cons pe_int pa_nil)) (pg_name (i := 2) scLaw.nd rfl (Or.inl rfl))
      (pss_cons (ps_set (i := 3) scLaw.nd rfl (Or.inr rfl) (pe_cal L.plan hr (pa_cons (pv 1) (pa_cons pe_int (pa_cons pe_int pa_nil)))))
      (pss_cons (ps_par (i := 4) (j := 5) rfl scLaw.nd rfl rfl (by decide) rfl rfl (pa_cons (pe_callB (cr_repr hg hr.units) (by rfl) L.mp (by decide +kernel) (pa_cons (pv 3) pa_nil)) (pa_cons (pe_callTy call_list_of (by rfl) L.mt (by decide +kernel) (pa_cons (pe_ix ix_tup (pv 3) pe_int (fun _ _ => rfl)) pa_nil)) pa_nil)) (by rfl))
      (C8.pss_cut (ps_if (pt_cmpR (op_eqD hr.units) (pv 5) (pe_lst pa_nil) (nomark _)) (pss_one (ps_set (i := 5) scLaw.nd rfl (Or.inl rfl) (pe_lst (pa_cons (pe_cal L.start hr (pa_cons (pv 1) (pa_cons (pe_tup pa_nil) pa_nil))) pa_nil)))) pss_nil)
      (pss_cons (ps_set (i := 6) scLaw.nd rfl (Or.inl rfl) (pe_op op_cat (pe_lst (pa_cons (pe_op op_sub (pe_op op_sub (pe_ix ix_list (pv 5) pe_int (fun _ _ => rfl)) pe_int) (pe_callB call_len_seq (by rfl) L.ml PySem.boot_len (pa_cons (pe_ix ix_tup (pv 3) pe_int (fun _ _ => rfl)) pa_nil))) pa_nil)) (pv 5)))
      (pss_cons (ps_set (i := 7) scLaw.nd rfl (Or.inl rfl) (pe_cal L.best hr (pa_cons (pe_lc (own := [("_law_start_here", 8)]) (g := gName 8) (by rfl) scLaw.nd (pi_list (pv 6)) (blkOk_by (own := [("_law_start_here", 8)]) (N := nLaw) (sc := defScope sLaw) (by decide +kernel)) (fun _ _ _ _ _ => pg_name (i := 8) scLaw.nd rfl (Or.inl rfl)) (fun _ _ _ _ _ => pts_nil)
          (fun _ _ _ _ _ => pe_cal L.long hr (pa_cons (pv 3) (pa_cons (pv 8) pa_nil)))) pa_nil)))
      (pss_cons (ps_set (i := 9) scLaw.nd rfl (Or.inl rfl) (pe_lst (pa_cons (pe_call FG (hr.mono (by decide)) rfl mG kpG bG .nil pass0 (pa_cons (pv 3) pa_nil)) (pa_cons (pe_callK0 FG (hr.mono (by decide)) rfl mG kpG kG pass0 (pk_cons (pv 3) pk_nil)) pa_nil))))
      (pss_cons (ps_if (PW.pt (pw_or (pt_cmpR op_ne (pe_callB (cr_repr hg hr.units) (by rfl) L.mp (by decide +kernel) (pa_cons (pv 9) pa_nil)) (pe_callB (cr_repr hg hr.units) (by rfl) L.mp (by decide +kernel) (pa_cons (pe_lst (pa_cons (pv 7) (pa_cons (pv 7) pa_nil))) pa_nil)) (nomark _))
          (pw_or1 (pt_cmpR op_ne (pe_callB (cr_repr hg hr.units) (by rfl) L.mp (by decide +kernel) (pa_cons (pv 3) pa_nil)) (pv 4) (nomark _))))) (pss_one (ps_ret pe_bl)) pss_nil)
      (pss_cons (ps_setLc (i := 10) (own := [("_law_start_here", 8)]) (g := gName 8) (by rfl) scLaw.nd rfl rfl (sw_true rfl rfl rfl (by decide +kernel)) (pi_range2 (by rfl) L.mr (pa_cons (pe_op op_sub (pe_ix ix_list (pv 6) pe_int (fun _ _ => rfl)) pe_int) (pa_cons (pe_op op_add (pe_ix ix_list (pv 5) (pe_un un_neg pe_int) (fun _ _ => rfl)) pe_int) pa_nil)))
          (blkOk_by (own := [("_law_start_here", 8)]) (N := nLaw) (sc := defScope sLaw) (by decide +kernel)) (fun _ _ _ _ _ => pg_name (i := 8) scLaw.nd rfl (Or.inl rfl)) (fun _ _ _ _ _ => pts_nil) (fun _ _ _ _ _ => pe_cal L.most hr (pa_cons (pv 3) (pa_cons (pv 8) pa_nil))))
      (pss_one (ps_if (pt_cmpR op_ne (pe_callB cr_reprO (by rfl) L.mp (by decide +kernel) (pa_cons (pe_cal L.best hr (pa_cons (pv 10) pa_nil)) pa_nil)) (pe_callB cr_reprO (by rfl) L.mp (by decide +kernel) (pa_cons (pv 7) pa_nil)) (nomark _)) (pss_one (ps_ret pe_bl)) pss_nil)))))))))))
    (pss_one (ps_ret pe_bl))), ?_⟩
  refine ⟨_, rfl, a, ns, rfl, ha, fun H1 d cl s1 nd ncl FA => ?_⟩
  refine ⟨_, rfl, by decide, by decide, for_range (lo := 0) (n := 2) (fun i σ H' => ∃ a2 a3 a4 a5 a6 a7 a9 a10 : Option V, σ = [some (.ref a), some (.ref d), a2, a3, a4, a5, a6, a7, none, a9, a10] ∧ FeedAt H' d cl (100 * i)) ⟨none, none, none, none, none, none, none, none, rfl, FA⟩ ?_ (fun σ H' _ => k H')⟩
  rintro i σ H2 hi ⟨a2, a3, a4, a5, a6, a7, a9, a10, rfl, FA⟩
  -- the plan
  refine ⟨_, rfl, d, cl, _, rfl, FA, by omega, fun H3 r R kp FA3 RA NR => ?_⟩
  have G := RA.good
  have hsh := (planD_sh G RA.lim).up (n' := 100000) (k' := 20) (by decide) (by decide)
  have hn3 := G.n3
  obtain ⟨am, ap, h1, h2, bsa, h3, h4⟩ := id RA.adr
  have hbl : bsa.length = R.ph.length := Paired.length h4
  refine ⟨_, rfl, r, planD R, rfl, RA.dp, hsh, _, rfl, r, _, 0, _, rfl, rfl, SqT.of h1, atI_nat (j := 0) rfl, am, _, rfl, .inr (SqT.of h2), fun l nl => ⟨_, _, rfl, ?_⟩⟩
  have s4 : Same H3 (upd H3 l (.lst (R.cuts.map V.int))) := same_upd nl
  have hl4 : (upd H3 l (.lst (R.cuts.map V.int))) l = some (.lst (R.cuts.map V.int)) := upd_same
  have FA4 := FA3.same s4
  have RA4 := RA.same s4
  generalize upd H3 l (.lst (R.cuts.map V.int)) = H4 at s4 hl4 FA4 RA4 ⊢
  -- marks to start from
  refine ⟨fun σ' H' => ∃ (lc : Addr) (cs : List Int), σ' = [some (.ref a), some (.ref d), some (.int (0 + (i : Nat))), some (.ref r), some (.str (planD R).shown), some (.ref lc), a6, a7, none, a9, a10] ∧ FeedAt H' d cl (100 * i + 60) ∧ RuleAt R H' r ∧ H' lc = some (.lst (cs.map V.int)) ∧ Marks R cs, ⟨_, rfl, Nat.zero_le _, fun z nz => ?_⟩, ?_⟩
  · have s5 : Same H4 (upd H4 z (.lst [])) := same_upd nz
    obtain ⟨d1, d2, d3, d4, d5, d6, d7⟩ := eqD_nil (K := K) (SqL.of (s5 _ _ hl4)) (SqL.of (upd_same (H := H4) (a := z) (o := .lst [])))
    refine ⟨d1, d2, d3, d4, d5, d6, _, rfl, ?_⟩
    rw [d7]
    by_cases hc : R.cuts = []
    · rw [decide_eq_true hc]
      refine iteT ⟨_, rfl, Nat.zero_le _, fun t nt => ?_⟩
      have s6 := s5.trans (same_upd (o := .tup []) nt)
      refine ⟨d, cl, t, _, rfl, FA4.same s6, upd_same, by omega, fun H5 c kp5 FA5 c1 c2 => ⟨by show 1 ≤ sizeLine; decide, fun lc nlc => ?_⟩⟩
      have RA5 := (RA4.same s6).tups ((FA4.same s6).tups kp5)
      refine ⟨lc, [c], rfl, (FA5.same (same_upd nlc)).mono (by omega), RA5.same (same_upd nlc), upd_same, ⟨by simp, fun h => absurd hc h, fun _ => ⟨c, rfl, by omega, by omega⟩⟩⟩
    · rw [decide_eq_false hc]
      exact iteF ⟨l, R.cuts, rfl, (FA4.same s5).mono (by omega), RA4.same s5, s5 _ _ hl4, ⟨hc, fun _ => rfl, fun h => absurd h hc⟩⟩
  rintro σ H5 ⟨lc, cs, rfl, FA5, RA5, hlc, M⟩
  obtain ⟨am, ap, h1, h2, bsa, h3, h4⟩ := id RA5.adr
  have hbl : bsa.length = R.ph.length := Paired.length h4
  obtain ⟨c0, ct, hcs⟩ : ∃ c0 ct, cs = c0 :: ct := by
    cases q : cs with
    | nil => exact absurd q M.ne
    | cons x y => exact ⟨x, y, rfl⟩
  have hcl : cs.length ≤ 2 := by
    by_cases hc : R.cuts = []
    · obtain ⟨c, e, _⟩ := M.one hc
      rw [e]; exact (by decide : 1 ≤ 2)
    · rw [M.own hc]; exact G.two
  have hsl : (lawStarts cs R.ph.length).length ≤ 3 := by unfold lawStarts; rw [List.length_cons]; omega
  -- starts
  refine ⟨_, rfl, lc, _, 0, .int c0, rfl, rfl, SqL.of hlc, atI_nat (j := 0) (by rw [hcs]; rfl), c0, 2, rfl, rfl, _, rfl, r, _, 1, _, rfl, rfl, SqT.of h1, atI_nat (j := 1) rfl, ap, _, rfl, .inr (SqT.of h3), c0 - 2, _, rfl, rfl, ?_⟩
  rw [List.length_map, hbl]
  refine ⟨by show 1 ≤ sizeLine; decide, fun z nz => ?_⟩
  refine ⟨_, rfl, z, lc, _, _, rfl, rfl, upd_same, (same_upd nz) _ _ hlc, ?_, fun ls nls => ?_⟩
  · show 1 + (cs.map V.int).length ≤ sizeLine
    rw [List.length_map]
    exact Nat.le_of_lt (small1000 (by omega))
  have hst : [V.int (c0 - 2 - (R.ph.length : Nat))] ++ cs.map V.int = (lawStarts cs R.ph.length).map V.int := by
    unfold lawStarts
    rw [hcs]; rfl
  have s6 : Same H5 (upd (upd H5 z (.lst [.int (c0 - 2 - (R.ph.length : Nat))])) ls (.lst ([.int (c0 - 2 - (R.ph.length : Nat))] ++ cs.map V.int))) := (same_upd nz).trans (same_upd nls)
  have hls : (upd (upd H5 z (.lst [.int (c0 - 2 - (R.ph.length : Nat))])) ls (.lst ([.int (c0 - 2 - (R.ph.length : Nat))] ++ cs.map V.int))) ls = some (.lst ((lawStarts cs R.ph.length).map V.int)) := by rw [upd_same, hst]
  generalize upd (upd H5 z (.lst [.int (c0 - 2 - (R.ph.length : Nat))])) ls (.lst ([.int (c0 - 2 - (R.ph.length : Nat))] ++ cs.map V.int)) = H6 at s6 hls ⊢
  -- due
  refine ⟨_, rfl, ls, rfl, ⟨_, SqL.of hls⟩, fun D nD => ?_⟩
  refine lc_list (K := K) (a := ls) (xs := (lawStarts cs R.ph.length).map V.int) (fun j H' => Same H6 H' ∧ H' D = some (.lst ((((lawStarts cs R.ph.length).take j).map (fresh R 0)).map oV)) ∧ ∀ s ∈ (lawStarts cs R.ph.length).take j, ∀ b, fresh R 0 s = some b → 0 ≤ b ∧ b ≤ 1000)
    ⟨same_upd nD, upd_same, by simp⟩ (fun j H' _ ⟨s7, _⟩ => SqL.of (s7 _ _ hls)) ?_ ?_
  · rintro j y H7 hj ⟨s7, hD, hb⟩
    rw [List.getElem?_map] at hj
    obtain ⟨s, hs, rfl⟩ := Option.map_eq_some_iff.mp hj
    have hjl := (List.getElem?_eq_some_iff.mp hs).1
    refine ⟨rfl, _, rfl, _, rfl, R, r, s, rfl, RA5.same (s6.trans s7), M.st G NR (List.mem_of_getElem? hs), fun H8 s8 hbs => ?_⟩
    have s9 := s7.trans s8
    refine ⟨_, s8 _ _ hD, by rw [List.length_map, List.length_map]; exact small1000 (Nat.le_trans (List.length_take_le' _ _) (by omega)), fun b o e => ?_, ?_, fun q hq => ?_⟩
    · rw [upd_ne (ne_of_none e nD)]
      exact s9 _ _ e
    · rw [upd_same, List.take_add_one, hs, List.map_append, List.map_append]; rfl
    · rw [List.take_add_one, hs] at hq
      rcases List.mem_append.mp hq with hq | hq
      · exact hb q hq
      · have hq : q = s := by simpa using hq
        subst hq
        exact hbs
  rintro H7 ⟨s7, hD, hb⟩
  rw [List.length_map, List.take_length] at hD hb
  have hdue : greatI ((lawStarts cs R.ph.length).map (fresh R 0)) = lawDue R cs := rfl
  refine ⟨D, _, rfl, hD, by unfold lawStarts; simp, ?_⟩
  rw [hdue]
  have hdb : ∀ b, lawDue R cs = some b → 0 ≤ b ∧ b ≤ 1000 := fun b e => by
    obtain ⟨s, hs, e2⟩ := List.mem_map.mp (greatI_mem (hdue.trans e))
    exact hb s hs b e2
  clear hdue hb hD
  generalize hdu : lawDue R cs = due at hdb ⊢
  have s8 := s6.trans s7
  have RA7 := RA5.same s8
  have FA7 := FA5.same s8
  have hlc7 := s8 _ _ hlc
  have hls7 := s7 _ _ hls
  clear s6 s7 s8 hls hlc FA5 nD
  -- told
  refine ⟨_, rfl, R, r, rfl, RA7, fun H8 ws s8 A8 => ?_⟩
  have e8 := (M.told G A8).trans hdu
  refine ⟨_, rfl, rfl, rfl, R, r, rfl, RA7.same s8, fun H9 ws2 s9 A9 => ⟨by show 2 ≤ sizeLine; decide, fun lt nlt => ?_⟩⟩
  have e9 := (M.told G A9).trans hdu
  rw [e8, e9]
  have s10 : Same H9 (upd H9 lt (.lst [oV due, oV due])) := same_upd nlt
  have hlt : (upd H9 lt (.lst [oV due, oV due])) lt = some (.lst [oV due, oV due]) := upd_same
  have s11 := (s8.trans s9).trans s10
  generalize upd H9 lt (.lst [oV due, oV due]) = H10 at hlt s11 ⊢
  clear s8 s9 s10 A8 A9 e8 e9
  have hod : Sh (.list [oD due, oD due]) 100000 20 := (Sh.list (fun e he => by
    have : e = oD due := by simpa using he
    rw [this]
    exact oD_sh hdb) (show 2 ≤ 2 by decide)).up (by decide) (by decide)
  have dpo : ∀ (H' : Hp) (o : Option Int), Dp K H' (oV o) (oD o) := fun H' o => by
    cases o with
    | none => exact .non
    | some b => exact .int b
  have dpl : ∀ (H' : Hp) (t : Addr), H' t = some (.lst [oV due, oV due]) → Dp K H' (.ref t) (.list [oD due, oD due]) := fun H' t h => .lst (SqL.of h) (.cons (dpo _ _) (.cons (dpo _ _) .nil))
  refine ⟨_, rfl, lt, _, rfl, dpl _ _ hlt, hod, _, rfl, _, rfl, by show 2 ≤ sizeLine; decide, fun t2 nt2 => ?_⟩
  have s12 : Same H10 (upd H10 t2 (.lst [oV due, oV due])) := same_upd nt2
  refine ⟨t2, _, rfl, dpl _ _ upd_same, hod, rfl, _, rfl, ?_⟩
  refine ite2 (fun hc => absurd hc (by simp)) (fun _ => ?_)
  have RA11 := RA7.same (s11.trans s12)
  refine ⟨_, rfl, r, planD R, rfl, RA11.dp, hsh, _, rfl, rfl, _, rfl, ?_⟩
  refine ite2 (fun hc => absurd hc (by simp)) (fun _ => ?_)
  have s13 := s11.trans s12
  have FA11 := FA7.same s13
  have hlc11 := s13 _ _ hlc7
  have hls11 := s13 _ _ hls7
  clear s11 s12 s13 hlt hlc7 hls7 FA7 RA7
  generalize upd H10 t2 (.lst [oV due, oV due]) = H11 at RA11 FA11 hlc11 hls11 ⊢
  -- around
  rcases List.eq_nil_or_concat cs with h0 | ⟨ci, ce, hce⟩
  · exact absurd h0 M.ne
  rw [List.concat_eq_append] at hce
  have hs0 : (lawStarts cs R.ph.length)[0]? = some (cs.headD 0 - 2 - R.ph.length) := rfl
  have hcd : cs.headD 0 = c0 := by rw [hcs]; rfl
  have hrange : ∀ c ∈ cs, -10 ≤ c ∧ c ≤ 10 := by
    by_cases hc : R.cuts = []
    · obtain ⟨c, e, q⟩ := M.one hc
      rw [e]
      intro c' hc'
      have : c' = c := by simpa using hc'
      rw [this]; exact q
    · rw [M.own hc]
      intro c' hc'
      have := NR.lo c' hc'
      omega
  have hc0 := hrange c0 (by rw [hcs]; exact List.mem_cons_self)
  have hce2 := hrange ce (by rw [hce]; simp)
  have hmax : ∀ c ∈ cs, c ≤ ce := by
    by_cases hc : R.cuts = []
    · obtain ⟨c, e, q⟩ := M.one hc
      have e2 : ce ∈ cs := by rw [hce]; simp
      rw [e] at e2 ⊢
      intro c' hc'
      have h1 : c' = c := by simpa using hc'
      have h2 : ce = c := by simpa using e2
      omega
    · have hA := G.asc
      rw [← M.own hc, hce] at hA
      unfold Asc at hA
      rw [List.pairwise_append] at hA
      intro c' hc'
      rw [hce] at hc'
      rcases List.mem_append.mp hc' with q | q
      · exact Int.le_of_lt (hA.2.2 c' q ce List.mem_cons_self)
      · rw [List.mem_singleton] at q
        omega
  obtain ⟨lo, elo⟩ : ∃ lo, cs.headD 0 - 2 - (R.ph.length : Int) - 1 = lo := ⟨_, rfl⟩
  refine ⟨_, rfl, ls, _, 0, .int (cs.headD 0 - 2 - R.ph.length), rfl, rfl, SqL.of hls11, atI_nat (j := 0) (by rw [List.getElem?_map, hs0]; rfl), _, 1, rfl, rfl, _, rfl, 1, rfl, lc, _, -1, .int ce, rfl, rfl, SqL.of hlc11, by rw [hce, List.map_append]; exact atI_last _ _, ce, 3, rfl, rfl, ?_⟩
  refine ⟨lo, ce + 3, by rw [← elo], ⟨by omega, by omega, by omega, by omega⟩, fun D nD => ?_⟩
  obtain ⟨n, en⟩ : ∃ n, (ce + 3 - lo).toNat = n := ⟨_, rfl⟩
  rw [en]
  have hn30 : n ≤ 40 := by omega
  refine lc_range (lo := lo) (n := n) (fun j H' => Same H11 H' ∧ ∃ ws : List (Option Int), H' D = some (.lst (ws.map oV)) ∧ ws.length = j ∧ Ans R ((List.range j).map fun i : Nat => lo + (i : Int)) ws) ⟨same_upd nD, [], upd_same, rfl, .nil⟩ ?_ ?_
  · rintro j H12 hj ⟨s12, ws, hD, hwl, hA⟩
    refine ⟨rfl, _, rfl, _, rfl, R, r, _, rfl, RA11.same s12, by omega, fun H13 v s13 hv => ?_⟩
    refine ⟨_, s13 _ _ hD, by rw [List.length_map, hwl]; exact small1000 (by omega), fun b o e => ?_, ws ++ [v], by rw [upd_same, List.map_append]; rfl, by simp [hwl], ?_⟩
    · rw [upd_ne (ne_of_none e nD)]
      exact s13 _ _ (s12 _ _ e)
    · rw [List.range_succ, List.map_append]
      exact .snoc hA hv
  rintro H12 ⟨s12, ws, hD, hwl, hA⟩
  have e12 : greatI ws = due := (M.around G hA (by omega) (fun c hc => by have := hmax c hc; have := hrange c hc; omega)).trans hdu
  have hwn : ws ≠ [] := fun z => by
    rw [z] at hwl
    have h0 : n = 0 := hwl.symm
    have h1 := hmax c0 (by rw [hcs]; exact List.mem_cons_self)
    omega
  refine ⟨_, rfl, D, ws, rfl, hD, hwn, ?_⟩
  rw [e12]
  refine ⟨due, rfl, hdb, _, rfl, due, rfl, hdb, rfl, _, rfl, ?_⟩
  refine ite2 (fun hc => absurd hc (by simp)) (fun _ => ?_)
  exact ⟨_, _, _, _, _, _, _, _, rfl, (FA11.same s12).mono (by omega)⟩
end
end K37
set_option Elab.async false
set_option linter.all false
set_option maxRecDepth 100000
/-! All promises together, from what the top has written. Printed by gen25.py. -/
namespace K37
open PySem PySem.Spec PyProof.Rows L2
/-- a def of the module, as the text has it -/
structure TopF (K : PySem.W.Frag) (mg : Str → Option Value) (x : Str) (st : Stmt) : Prop where
  ex : ∃ (f : Addr) (fd : FuncData), Fun K x x st f fd ∧ mg x = some (.ref f)
structure MethF (K : PySem.W.Frag) (C : Addr) (m qual : Str) (st : Stmt) : Prop where
  ex : ∃ (f : Addr) (fd : FuncData), Fun K m qual st f fd ∧ Meth K C m f
section
variable {P : Program} {w : World} {K : PySem.W.Frag} {mg : Str → Option Value} {base : Heap} {C : Addr} {k : Nat} {x m qual : Str} {st : Stmt} {ps : List Str} {sp : Sp}
theorem cal_of (T : TopF K mg x st) (h : ∀ {f : Addr} {fd : FuncData}, Fun K x x st f fd → FnOk P w K mg base CX0 k f fd ps sp) (b : ∀ {f : Addr} {fd : FuncData}, Fun K x x st f fd → Binds K fd ps []) : Cal P w K mg base k x ps sp := by
  obtain ⟨f, fd, F, hm⟩ := T.ex
  exact ⟨⟨f, fd, h F, b F, F.kp, hm⟩⟩
theorem met_of (T : MethF K C m qual st) (h : ∀ {f : Addr} {fd : FuncData}, Fun K m qual st f fd → FnOk P w K mg base CX0 k f fd ps sp) (b : ∀ {f : Addr} {fd : FuncData}, Fun K m qual st f fd → Binds K fd ps []) : Met P w K mg base C k m ps sp := by
  obtain ⟨f, fd, F, hm⟩ := T.ex
  exact ⟨⟨f, fd, h F, b F, hm⟩⟩
theorem top_mk {h : Heap} {f : Addr} {oc : Value} {od an : Option Addr} {sl : Array (Option Value)} {kV doc pm cdv ct : Value} (X : K.In h) (G : h.Ns mainGlobals mg) (a : PySem.W.nsIn K mainGlobals x = some (some (.ref f)))
    (l : K.lookup f = some ⟨oc, od, .func (PySem.W.fnOf x x (defArgs st) (defBody st) (defScope st) .none kV doc pm an cdv ct), sl⟩) (c : PySem.W.codeIn K cdv x = true) (k : PySem.W.keepIn K (.ref f) = true) : TopF K mg x st :=
  ⟨⟨f, _, fun_mk l c k, PySem.W.mg_of X G a⟩⟩
theorem meth_mk {f : Addr} {oc : Value} {od an : Option Addr} {sl : Array (Option Value)} {kV doc pm cdv ct : Value} (a : PySem.W.findIn K (.ref C) m = some (some (.ref f))) (i : PySem.W.isFn K (.ref f) = true)
    (l : K.lookup f = some ⟨oc, od, .func (PySem.W.fnOf m qual (defArgs st) (defBody st) (defScope st) .none kV doc pm an cdv ct), sl⟩) (c : PySem.W.codeIn K cdv qual = true) (k : PySem.W.keepIn K (.ref f) = true) : MethF K C m qual st :=
  ⟨⟨f, _, fun_mk l c k, ⟨a, i, k⟩⟩⟩
end
theorem bd_IsInt {K : PySem.W.Frag} {f : Addr} {fd : FuncData} (F : Fun K "is_integer" "is_integer" sIsInt f fd) : Binds K fd ["thing"] [] := F.binds fun _ _ _ _ _ _ us hl => match us, hl with | [_], _ => rfl
theorem bd_Gap {K : PySem.W.Frag} {f : Addr} {fd : FuncData} (F : Fun K "gap_at" "gap_at" sGap f fd) : Binds K fd ["marks", "x"] [] := F.binds fun _ _ _ _ _ _ us hl => match us, hl with | [_, _], _ => rfl
theorem bd_Up {K : PySem.W.Frag} {f : Addr} {fd : FuncData} (F : Fun K "upper_at" "upper_at" sUp f fd) : Binds K fd ["marks", "x"] [] := F.binds fun _ _ _ _ _ _ us hl => match us, hl with | [_, _], _ => rfl
theorem bd_Plus {K : PySem.W.Frag} {f : Addr} {fd : FuncData} (F : Fun K "plus" "plus" sPlus f fd) : Binds K fd ["number", "more"] [] := F.binds fun _ _ _ _ _ _ us hl => match us, hl with | [_, _], _ => rfl
theorem bd_Great {K : PySem.W.Frag} {f : Addr} {fd : FuncData} (F : Fun K "greatest_of" "greatest_of" sGreat f fd) : Binds K fd ["numbers"] [] := F.binds fun _ _ _ _ _ _ us hl => match us, hl with | [_], _ => rfl
theorem bd_FarT {K : PySem.W.Frag} {f : Addr} {fd : FuncData} (F : Fun K "far_targets" "far_targets" sFarT f fd) : Binds K fd ["marks", "upper"] [] := F.binds fun _ _ _ _ _ _ us hl => match us, hl with | [_, _], _ => rfl
theorem bd_Want {K : PySem.W.Frag} {f : Addr} {fd : FuncData} (F : Fun K "want" "want" sWant f fd) : Binds K fd ["is_right", "word"] [] := F.binds fun _ _ _ _ _ _ us hl => match us, hl with | [_, _], _ => rfl
theorem bd_Need {K : PySem.W.Frag} {f : Addr} {fd : FuncData} (F : Fun K "need_first" "need_first" sNeed f fd) : Binds K fd ["first"] [] := F.binds fun _ _ _ _ _ _ us hl => match us, hl with | [_], _ => rfl
theorem bd_Most {K : PySem.W.Frag} {f : Addr} {fd : FuncData} (F : Fun K "most_rounds" "most_rounds" sMost f fd) : Binds K fd ["rule", "first"] [] := F.binds fun _ _ _ _ _ _ us hl => match us, hl with | [_, _], _ => rfl
theorem bd_Gr {K : PySem.W.Frag} {f : Addr} {fd : FuncData} (F : Fun K "greatest_rounds" "greatest_rounds" sGr f fd) : Binds K fd ["rule"] [] := F.binds fun _ _ _ _ _ _ us hl => match us, hl with | [_], _ => rfl
theorem bd_Feed {K : PySem.W.Frag} {f : Addr} {fd : FuncData} (F : Fun K "_law_feed" "_law_feed" sFeed f fd) : Binds K fd ["_law_script"] [] := F.binds fun _ _ _ _ _ _ us hl => match us, hl with | [_], _ => rfl
theorem bd_Draw {K : PySem.W.Frag} {f : Addr} {fd : FuncData} (F : Fun K "_law_draw" "_law_draw" sDraw f fd) : Binds K fd ["_law_feed_here", "_law_size"] [] := F.binds fun _ _ _ _ _ _ us hl => match us, hl with | [_, _], _ => rfl
theorem bd_Any {K : PySem.W.Frag} {f : Addr} {fd : FuncData} (F : Fun K "_law_any" "_law_any" sAny f fd) : Binds K fd ["_law_feed_here", "_law_some"] [] := F.binds fun _ _ _ _ _ _ us hl => match us, hl with | [_, _], _ => rfl
theorem bd_Phases {K : PySem.W.Frag} {f : Addr} {fd : FuncData} (F : Fun K "_law_phases" "_law_phases" sPhases f fd) : Binds K fd ["_law_text_in"] [] := F.binds fun _ _ _ _ _ _ us hl => match us, hl with | [_], _ => rfl
theorem bd_Menu {K : PySem.W.Frag} {f : Addr} {fd : FuncData} (F : Fun K "_law_menu" "_law_menu" sMenu f fd) : Binds K fd [] [] := F.binds fun _ _ _ _ _ _ us hl => match us, hl with | [], _ => rfl
theorem bd_Moves {K : PySem.W.Frag} {f : Addr} {fd : FuncData} (F : Fun K "_law_moves" "_law_moves" sMoves f fd) : Binds K fd ["_law_case_here", "_law_is_last"] [] := F.binds fun _ _ _ _ _ _ us hl => match us, hl with | [_, _], _ => rfl
theorem bd_Table {K : PySem.W.Frag} {f : Addr} {fd : FuncData} (F : Fun K "_law_table" "_law_table" sTable f fd) : Binds K fd ["_law_feed_here", "_law_many"] [] := F.binds fun _ _ _ _ _ _ us hl => match us, hl with | [_, _], _ => rfl
theorem bd_Cuts {K : PySem.W.Frag} {f : Addr} {fd : FuncData} (F : Fun K "_law_cuts" "_law_cuts" sCuts f fd) : Binds K fd ["_law_feed_here", "_law_size"] [] := F.binds fun _ _ _ _ _ _ us hl => match us, hl with | [_, _], _ => rfl
theorem bd_Plan {K : PySem.W.Frag} {f : Addr} {fd : FuncData} (F : Fun K "_law_plan" "_law_plan" sPlan f fd) : Binds K fd ["_law_feed_here", "_law_size", "_law_many"] [] := F.binds fun _ _ _ _ _ _ us hl => match us, hl with | [_, _, _], _ => rfl
theorem bd_Start {K : PySem.W.Frag} {f : Addr} {fd : FuncData} (F : Fun K "_law_start" "_law_start" sStart f fd) : Binds K fd ["_law_feed_here", "_law_cuts_here"] [] := F.binds fun _ _ _ _ _ _ us hl => match us, hl with | [_, _], _ => rfl
theorem bd_Case {K : PySem.W.Frag} {f : Addr} {fd : FuncData} (F : Fun K "_law_case" "_law_case" sCase f fd) : Binds K fd ["_law_cuts_here", "_law_here", "_law_come"] [] := F.binds fun _ _ _ _ _ _ us hl => match us, hl with | [_, _, _], _ => rfl
theorem bd_Moved {K : PySem.W.Frag} {f : Addr} {fd : FuncData} (F : Fun K "_law_moved" "_law_moved" sMoved f fd) : Binds K fd ["_law_plan_here", "_law_phase", "_law_here", "_law_come"] [] := F.binds fun _ _ _ _ _ _ us hl => match us, hl with | [_, _, _, _], _ => rfl
theorem bd_Things {K : PySem.W.Frag} {f : Addr} {fd : FuncData} (F : Fun K "_law_things" "_law_things" sThings f fd) : Binds K fd ["_law_node", "_law_edge"] [] := F.binds fun _ _ _ _ _ _ us hl => match us, hl with | [_, _], _ => rfl
theorem bd_Beyond {K : PySem.W.Frag} {f : Addr} {fd : FuncData} (F : Fun K "_law_beyond" "_law_beyond" sBeyond f fd) : Binds K fd ["_law_plan_here", "_law_start_here"] [] := F.binds fun _ _ _ _ _ _ us hl => match us, hl with | [_, _], _ => rfl
theorem bd_Follow {K : PySem.W.Frag} {f : Addr} {fd : FuncData} (F : Fun K "_law_follow" "_law_follow" sFollow f fd) : Binds K fd ["_law_plan_here", "_law_node", "_law_come", "_law_outer"] [] := F.binds fun _ _ _ _ _ _ us hl => match us, hl with | [_, _, _, _], _ => rfl
theorem bd_Net {K : PySem.W.Frag} {f : Addr} {fd : FuncData} (F : Fun K "_law_net" "_law_net" sNet f fd) : Binds K fd ["_law_plan_here", "_law_start_here"] [] := F.binds fun _ _ _ _ _ _ us hl => match us, hl with | [_, _], _ => rfl
theorem bd_Long {K : PySem.W.Frag} {f : Addr} {fd : FuncData} (F : Fun K "_law_longest" "_law_longest" sLong f fd) : Binds K fd ["_law_plan_here", "_law_start_here"] [] := F.binds fun _ _ _ _ _ _ us hl => match us, hl with | [_, _], _ => rfl
theorem bd_LBest {K : PySem.W.Frag} {f : Addr} {fd : FuncData} (F : Fun K "_law_best" "_law_best" sLBest f fd) : Binds K fd ["_law_values"] [] := F.binds fun _ _ _ _ _ _ us hl => match us, hl with | [_], _ => rfl
theorem bd_Law {K : PySem.W.Frag} {f : Addr} {fd : FuncData} (F : Fun K "law" "law" sLaw f fd) : Binds K fd ["_law_script"] [] := F.binds fun _ _ _ _ _ _ us hl => match us, hl with | [_], _ => rfl
theorem bd_Init {K : PySem.W.Frag} {f : Addr} {fd : FuncData} (F : Fun K "__init__" "RoundValues.__init__" sInit f fd) : Binds K fd ["self", "rule"] [] := F.binds fun _ _ _ _ _ _ us hl => match us, hl with | [_, _], _ => rfl
theorem bd_Best {K : PySem.W.Frag} {f : Addr} {fd : FuncData} (F : Fun K "best_far" "RoundValues.best_far" sBest f fd) : Binds K fd ["self", "move", "after", "upper"] [] := F.binds fun _ _ _ _ _ _ us hl => match us, hl with | [_, _, _, _], _ => rfl
theorem bd_Far {K : PySem.W.Frag} {f : Addr} {fd : FuncData} (F : Fun K "far_value" "RoundValues.far_value" sFar f fd) : Binds K fd ["self", "phase", "upper"] [] := F.binds fun _ _ _ _ _ _ us hl => match us, hl with | [_, _, _], _ => rfl
theorem bd_At {K : PySem.W.Frag} {f : Addr} {fd : FuncData} (F : Fun K "at_value" "RoundValues.at_value" sAt f fd) : Binds K fd ["self", "phase", "upper"] [] := F.binds fun _ _ _ _ _ _ us hl => match us, hl with | [_, _, _], _ => rfl
theorem bd_Late {K : PySem.W.Frag} {f : Addr} {fd : FuncData} (F : Fun K "late_value" "RoundValues.late_value" sLate f fd) : Binds K fd ["self", "phase", "upper"] [] := F.binds fun _ _ _ _ _ _ us hl => match us, hl with | [_, _, _], _ => rfl
theorem bd_Fresh {K : PySem.W.Frag} {f : Addr} {fd : FuncData} (F : Fun K "fresh_value" "RoundValues.fresh_value" sFresh f fd) : Binds K fd ["self", "phase", "end"] [] := F.binds fun _ _ _ _ _ _ us hl => match us, hl with | [_, _, _], _ => rfl
/-- what the walk asks of the top -/
structure Tops (K : PySem.W.Frag) (mg : Str → Option Value) (C fI : Addr) : Prop where
  tIsInt : TopF K mg "is_integer" sIsInt
  tGap : TopF K mg "gap_at" sGap
  tUp : TopF K mg "upper_at" sUp
  tPlus : TopF K mg "plus" sPlus
  tGreat : TopF K mg "greatest_of" sGreat
  tFarT : TopF K mg "far_targets" sFarT
  tWant : TopF K mg "want" sWant
  tNeed : TopF K mg "need_first" sNeed
  tMost : TopF K mg "most_rounds" sMost
  tGr : TopF K mg "greatest_rounds" sGr
  tFeed : TopF K mg "_law_feed" sFeed
  tDraw : TopF K mg "_law_draw" sDraw
  tAny : TopF K mg "_law_any" sAny
  tPhases : TopF K mg "_law_phases" sPhases
  tMenu : TopF K mg "_law_menu" sMenu
  tMoves : TopF K mg "_law_moves" sMoves
  tTable : TopF K mg "_law_table" sTable
  tCuts : TopF K mg "_law_cuts" sCuts
  tPlan : TopF K mg "_law_plan" sPlan
  tStart : TopF K mg "_law_start" sStart
  tCase : TopF K mg "_law_case" sCase
  tMoved : TopF K mg "_law_moved" sMoved
  tThings : TopF K mg "_law_things" sThings
  tBeyond : TopF K mg "_law_beyond" sBeyond
  tFollow : TopF K mg "_law_follow" sFollow
  tNet : TopF K mg "_law_net" sNet
  tLong : TopF K mg "_law_longest" sLong
  tLBest : TopF K mg "_law_best" sLBest
  tLaw : TopF K mg "law" sLaw
  mInit : MethF K C "__init__" "RoundValues.__init__" sInit
  mBest : MethF K C "best_far" "RoundValues.best_far" sBest
  mFar : MethF K C "far_value" "RoundValues.far_value" sFar
  mAt : MethF K C "at_value" "RoundValues.at_value" sAt
  mLate : MethF K C "late_value" "RoundValues.late_value" sLate
  mFresh : MethF K C "fresh_value" "RoundValues.fresh_value" sFresh
  mkI : Mk K C fI
  mC : mg "RoundValues" = some (.ref C)
  cs : Cs K mg C
  z_isinstance : mg "isinstance" = none
  z_int : mg "int" = none
  z_bool : mg "bool" = none
  z_max : mg "max" = none
  z_len : mg "len" = none
  z_range : mg "range" = none
  z_min : mg "min" = none
  z_list : mg "list" = none
  z_tuple : mg "tuple" = none
  z_sorted : mg "sorted" = none
  z_set : mg "set" = none
  z_enumerate : mg "enumerate" = none
  z_repr : mg "repr" = none
section
variable {P : Program} {w : World} {K : PySem.W.Frag} {mg : Str → Option Value} {base : Heap} {C fI : Addr}
theorem all_cals (T : Tops K mg C fI) : LawCals P w K mg base := by
  have S := T.cs
  have isInt : Cal P w K mg base 1 "is_integer" ["thing"] spIsInt := cal_of T.tIsInt (fun F => ok_isInt F T.z_isinstance T.z_int T.z_bool) bd_IsInt
  have want : Cal P w K mg base 1 "want" ["is_right", "word"] spWant := cal_of T.tWant (fun F => ok_want F) bd_Want
  have need : Cal P w K mg base 2 "need_first" ["first"] spNeed := cal_of T.tNeed (fun F => ok_need F isInt want) bd_Need
  have gap : Cal P w K mg base 1 "gap_at" ["marks", "x"] spGap := cal_of T.tGap (fun F => ok_gap F T.z_len) bd_Gap
  have upp : Cal P w K mg base 2 "upper_at" ["marks", "x"] spUp := cal_of T.tUp (fun F => ok_up F T.z_len gap) bd_Up
  have plus : Cal P w K mg base 1 "plus" ["number", "more"] spPlus := cal_of T.tPlus (fun F => ok_plus F) bd_Plus
  have great : Cal P w K mg base 1 "greatest_of" ["numbers"] spGreat := cal_of T.tGreat (fun F => ok_great F T.z_max) bd_Great
  have farT : Cal P w K mg base 1 "far_targets" ["marks", "upper"] spFarT := cal_of T.tFarT (fun F => ok_farT F) bd_FarT
  have best : Met P w K mg base C 2 "best_far" ["self", "move", "after", "upper"] (spBest P w C) := met_of T.mBest (fun F => ok_best F S great farT) bd_Best
  have far : Met P w K mg base C 3 "far_value" ["self", "phase", "upper"] (spFar P w C) := met_of T.mFar (fun F => ok_far F S plus best) bd_Far
  have att : Met P w K mg base C 4 "at_value" ["self", "phase", "upper"] (spAt P w C) := met_of T.mAt (fun F => ok_at F S plus great far) bd_At
  have late : Met P w K mg base C 5 "late_value" ["self", "phase", "upper"] (spLate P w C) := met_of T.mLate (fun F => ok_late F S far att) bd_Late
  have frsh : Met P w K mg base C 6 "fresh_value" ["self", "phase", "end"] (spFresh P w C) := met_of T.mFresh (fun F => ok_fresh F S plus great upp late) bd_Fresh
  have mkr : Mkr P w K mg base C := by
    obtain ⟨f, fd, F, hm⟩ := T.mInit.ex
    have e : f = fI := by
      have h := hm.at_.symm.trans T.mkI.init
      injection h with h
      injection h with h
      injection h
    subst e
    exact ⟨⟨f, fd, ok_init F S frsh, bd_Init F, T.mkI, T.mC⟩⟩
  have draw : Cal P w K mg base 1 "_law_draw" ["_law_feed_here", "_law_size"] spDraw := cal_of T.tDraw (fun F => ok_draw F T.z_len T.z_int) bd_Draw
  have any : Cal P w K mg base 2 "_law_any" ["_law_feed_here", "_law_some"] spAny := cal_of T.tAny (fun F => ok_any F T.z_len draw) bd_Any
  have phases : Cal P w K mg base 1 "_law_phases" ["_law_text_in"] spPhases := cal_of T.tPhases (fun F => ok_phases F T.z_tuple T.z_int) bd_Phases
  have menu : Cal P w K mg base 1 "_law_menu" [] spMenu := cal_of T.tMenu (fun F => ok_menu F) bd_Menu
  have moves : Cal P w K mg base 1 "_law_moves" ["_law_case_here", "_law_is_last"] spMoves := cal_of T.tMoves (fun F => ok_moves F) bd_Moves
  have table : Cal P w K mg base 3 "_law_table" ["_law_feed_here", "_law_many"] spTable := cal_of T.tTable (fun F => ok_table F T.z_tuple T.z_range T.z_min draw any moves) bd_Table
  have cuts : Cal P w K mg base 3 "_law_cuts" ["_law_feed_here", "_law_size"] spCuts := cal_of T.tCuts (fun F => ok_cuts F T.z_tuple T.z_range draw any) bd_Cuts
  have plan : Cal P w K mg base 4 "_law_plan" ["_law_feed_here", "_law_size", "_law_many"] spPlan := cal_of T.tPlan (fun F => ok_plan F draw any cuts phases menu table) bd_Plan
  have start : Cal P w K mg base 3 "_law_start" ["_law_feed_here", "_law_cuts_here"] spStart := cal_of T.tStart (fun F => ok_start F T.z_list any) bd_Start
  have case : Cal P w K mg base 1 "_law_case" ["_law_cuts_here", "_law_here", "_law_come"] spCase := cal_of T.tCase (fun F => ok_case F) bd_Case
  have moved : Cal P w K mg base 2 "_law_moved" ["_law_plan_here", "_law_phase", "_law_here", "_law_come"] spMoved := cal_of T.tMoved (fun F => ok_moved F case) bd_Moved
  have thgs : Cal P w K mg base 1 "_law_things" ["_law_node", "_law_edge"] spThings := cal_of T.tThings (fun F => ok_things F T.z_list T.z_range) bd_Things
  have beyond : Cal P w K mg base 1 "_law_beyond" ["_law_plan_here", "_law_start_here"] spBeyond := cal_of T.tBeyond (fun F => ok_beyond F) bd_Beyond
  have foll : Cal P w K mg base 3 "_law_follow" ["_law_plan_here", "_law_node", "_law_come", "_law_outer"] spFollow := cal_of T.tFollow (fun F => ok_follow F moved T.z_min) bd_Follow
  have net : Cal P w K mg base 4 "_law_net" ["_law_plan_here", "_law_start_here"] spNet := cal_of T.tNet (fun F => ok_net F T.z_len T.z_min T.z_sorted T.z_set beyond thgs foll) bd_Net
  refine ⟨cal_of T.tFeed (fun F => ok_feed F T.z_int) bd_Feed, plan, start, cal_of T.tLBest (fun F => ok_lbest F T.z_max) bd_LBest, cal_of T.tLong (fun F => ok_long F T.z_len T.z_max T.z_range T.z_enumerate net) bd_Long, ?_,
    cal_of T.tMost (fun F => ok_most F S need mkr frsh) bd_Most, T.z_range, T.z_len, T.z_repr, T.z_list⟩
  obtain ⟨f, fd, F, hm⟩ := T.tGr.ex
  refine ⟨f, fd, ok_gr F S great mkr frsh, bd_Gr F, ⟨fun s us ws X l1 l2 => ?_, fun r1 r2 => r1.append r2⟩, F.kp, hm⟩
  obtain ⟨oc, od, kV, doc, pm, an, cdv, ct, osl, rfl, lk, hcd⟩ := F.ex
  obtain rfl : us = [] := List.length_eq_zero_iff.mp l1
  match ws, l2 with
  | [_], _ => exact .of_eq rfl
theorem runs_all (T : Tops K mg C fI) : ∃ (f : Addr) (fd : FuncData), mg "law" = some (.ref f) ∧ (∀ (s : Shared) (u : Value), BindsTo s fd ⟨[u], []⟩ [("_law_script", u)]) ∧ ∀ base : Heap, RunsA P w K mg base f fd "_law_script" (spLaw K) := by
  obtain ⟨f, fd, F, hm⟩ := T.tLaw.ex
  refine ⟨f, fd, hm, fun s u => ?_, fun base => runs_law F (all_cals T)⟩
  obtain ⟨oc, od, kV, doc, pm, an, cdv, ct, osl, rfl, lk, hcd⟩ := F.ex
  exact .of_eq rfl
end
theorem walk_all {l : PySem.W.OpenLaw} {q : Program} {loose : List Str} {XP : (Str → Option Value) → Heap → Prop} {YP : World → Heap → Prop} {d : DefRec} {K : Params → PySem.W.Frag} (hn : l.most = some 63) (hdf : d.params.defaults = []) (hd : d.name = ("law" : Str))
    (hY : ∀ (w : World) (h : Heap), YP w h → (K w.params).In h) (F : ∀ (w : World) (mg : Str → Option Value) (h : Heap), (K w.params).In h → h.Ns mainGlobals mg → ∃ C fI, Tops (K w.params) mg C fI) :
    PySem.W.WalkO q loose XP YP l.row.toRowW d [] (fun f vs => PySem.call f vs) := by
  refine walk_ofA (n := 63) (K := K) (sp := fun w => spLaw (K w.params)) (x := "_law_script") hn (by decide) hdf hY (fun w mg fa h KX G hmg => ?_) fun w H a ns _ hS => ⟨a, ns, rfl, hS, fun _ => rfl⟩
  obtain ⟨C, fI, T⟩ := F w mg h KX G
  obtain ⟨f, fd, hm, hb, hr⟩ := runs_all (P := l.prog) (w := w) T
  rw [hd, hm] at hmg
  cases hmg
  exact ⟨fd, hb, fun base _ _ => hr base⟩
end K37
set_option Elab.async false
set_option linter.all false
set_option maxRecDepth 100000
/-! What k_is is asked of the row. Printed by gen25.py. -/
namespace K37
open PySem PySem.Spec PyProof.Rows L2
theorem tops_mk {K : PySem.W.Frag} {h : Heap} {mg : Str → Option Value} {C : Addr} (X : K.In h) (G : h.Ns mainGlobals mg) {t0 t1 t2 : Tok}
    {fIsInt fGap fUp fPlus fGreat fFarT fWant fNeed fMost fGr fFeed fDraw fAny fPhases fMenu fMoves fTable fCuts fPlan fStart fCase fMoved fThings fBeyond fFollow fNet fLong fLBest fLaw fInit fBest fFar fAt fLate fFresh : Addr}
    {odIsInt anIsInt odGap anGap odUp anUp odPlus anPlus odGreat anGreat odFarT anFarT odWant anWant odNeed anNeed odMost anMost odGr anGr odFeed anFeed odDraw anDraw odAny anAny odPhases anPhases odMenu anMenu odMoves anMoves odTable anTable odCuts anCuts odPlan anPlan odStart anStart odCase anCase odMoved anMoved odThings anThings odBeyond anBeyond odFollow anFollow odNet anNet odLong anLong odLBest anLBest odLaw anLaw odInit anInit odBest anBest odFar anFar odAt anAt odLate anLate odFresh anFresh : Option Addr}
    {slIsInt slGap slUp slPlus slGreat slFarT slWant slNeed slMost slGr slFeed slDraw slAny slPhases slMenu slMoves slTable slCuts slPlan slStart slCase slMoved slThings slBeyond slFollow slNet slLong slLBest slLaw slInit slBest slFar slAt slLate slFresh : Array (Option Value)}
    {ocIsInt kVIsInt dcIsInt pmIsInt cdIsInt ctIsInt ocGap kVGap dcGap pmGap cdGap ctGap ocUp kVUp dcUp pmUp cdUp ctUp ocPlus kVPlus dcPlus pmPlus cdPlus ctPlus ocGreat kVGreat dcGreat pmGreat cdGreat ctGreat ocFarT kVFarT dcFarT pmFarT cdFarT ctFarT ocWant kVWant dcWant pmWant cdWant ctWant ocNeed kVNeed dcNeed pmNeed cdNeed ctNeed ocMost kVMost dcMost pmMost cdMost ctMost ocGr kVGr dcGr pmGr cdGr ctGr ocFeed kVFeed dcFeed pmFeed cdFeed ctFeed ocDraw kVDraw dcDraw pmDraw cdDraw ctDraw ocAny kVAny dcAny pmAny cdAny ctAny ocPhases kVPhases dcPhases pmPhases cdPhases ctPhases ocMenu kVMenu dcMenu pmMenu cdMenu ctMenu ocMoves kVMoves dcMoves pmMoves cdMoves ctMoves ocTable kVTable dcTable pmTable cdTable ctTable ocCuts kVCuts dcCuts pmCuts cdCuts ctCuts ocPlan kVPlan dcPlan pmPlan cdPlan ctPlan ocStart kVStart dcStart pmStart cdStart ctStart ocCase kVCase dcCase pmCase cdCase ctCase ocMoved kVMoved dcMoved pmMoved cdMoved ctMoved ocThings kVThings dcThings pmThings cdThings ctThings ocBeyond kVBeyond dcBeyond pmBeyond cdBeyond ctBeyond ocFollow kVFollow dcFollow pmFollow cdFollow ctFollow ocNet kVNet dcNet pmNet cdNet ctNet ocLong kVLong dcLong pmLong cdLong ctLong ocLBest kVLBest dcLBest pmLBest cdLBest ctLBest ocLaw kVLaw dcLaw pmLaw cdLaw ctLaw ocInit kVInit dcInit pmInit cdInit ctInit ocBest kVBest dcBest pmBest cdBest ctBest ocFar kVFar dcFar pmFar cdFar ctFar ocAt kVAt dcAt pmAt cdAt ctAt ocLate kVLate dcLate pmLate cdLate ctLate ocFresh kVFresh dcFresh pmFresh cdFresh ctFresh : Value}
    (aC : PySem.W.nsIn K mainGlobals "RoundValues" = some (some (.ref C)))
    (aIsInt : PySem.W.nsIn K mainGlobals "is_integer" = some (some (.ref fIsInt))) (lIsInt : K.lookup fIsInt = some ⟨ocIsInt, odIsInt, .func (PySem.W.fnOf "is_integer" "is_integer" (defArgs sIsInt) (defBody sIsInt) (defScope sIsInt) .none kVIsInt dcIsInt pmIsInt anIsInt cdIsInt ctIsInt), slIsInt⟩) (cIsInt : PySem.W.codeIn K cdIsInt "is_integer" = true) (kIsInt : PySem.W.keepIn K (.ref fIsInt) = true)
    (aGap : PySem.W.nsIn K mainGlobals "gap_at" = some (some (.ref fGap))) (lGap : K.lookup fGap = some ⟨ocGap, odGap, .func (PySem.W.fnOf "gap_at" "gap_at" (defArgs sGap) (defBody sGap) (defScope sGap) .none kVGap dcGap pmGap anGap cdGap ctGap), slGap⟩) (cGap : PySem.W.codeIn K cdGap "gap_at" = true) (kGap : PySem.W.keepIn K (.ref fGap) = true)
    (aUp : PySem.W.nsIn K mainGlobals "upper_at" = some (some (.ref fUp))) (lUp : K.lookup fUp = some ⟨ocUp, odUp, .func (PySem.W.fnOf "upper_at" "upper_at" (defArgs sUp) (defBody sUp) (defScope sUp) .none kVUp dcUp pmUp anUp cdUp ctUp), slUp⟩) (cUp : PySem.W.codeIn K cdUp "upper_at" = true) (kUp : PySem.W.keepIn K (.ref fUp) = true)
    (aPlus : PySem.W.nsIn K mainGlobals "plus" = some (some (.ref fPlus))) (lPlus : K.lookup fPlus = some ⟨ocPlus, odPlus, .func (PySem.W.fnOf "plus" "plus" (defArgs sPlus) (defBody sPlus) (defScope sPlus) .none kVPlus dcPlus pmPlus anPlus cdPlus ctPlus), slPlus⟩) (cPlus : PySem.W.codeIn K cdPlus "plus" = true) (kPlus : PySem.W.keepIn K (.ref fPlus) = true)
    (aGreat : PySem.W.nsIn K mainGlobals "greatest_of" = some (some (.ref fGreat))) (lGreat : K.lookup fGreat = some ⟨ocGreat, odGreat, .func (PySem.W.fnOf "greatest_of" "greatest_of" (defArgs sGreat) (defBody sGreat) (defScope sGreat) .none kVGreat dcGreat pmGreat anGreat cdGreat ctGreat), slGreat⟩) (cGreat : PySem.W.codeIn K cdGreat "greatest_of" = true) (kGreat : PySem.W.keepIn K (.ref fGreat) = true)
    (aFarT : PySem.W.nsIn K mainGlobals "far_targets" = some (some (.ref fFarT))) (lFarT : K.lookup fFarT = some ⟨ocFarT, odFarT, .func (PySem.W.fnOf "far_targets" "far_targets" (defArgs sFarT) (defBody sFarT) (defScope sFarT) .none kVFarT dcFarT pmFarT anFarT cdFarT ctFarT), slFarT⟩) (cFarT : PySem.W.codeIn K cdFarT "far_targets" = true) (kFarT : PySem.W.keepIn K (.ref fFarT) = true)
    (aWant : PySem.W.nsIn K mainGlobals "want" = some (some (.ref fWant))) (lWant : K.lookup fWant = some ⟨ocWant, odWant, .func (PySem.W.fnOf "want" "want" (defArgs sWant) (defBody sWant) (defScope sWant) .none kVWant dcWant pmWant anWant cdWant ctWant), slWant⟩) (cWant : PySem.W.codeIn K cdWant "want" = true) (kWant : PySem.W.keepIn K (.ref fWant) = true)
    (aNeed : PySem.W.nsIn K mainGlobals "need_first" = some (some (.ref fNeed))) (lNeed : K.lookup fNeed = some ⟨ocNeed, odNeed, .func (PySem.W.fnOf "need_first" "need_first" (defArgs sNeed) (defBody sNeed) (defScope sNeed) .none kVNeed dcNeed pmNeed anNeed cdNeed ctNeed), slNeed⟩) (cNeed : PySem.W.codeIn K cdNeed "need_first" = true) (kNeed : PySem.W.keepIn K (.ref fNeed) = true)
    (aMost : PySem.W.nsIn K mainGlobals "most_rounds" = some (some (.ref fMost))) (lMost : K.lookup fMost = some ⟨ocMost, odMost, .func (PySem.W.fnOf "most_rounds" "most_rounds" (defArgs sMost) (defBody sMost) (defScope sMost) .none kVMost dcMost pmMost anMost cdMost ctMost), slMost⟩) (cMost : PySem.W.codeIn K cdMost "most_rounds" = true) (kMost : PySem.W.keepIn K (.ref fMost) = true)
    (aGr : PySem.W.nsIn K mainGlobals "greatest_rounds" = some (some (.ref fGr))) (lGr : K.lookup fGr = some ⟨ocGr, odGr, .func (PySem.W.fnOf "greatest_rounds" "greatest_rounds" (defArgs sGr) (defBody sGr) (defScope sGr) .none kVGr dcGr pmGr anGr cdGr ctGr), slGr⟩) (cGr : PySem.W.codeIn K cdGr "greatest_rounds" = true) (kGr : PySem.W.keepIn K (.ref fGr) = true)
    (aFeed : PySem.W.nsIn K mainGlobals "_law_feed" = some (some (.ref fFeed))) (lFeed : K.lookup fFeed = some ⟨ocFeed, odFeed, .func (PySem.W.fnOf "_law_feed" "_law_feed" (defArgs sFeed) (defBody sFeed) (defScope sFeed) .none kVFeed dcFeed pmFeed anFeed cdFeed ctFeed), slFeed⟩) (cFeed : PySem.W.codeIn K cdFeed "_law_feed" = true) (kFeed : PySem.W.keepIn K (.ref fFeed) = true)
    (aDraw : PySem.W.nsIn K mainGlobals "_law_draw" = some (some (.ref fDraw))) (lDraw : K.lookup fDraw = some ⟨ocDraw, odDraw, .func (PySem.W.fnOf "_law_draw" "_law_draw" (defArgs sDraw) (defBody sDraw) (defScope sDraw) .none kVDraw dcDraw pmDraw anDraw cdDraw ctDraw), slDraw⟩) (cDraw : PySem.W.codeIn K cdDraw "_law_draw" = true) (kDraw : PySem.W.keepIn K (.ref fDraw) = true)
    (aAny : PySem.W.nsIn K mainGlobals "_law_any" = some (some (.ref fAny))) (lAny : K.lookup fAny = some ⟨ocAny, odAny, .func (PySem.W.fnOf "_law_any" "_law_any" (defArgs sAny) (defBody sAny) (defScope sAny) .none kVAny dcAny pmAny anAny cdAny ctAny), slAny⟩) (cAny : PySem.W.codeIn K cdAny "_law_any" = true) (kAny : PySem.W.keepIn K (.ref fAny) = true)
    (aPhases : PySem.W.nsIn K mainGlobals "_law_phases" = some (some (.ref fPhases))) (lPhases : K.lookup fPhases = some ⟨ocPhases, odPhases, .func (PySem.W.fnOf "_law_phases" "_law_phases" (defArgs sPhases) (defBody sPhases) (defScope sPhases) .none kVPhases dcPhases pmPhases anPhases cdPhases ctPhases), slPhases⟩) (cPhases : PySem.W.codeIn K cdPhases "_law_phases" = true) (kPhases : PySem.W.keepIn K (.ref fPhases) = true)
    (aMenu : PySem.W.nsIn K mainGlobals "_law_menu" = some (some (.ref fMenu))) (lMenu : K.lookup fMenu = some ⟨ocMenu, odMenu, .func (PySem.W.fnOf "_law_menu" "_law_menu" (defArgs sMenu) (defBody sMenu) (defScope sMenu) .none kVMenu dcMenu pmMenu anMenu cdMenu ctMenu), slMenu⟩) (cMenu : PySem.W.codeIn K cdMenu "_law_menu" = true) (kMenu : PySem.W.keepIn K (.ref fMenu) = true)
    (aMoves : PySem.W.nsIn K mainGlobals "_law_moves" = some (some (.ref fMoves))) (lMoves : K.lookup fMoves = some ⟨ocMoves, odMoves, .func (PySem.W.fnOf "_law_moves" "_law_moves" (defArgs sMoves) (defBody sMoves) (defScope sMoves) .none kVMoves dcMoves pmMoves anMoves cdMoves ctMoves), slMoves⟩) (cMoves : PySem.W.codeIn K cdMoves "_law_moves" = true) (kMoves : PySem.W.keepIn K (.ref fMoves) = true)
    (aTable : PySem.W.nsIn K mainGlobals "_law_table" = some (some (.ref fTable))) (lTable : K.lookup fTable = some ⟨ocTable, odTable, .func (PySem.W.fnOf "_law_table" "_law_table" (defArgs sTable) (defBody sTable) (defScope sTable) .none kVTable dcTable pmTable anTable cdTable ctTable), slTable⟩) (cTable : PySem.W.codeIn K cdTable "_law_table" = true) (kTable : PySem.W.keepIn K (.ref fTable) = true)
    (aCuts : PySem.W.nsIn K mainGlobals "_law_cuts" = some (some (.ref fCuts))) (lCuts : K.lookup fCuts = some ⟨ocCuts, odCuts, .func (PySem.W.fnOf "_law_cuts" "_law_cuts" (defArgs sCuts) (defBody sCuts) (defScope sCuts) .none kVCuts dcCuts pmCuts anCuts cdCuts ctCuts), slCuts⟩) (cCuts : PySem.W.codeIn K cdCuts "_law_cuts" = true) (kCuts : PySem.W.keepIn K (.ref fCuts) = true)
    (aPlan : PySem.W.nsIn K mainGlobals "_law_plan" = some (some (.ref fPlan))) (lPlan : K.lookup fPlan = some ⟨ocPlan, odPlan, .func (PySem.W.fnOf "_law_plan" "_law_plan" (defArgs sPlan) (defBody sPlan) (defScope sPlan) .none kVPlan dcPlan pmPlan anPlan cdPlan ctPlan), slPlan⟩) (cPlan : PySem.W.codeIn K cdPlan "_law_plan" = true) (kPlan : PySem.W.keepIn K (.ref fPlan) = true)
    (aStart : PySem.W.nsIn K mainGlobals "_law_start" = some (some (.ref fStart))) (lStart : K.lookup fStart = some ⟨ocStart, odStart, .func (PySem.W.fnOf "_law_start" "_law_start" (defArgs sStart) (defBody sStart) (defScope sStart) .none kVStart dcStart pmStart anStart cdStart ctStart), slStart⟩) (cStart : PySem.W.codeIn K cdStart "_law_start" = true) (kStart : PySem.W.keepIn K (.ref fStart) = true)
    (aCase : PySem.W.nsIn K mainGlobals "_law_case" = some (some (.ref fCase))) (lCase : K.lookup fCase = some ⟨ocCase, odCase, .func (PySem.W.fnOf "_law_case" "_law_case" (defArgs sCase) (defBody sCase) (defScope sCase) .none kVCase dcCase pmCase anCase cdCase ctCase), slCase⟩) (cCase : PySem.W.codeIn K cdCase "_law_case" = true) (kCase : PySem.W.keepIn K (.ref fCase) = true)
    (aMoved : PySem.W.nsIn K mainGlobals "_law_moved" = some (some (.ref fMoved))) (lMoved : K.lookup fMoved = some ⟨ocMoved, odMoved, .func (PySem.W.fnOf "_law_moved" "_law_moved" (defArgs sMoved) (defBody sMoved) (defScope sMoved) .none kVMoved dcMoved pmMoved anMoved cdMoved ctMoved), slMoved⟩) (cMoved : PySem.W.codeIn K cdMoved "_law_moved" = true) (kMoved : PySem.W.keepIn K (.ref fMoved) = true)
    (aThings : PySem.W.nsIn K mainGlobals "_law_things" = some (some (.ref fThings))) (lThings : K.lookup fThings = some ⟨ocThings, odThings, .func (PySem.W.fnOf "_law_things" "_law_things" (defArgs sThings) (defBody sThings) (defScope sThings) .none kVThings dcThings pmThings anThings cdThings ctThings), slThings⟩) (cThings : PySem.W.codeIn K cdThings "_law_things" = true) (kThings : PySem.W.keepIn K (.ref fThings) = true)
    (aBeyond : PySem.W.nsIn K mainGlobals "_law_beyond" = some (some (.ref fBeyond))) (lBeyond : K.lookup fBeyond = some ⟨ocBeyond, odBeyond, .func (PySem.W.fnOf "_law_beyond" "_law_beyond" (defArgs sBeyond) (defBody sBeyond) (defScope sBeyond) .none kVBeyond dcBeyond pmBeyond anBeyond cdBeyond ctBeyond), slBeyond⟩) (cBeyond : PySem.W.codeIn K cdBeyond "_law_beyond" = true) (kBeyond : PySem.W.keepIn K (.ref fBeyond) = true)
    (aFollow : PySem.W.nsIn K mainGlobals "_law_follow" = some (some (.ref fFollow))) (lFollow : K.lookup fFollow = some ⟨ocFollow, odFollow, .func (PySem.W.fnOf "_law_follow" "_law_follow" (defArgs sFollow) (defBody sFollow) (defScope sFollow) .none kVFollow dcFollow pmFollow anFollow cdFollow ctFollow), slFollow⟩) (cFollow : PySem.W.codeIn K cdFollow "_law_follow" = true) (kFollow : PySem.W.keepIn K (.ref fFollow) = true)
    (aNet : PySem.W.nsIn K mainGlobals "_law_net" = some (some (.ref fNet))) (lNet : K.lookup fNet = some ⟨ocNet, odNet, .func (PySem.W.fnOf "_law_net" "_law_net" (defArgs sNet) (defBody sNet) (defScope sNet) .none kVNet dcNet pmNet anNet cdNet ctNet), slNet⟩) (cNet : PySem.W.codeIn K cdNet "_law_net" = true) (kNet : PySem.W.keepIn K (.ref fNet) = true)
    (aLong : PySem.W.nsIn K mainGlobals "_law_longest" = some (some (.ref fLong))) (lLong : K.lookup fLong = some ⟨ocLong, odLong, .func (PySem.W.fnOf "_law_longest" "_law_longest" (defArgs sLong) (defBody sLong) (defScope sLong) .none kVLong dcLong pmLong anLong cdLong ctLong), slLong⟩) (cLong : PySem.W.codeIn K cdLong "_law_longest" = true) (kLong : PySem.W.keepIn K (.ref fLong) = true)
    (aLBest : PySem.W.nsIn K mainGlobals "_law_best" = some (some (.ref fLBest))) (lLBest : K.lookup fLBest = some ⟨ocLBest, odLBest, .func (PySem.W.fnOf "_law_best" "_law_best" (defArgs sLBest) (defBody sLBest) (defScope sLBest) .none kVLBest dcLBest pmLBest anLBest cdLBest ctLBest), slLBest⟩) (cLBest : PySem.W.codeIn K cdLBest "_law_best" = true) (kLBest : PySem.W.keepIn K (.ref fLBest) = true)
    (aLaw : PySem.W.nsIn K mainGlobals "law" = some (some (.ref fLaw))) (lLaw : K.lookup fLaw = some ⟨ocLaw, odLaw, .func (PySem.W.fnOf "law" "law" (defArgs sLaw) (defBody sLaw) (defScope sLaw) .none kVLaw dcLaw pmLaw anLaw cdLaw ctLaw), slLaw⟩) (cLaw : PySem.W.codeIn K cdLaw "law" = true) (kLaw : PySem.W.keepIn K (.ref fLaw) = true)
    (aInit : PySem.W.findIn K (.ref C) "__init__" = some (some (.ref fInit))) (iInit : PySem.W.isFn K (.ref fInit) = true) (lInit : K.lookup fInit = some ⟨ocInit, odInit, .func (PySem.W.fnOf "__init__" "RoundValues.__init__" (defArgs sInit) (defBody sInit) (defScope sInit) .none kVInit dcInit pmInit anInit cdInit ctInit), slInit⟩) (cInit : PySem.W.codeIn K cdInit "RoundValues.__init__" = true) (kInit : PySem.W.keepIn K (.ref fInit) = true)
    (aBest : PySem.W.findIn K (.ref C) "best_far" = some (some (.ref fBest))) (iBest : PySem.W.isFn K (.ref fBest) = true) (lBest : K.lookup fBest = some ⟨ocBest, odBest, .func (PySem.W.fnOf "best_far" "RoundValues.best_far" (defArgs sBest) (defBody sBest) (defScope sBest) .none kVBest dcBest pmBest anBest cdBest ctBest), slBest⟩) (cBest : PySem.W.codeIn K cdBest "RoundValues.best_far" = true) (kBest : PySem.W.keepIn K (.ref fBest) = true)
    (aFar : PySem.W.findIn K (.ref C) "far_value" = some (some (.ref fFar))) (iFar : PySem.W.isFn K (.ref fFar) = true) (lFar : K.lookup fFar = some ⟨ocFar, odFar, .func (PySem.W.fnOf "far_value" "RoundValues.far_value" (defArgs sFar) (defBody sFar) (defScope sFar) .none kVFar dcFar pmFar anFar cdFar ctFar), slFar⟩) (cFar : PySem.W.codeIn K cdFar "RoundValues.far_value" = true) (kFar : PySem.W.keepIn K (.ref fFar) = true)
    (aAt : PySem.W.findIn K (.ref C) "at_value" = some (some (.ref fAt))) (iAt : PySem.W.isFn K (.ref fAt) = true) (lAt : K.lookup fAt = some ⟨ocAt, odAt, .func (PySem.W.fnOf "at_value" "RoundValues.at_value" (defArgs sAt) (defBody sAt) (defScope sAt) .none kVAt dcAt pmAt anAt cdAt ctAt), slAt⟩) (cAt : PySem.W.codeIn K cdAt "RoundValues.at_value" = true) (kAt : PySem.W.keepIn K (.ref fAt) = true)
    (aLate : PySem.W.findIn K (.ref C) "late_value" = some (some (.ref fLate))) (iLate : PySem.W.isFn K (.ref fLate) = true) (lLate : K.lookup fLate = some ⟨ocLate, odLate, .func (PySem.W.fnOf "late_value" "RoundValues.late_value" (defArgs sLate) (defBody sLate) (defScope sLate) .none kVLate dcLate pmLate anLate cdLate ctLate), slLate⟩) (cLate : PySem.W.codeIn K cdLate "RoundValues.late_value" = true) (kLate : PySem.W.keepIn K (.ref fLate) = true)
    (aFresh : PySem.W.findIn K (.ref C) "fresh_value" = some (some (.ref fFresh))) (iFresh : PySem.W.isFn K (.ref fFresh) = true) (lFresh : K.lookup fFresh = some ⟨ocFresh, odFresh, .func (PySem.W.fnOf "fresh_value" "RoundValues.fresh_value" (defArgs sFresh) (defBody sFresh) (defScope sFresh) .none kVFresh dcFresh pmFresh anFresh cdFresh ctFresh), slFresh⟩) (cFresh : PySem.W.codeIn K cdFresh "RoundValues.fresh_value" = true) (kFresh : PySem.W.keepIn K (.ref fFresh) = true)
    (pg : PySem.W.plainGet K C Str.empty = true) (hd : PySem.W.hasDictIn K C = true) (po : PySem.W.plainOver K C = true) (sa : PySem.W.findIn K (.ref C) "__setattr__" = some (some (.builtin "object.__setattr__"))) (mk : PySem.W.makesIn K C = true) (kc : PySem.W.keepIn K (.ref C) = true)
    (nM : PySem.W.findIn K (.ref C) "held_marks" = some none) (nP : PySem.W.findIn K (.ref C) "held_phases" = some none) (nF : PySem.W.findIn K (.ref C) "held_fresh" = some none) (nL : PySem.W.findIn K (.ref C) "held_late" = some none)
    (conN : PySem.W.nsIn K mainGlobals "NEAR" = some (some (.int 0 t0))) (conA : PySem.W.nsIn K mainGlobals "AT" = some (some (.int 1 t1))) (conF : PySem.W.nsIn K mainGlobals "FAR" = some (some (.int 2 t2)))
    (z_isinstance : PySem.W.nsIn K mainGlobals "isinstance" = some none) (z_int : PySem.W.nsIn K mainGlobals "int" = some none) (z_bool : PySem.W.nsIn K mainGlobals "bool" = some none) (z_max : PySem.W.nsIn K mainGlobals "max" = some none) (z_len : PySem.W.nsIn K mainGlobals "len" = some none) (z_range : PySem.W.nsIn K mainGlobals "range" = some none) (z_min : PySem.W.nsIn K mainGlobals "min" = some none) (z_list : PySem.W.nsIn K mainGlobals "list" = some none) (z_tuple : PySem.W.nsIn K mainGlobals "tuple" = some none) (z_sorted : PySem.W.nsIn K mainGlobals "sorted" = some none) (z_set : PySem.W.nsIn K mainGlobals "set" = some none) (z_enumerate : PySem.W.nsIn K mainGlobals "enumerate" = some none) (z_repr : PySem.W.nsIn K mainGlobals "repr" = some none) : ∃ C fI, Tops K mg C fI := by
  have no : ∀ {n : Str}, PySem.W.nsIn K mainGlobals n = some none → mg n = none := fun e => PySem.W.mg_none_of X G e
  refine ⟨C, fInit, { tIsInt := top_mk X G aIsInt lIsInt cIsInt kIsInt, tGap := top_mk X G aGap lGap cGap kGap, tUp := top_mk X G aUp lUp cUp kUp, tPlus := top_mk X G aPlus lPlus cPlus kPlus, tGreat := top_mk X G aGreat lGreat cGreat kGreat, tFarT := top_mk X G aFarT lFarT cFarT kFarT, tWant := top_mk X G aWant lWant cWant kWant, tNeed := top_mk X G aNeed lNeed cNeed kNeed, tMost := top_mk X G aMost lMost cMost kMost, tGr := top_mk X G aGr lGr cGr kGr, tFeed := top_mk X G aFeed lFeed cFeed kFeed, tDraw := top_mk X G aDraw lDraw cDraw kDraw, tAny := top_mk X G aAny lAny cAny kAny, tPhases := top_mk X G aPhases lPhases cPhases kPhases, tMenu := top_mk X G aMenu lMenu cMenu kMenu, tMoves := top_mk X G aMoves lMoves cMoves kMoves, tTable := top_mk X G aTable lTable cTable kTable, tCuts := top_mk X G aCuts lCuts cCuts kCuts, tPlan := top_mk X G aPlan lPlan cPlan kPlan, tStart := top_mk X G aStart lStart cStart kStart, tCase := top_mk X G aCase lCase cCase kCase, tMoved := top_mk X G aMoved lMoved cMoved kMoved, tThings := top_mk X G aThings lThings cThings kThings, tBeyond := top_mk X G aBeyond lBeyond cBeyond kBeyond, tFollow := top_mk X G aFollow lFollow cFollow kFollow, tNet := top_mk X G aNet lNet cNet kNet, tLong := top_mk X G aLong lLong cLong kLong, tLBest := top_mk X G aLBest lLBest cLBest kLBest, tLaw := top_mk X G aLaw lLaw cLaw kLaw, mInit := meth_mk aInit iInit lInit cInit kInit, mBest := meth_mk aBest iBest lBest cBest kBest, mFar := meth_mk aFar iFar lFar cFar kFar, mAt := meth_mk aAt iAt lAt cAt kAt, mLate := meth_mk aLate iLate lLate cLate kLate, mFresh := meth_mk aFresh iFresh lFresh cFresh kFresh, mkI := ⟨mk, aInit, iInit, kc⟩, mC := PySem.W.mg_of X G aC, cs := ⟨⟨pg, hd, po, sa⟩, nM, nP, nF, nL, ⟨t0, PySem.W.mg_of X G conN⟩, ⟨t1, PySem.W.mg_of X G conA⟩, ⟨t2, PySem.W.mg_of X G conF⟩, no z_len, no z_max, no z_range⟩, z_isinstance := no z_isinstance, z_int := no z_int, z_bool := no z_bool, z_max := no z_max, z_len := no z_len, z_range := no z_range, z_min := no z_min, z_list := no z_list, z_tuple := no z_tuple, z_sorted := no z_sorted, z_set := no z_set, z_enumerate := no z_enumerate, z_repr := no z_repr }⟩
end K37
set_option Elab.async false
/-! The closing theorem. Printed by gen25.py. -/
open PySem PySem.W PyProof.Rows
set_option maxRecDepth 100000 in
set_option maxHeartbeats 0 in
theorem PySem.Challenge.cw_endclimbs_k37_whole_greatest_rounds_holds : PySem.Challenge.rw_endclimbs_k37_whole_greatest_rounds.Holds := by
  w_on; o_law; k_head; (case hw => w_witness2)
  k_fill
  refine K37.walk_all (l := PySem.Challenge.rw_endclimbs_k37_whole_greatest_rounds) rfl rfl rfl (fun w h Y => PySem.W.kIn_of Y) ?F
  case F =>
    intro w mg h KX G
    refine' K37.tops_mk KX G ?aC ?aIsInt ?lIsInt ?cIsInt ?kIsInt ?aGap ?lGap ?cGap ?kGap ?aUp ?lUp ?cUp ?kUp ?aPlus ?lPlus ?cPlus ?kPlus ?aGreat ?lGreat ?cGreat ?kGreat ?aFarT ?lFarT ?cFarT ?kFarT ?aWant ?lWant ?cWant ?kWant ?aNeed ?lNeed ?cNeed ?kNeed ?aMost ?lMost ?cMost ?kMost ?aGr ?lGr ?cGr ?kGr ?aFeed ?lFeed ?cFeed ?kFeed ?aDraw ?lDraw ?cDraw ?kDraw ?aAny ?lAny ?cAny ?kAny ?aPhases ?lPhases ?cPhases ?kPhases ?aMenu ?lMenu ?cMenu ?kMenu ?aMoves ?lMoves ?cMoves ?kMoves ?aTable ?lTable ?cTable ?kTable ?aCuts ?lCuts ?cCuts ?kCuts ?aPlan ?lPlan ?cPlan ?kPlan ?aStart ?lStart ?cStart ?kStart ?aCase ?lCase ?cCase ?kCase ?aMoved ?lMoved ?cMoved ?kMoved ?aThings ?lThings ?cThings ?kThings ?aBeyond ?lBeyond ?cBeyond ?kBeyond ?aFollow ?lFollow ?cFollow ?kFollow ?aNet ?lNet ?cNet ?kNet ?aLong ?lLong ?cLong ?kLong ?aLBest ?lLBest ?cLBest ?kLBest ?aLaw ?lLaw ?cLaw ?kLaw ?aInit ?iInit ?lInit ?cInit ?kInit ?aBest ?iBest ?lBest ?cBest ?kBest ?aFar ?iFar ?lFar ?cFar ?kFar ?aAt ?iAt ?lAt ?cAt ?kAt ?aLate ?iLate ?lLate ?cLate ?kLate ?aFresh ?iFresh ?lFresh ?cFresh ?kFresh ?pg ?hd ?po ?sa ?mk ?kc ?nM ?nP ?nF ?nL ?conN ?conA ?conF ?z_isinstance ?z_int ?z_bool ?z_max ?z_len ?z_range ?z_min ?z_list ?z_tuple ?z_sorted ?z_set ?z_enumerate ?z_repr
    (case aC => k_is)
    (case aIsInt => k_is); (case lIsInt => k_is); (case cIsInt => k_is); (case kIsInt => k_is)
    (case aGap => k_is); (case lGap => k_is); (case cGap => k_is); (case kGap => k_is)
    (case aUp => k_is); (case lUp => k_is); (case cUp => k_is); (case kUp => k_is)
    (case aPlus => k_is); (case lPlus => k_is); (case cPlus => k_is); (case kPlus => k_is)
    (case aGreat => k_is); (case lGreat => k_is); (case cGreat => k_is); (case kGreat => k_is)
    (case aFarT => k_is); (case lFarT => k_is); (case cFarT => k_is); (case kFarT => k_is)
    (case aWant => k_is); (case lWant => k_is); (case cWant => k_is); (case kWant => k_is)
    (case aNeed => k_is); (case lNeed => k_is); (case cNeed => k_is); (case kNeed => k_is)
    (case aMost => k_is); (case lMost => k_is); (case cMost => k_is); (case kMost => k_is)
    (case aGr => k_is); (case lGr => k_is); (case cGr => k_is); (case kGr => k_is)
    (case aFeed => k_is); (case lFeed => k_is); (case cFeed => k_is); (case kFeed => k_is)
    (case aDraw => k_is); (case lDraw => k_is); (case cDraw => k_is); (case kDraw => k_is)
    (case aAny => k_is); (case lAny => k_is); (case cAny => k_is); (case kAny => k_is)
    (case aPhases => k_is); (case lPhases => k_is); (case cPhases => k_is); (case kPhases => k_is)
    (case aMenu => k_is); (case lMenu => k_is); (case cMenu => k_is); (case kMenu => k_is)
    (case aMoves => k_is); (case lMoves => k_is); (case cMoves => k_is); (case kMoves => k_is)
    (case aTable => k_is); (case lTable => k_is); (case cTable => k_is); (case kTable => k_is)
    (case aCuts => k_is); (case lCuts => k_is); (case cCuts => k_is); (case kCuts => k_is)
    (case aPlan => k_is); (case lPlan => k_is); (case cPlan => k_is); (case kPlan => k_is)
    (case aStart => k_is); (case lStart => k_is); (case cStart => k_is); (case kStart => k_is)
    (case aCase => k_is); (case lCase => k_is); (case cCase => k_is); (case kCase => k_is)
    (case aMoved => k_is); (case lMoved => k_is); (case cMoved => k_is); (case kMoved => k_is)
    (case aThings => k_is); (case lThings => k_is); (case cThings => k_is); (case kThings => k_is)
    (case aBeyond => k_is); (case lBeyond => k_is); (case cBeyond => k_is); (case kBeyond => k_is)
    (case aFollow => k_is); (case lFollow => k_is); (case cFollow => k_is); (case kFollow => k_is)
    (case aNet => k_is); (case lNet => k_is); (case cNet => k_is); (case kNet => k_is)
    (case aLong => k_is); (case lLong => k_is); (case cLong => k_is); (case kLong => k_is)
    (case aLBest => k_is); (case lLBest => k_is); (case cLBest => k_is); (case kLBest => k_is)
    (case aLaw => k_is); (case lLaw => k_is); (case cLaw => k_is); (case kLaw => k_is)
    (case aInit => k_is); (case iInit => k_is); (case lInit => k_is); (case cInit => k_is); (case kInit => k_is)
    (case aBest => k_is); (case iBest => k_is); (case lBest => k_is); (case cBest => k_is); (case kBest => k_is)
    (case aFar => k_is); (case iFar => k_is); (case lFar => k_is); (case cFar => k_is); (case kFar => k_is)
    (case aAt => k_is); (case iAt => k_is); (case lAt => k_is); (case cAt => k_is); (case kAt => k_is)
    (case aLate => k_is); (case iLate => k_is); (case lLate => k_is); (case cLate => k_is); (case kLate => k_is)
    (case aFresh => k_is); (case iFresh => k_is); (case lFresh => k_is); (case cFresh => k_is); (case kFresh => k_is)
    (case pg => k_is); (case hd => k_is); (case po => k_is); (case sa => k_is); (case mk => k_is); (case kc => k_is); (case nM => k_is); (case nP => k_is); (case nF => k_is); (case nL => k_is); (case conN => k_is); (case conA => k_is); (case conF => k_is)
    (case z_isinstance => k_is); (case z_int => k_is); (case z_bool => k_is); (case z_max => k_is); (case z_len => k_is); (case z_range => k_is); (case z_min => k_is); (case z_list => k_is); (case z_tuple => k_is); (case z_sorted => k_is); (case z_set => k_is); (case z_enumerate => k_is); (case z_repr => k_is)
