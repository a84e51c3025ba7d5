import PyProof.Rows.All
import Wide.All
import OpenK.AllK
import Wide.FinOn
import KE.KExcIs
import HandS.ForMost
import HandS.ForExc
import HandS.Set
import HandS.SetFor
import HandS.Strs
import HandS.IsInst
import HandS.ExcIs
import HandS.ExcField
import HandS.ExcInit
import HandS.DictComp
import HandS.Conv
import HandS.ClsMeth
import HandS.Star
import HandS.Wide
import HandS.Small
import PySem.Challenge.RW_colonnade_k03_links
import HandS.Codes
set_option Elab.async false
set_option linter.all false
set_option maxRecDepth 100000
set_option maxHeartbeats 4000000
/-! The plain law of the five links: no program in sight. -/
namespace K3
/-- the five links -/
inductive Lk where
  | li | ru | st | ba | pi
  deriving DecidableEq

/-! ### lists: a last item -/
theorem snocI {α : Type} {P : List α → Prop} (h0 : P []) (hs : ∀ l x, P l → P (l ++ [x])) : ∀ l, P l := fun l => by
  have key : ∀ n (l : List α), l.length = n → P l := by
    intro n
    induction n with
    | zero => intro l hl; rw [List.length_eq_zero_iff.mp hl]; exact h0
    | succ n ih =>
      intro l hl
      have hne : l ≠ [] := fun e => by rw [e] at hl; cases hl
      rw [← List.dropLast_concat_getLast hne]
      refine hs _ _ (ih _ ?_)
      rw [List.length_dropLast]; omega
  exact key _ l rfl

/-! ### the least of a list -/
def mn : List Int → Int
  | [] => 0
  | [x] => x
  | x :: y :: r => if x ≤ mn (y :: r) then x else mn (y :: r)
theorem mn_mem : ∀ {l : List Int}, l ≠ [] → mn l ∈ l
  | [], h => absurd rfl h
  | [x], _ => by simp [mn]
  | x :: y :: r, _ => by
    have ih := mn_mem (l := y :: r) (by simp)
    unfold mn
    split
    · exact List.mem_cons_self
    · exact List.mem_cons_of_mem _ ih
theorem mn_le : ∀ {l : List Int} {z : Int}, z ∈ l → mn l ≤ z
  | [x], z, h => by
    have e : z = x := by simpa using h
    subst e; exact Int.le_refl _
  | x :: y :: r, z, h => by
    unfold mn
    rcases List.mem_cons.mp h with e | h'
    · subst e
      split <;> omega
    · have ih := mn_le (l := y :: r) h'
      split <;> omega
theorem mn_of {l : List Int} {m : Int} (h : m ∈ l) (hl : ∀ y, y ∈ l → m ≤ y) : m = mn l := by
  have hne : l ≠ [] := fun e => by rw [e] at h; simp at h
  have h1 := mn_le h
  have h2 := hl _ (mn_mem hne)
  omega
theorem mn_shift {l : List Int} (c : Int) (h : l ≠ []) : mn (l.map fun x => c + x) = c + mn l := by
  refine (mn_of (List.mem_map.mpr ⟨_, mn_mem h, rfl⟩) fun y hy => ?_).symm
  obtain ⟨x, hx, rfl⟩ := List.mem_map.mp hy
  have := mn_le hx
  omega

/-! ### sorted, each once -/
def ins (x : Int) : List Int → List Int
  | [] => [x]
  | y :: r => if x < y then x :: y :: r else if x = y then y :: r else y :: ins x r
def dist (l : List Int) : List Int := l.foldr ins []
theorem mem_ins {x z : Int} : ∀ {l : List Int}, z ∈ ins x l ↔ z = x ∨ z ∈ l
  | [] => by simp [ins]
  | y :: r => by
    unfold ins
    split
    · simp
    · split
      · rename_i h; subst h; simp
      · rw [List.mem_cons, mem_ins (l := r), List.mem_cons]
        constructor
        · rintro (h | h | h)
          · exact .inr (.inl h)
          · exact .inl h
          · exact .inr (.inr h)
        · rintro (h | h | h)
          · exact .inr (.inl h)
          · exact .inl h
          · exact .inr (.inr h)
theorem ins_up {x : Int} : ∀ {l : List Int}, l.Pairwise (· < ·) → (ins x l).Pairwise (· < ·)
  | [], _ => by simp [ins]
  | y :: r, h => by
    obtain ⟨h1, h2⟩ := List.pairwise_cons.mp h
    unfold ins
    split
    · rename_i c
      refine List.pairwise_cons.mpr ⟨fun z hz => ?_, h⟩
      rcases List.mem_cons.mp hz with e | e
      · subst e; exact c
      · have := h1 z e; omega
    · split
      · exact h
      · rename_i c d
        refine List.pairwise_cons.mpr ⟨fun z hz => ?_, ins_up h2⟩
        rcases mem_ins.mp hz with e | e
        · subst e; omega
        · exact h1 z e
theorem dist_up : ∀ l : List Int, (dist l).Pairwise (· < ·)
  | [] => List.Pairwise.nil
  | x :: r => ins_up (dist_up r)
theorem mem_dist {z : Int} : ∀ {l : List Int}, z ∈ dist l ↔ z ∈ l
  | [] => by simp [dist]
  | x :: r => by
    show z ∈ ins x (dist r) ↔ _
    rw [mem_ins, mem_dist (l := r), List.mem_cons]
/-- two rising lists with the same members are one -/
theorem up_eq : ∀ {a b : List Int}, a.Pairwise (· < ·) → b.Pairwise (· < ·) → (∀ z, z ∈ a ↔ z ∈ b) → a = b
  | [], [], _, _, _ => rfl
  | [], y :: r, _, _, h => by have := (h y).mpr List.mem_cons_self; simp at this
  | x :: r, [], _, _, h => by have := (h x).mp List.mem_cons_self; simp at this
  | x :: r, y :: t, ha, hb, h => by
    obtain ⟨a1, a2⟩ := List.pairwise_cons.mp ha
    obtain ⟨b1, b2⟩ := List.pairwise_cons.mp hb
    have e : x = y := by
      rcases List.mem_cons.mp ((h x).mp List.mem_cons_self) with e | e
      · exact e
      · rcases List.mem_cons.mp ((h y).mpr List.mem_cons_self) with e2 | e2
        · exact e2.symm
        · have := b1 x e; have := a1 y e2; omega
    subst e
    have := up_eq a2 b2 fun z => by
      constructor
      · intro hz
        rcases List.mem_cons.mp ((h z).mp (List.mem_cons_of_mem _ hz)) with e | e
        · subst e; have := a1 _ hz; omega
        · exact e
      · intro hz
        rcases List.mem_cons.mp ((h z).mpr (List.mem_cons_of_mem _ hz)) with e | e
        · subst e; have := b1 _ hz; omega
        · exact e
    rw [this]
theorem dist_of {l d : List Int} (h : d.Pairwise (· < ·)) (m : ∀ z, z ∈ d ↔ z ∈ l) : d = dist l :=
  up_eq h (dist_up l) fun z => (m z).trans mem_dist.symm
theorem ins_len {x : Int} : ∀ {l : List Int}, (ins x l).length ≤ l.length + 1
  | [] => by simp [ins]
  | y :: r => by
    unfold ins
    split
    · simp
    · split
      · simp
      · have := ins_len (x := x) (l := r); simp only [List.length_cons]; omega
theorem dist_len : ∀ l : List Int, (dist l).length ≤ l.length
  | [] => Nat.le_refl _
  | x :: r => by
    have := dist_len r
    have := ins_len (x := x) (l := dist r)
    show (ins x (dist r)).length ≤ r.length + 1
    omega
theorem dist_ne {l : List Int} (h : l ≠ []) : dist l ≠ [] := fun e => by
  obtain ⟨x, hx⟩ := List.exists_mem_of_ne_nil l h
  have := mem_dist.mpr hx
  rw [e] at this; simp at this

/-! ### the place of an integer in a list -/
def ix : List Int → Int → Nat
  | [], _ => 0
  | y :: r, x => if y = x then 0 else ix r x + 1
theorem ix_at : ∀ {l : List Int} {x : Int}, x ∈ l → l[ix l x]? = some x
  | y :: r, x, h => by
    unfold ix
    split
    · rename_i e; subst e; rfl
    · rename_i e
      have h' : x ∈ r := by
        rcases List.mem_cons.mp h with q | q
        · exact absurd q.symm e
        · exact q
      simpa using ix_at h'
theorem ix_lt {l : List Int} {x : Int} (h : x ∈ l) : ix l x < l.length := (List.getElem?_eq_some_iff.mp (ix_at h)).1
theorem ix_first : ∀ {l : List Int} {x z : Int} {m : Nat}, m < ix l x → l[m]? = some z → z ≠ x
  | y :: r, x, z, m, h, e => by
    unfold ix at h
    split at h
    · omega
    · rename_i c
      cases m with
      | zero =>
        have e' : y = z := by simpa using e
        rw [← e']; exact c
      | succ m => exact ix_first (l := r) (m := m) (by omega) (by simpa using e)
theorem up_inj {l : List Int} (h : l.Pairwise (· < ·)) {i j : Nat} {x : Int} (hi : l[i]? = some x) (hj : l[j]? = some x) : i = j := by
  obtain ⟨i1, rfl⟩ := List.getElem?_eq_some_iff.mp hi
  obtain ⟨j1, e⟩ := List.getElem?_eq_some_iff.mp hj
  have p := List.pairwise_iff_getElem.mp h
  rcases Nat.lt_trichotomy i j with c | c | c
  · have := p i j i1 j1 c; omega
  · exact c
  · have := p j i j1 i1 c; omega
theorem ix_of {l : List Int} (h : l.Pairwise (· < ·)) {i : Nat} {x : Int} (hi : l[i]? = some x) : ix l x = i :=
  up_inj h (ix_at (List.mem_of_getElem? hi)) hi

/-! ### 0, 1, .. below n -/
def rng (n : Nat) : List Int := (List.range n).map fun (i : Nat) => (i : Int)
theorem rng_len (n : Nat) : (rng n).length = n := by simp [rng]
theorem mem_rng {n : Nat} {z : Int} : z ∈ rng n ↔ 0 ≤ z ∧ z < n := by
  unfold rng
  rw [List.mem_map]
  constructor
  · rintro ⟨i, hi, rfl⟩
    have := List.mem_range.mp hi
    omega
  · rintro ⟨h1, h2⟩
    exact ⟨z.toNat, List.mem_range.mpr (by omega), by omega⟩
theorem rng_up (n : Nat) : (rng n).Pairwise (· < ·) := by
  unfold rng
  rw [List.pairwise_map]
  refine List.Pairwise.imp ?_ List.pairwise_lt_range
  intro a b h
  omega

/-! ### runs -/
/-- one more item behind what was parted so far -/
def stepR (acc : List (Int × Int)) (x : Int) : List (Int × Int) :=
  match acc.getLast? with
  | none => [(x, 1)]
  | some (y, c) => if y = x then acc.dropLast ++ [(y, c + 1)] else acc ++ [(x, 1)]
def runs (l : List Int) : List (Int × Int) := l.foldl stepR []
theorem runs_snoc (l : List Int) (x : Int) : runs (l ++ [x]) = stepR (runs l) x := by
  unfold runs; rw [List.foldl_append]; rfl
theorem stepR_nil (x : Int) : stepR [] x = [(x, 1)] := rfl
theorem stepR_same (a : List (Int × Int)) (x c : Int) : stepR (a ++ [(x, c)]) x = a ++ [(x, c + 1)] := by
  unfold stepR
  rw [List.getLast?_concat]
  simp
theorem stepR_other (a : List (Int × Int)) {x y c : Int} (h : y ≠ x) : stepR (a ++ [(y, c)]) x = a ++ [(y, c)] ++ [(x, 1)] := by
  unfold stepR
  rw [List.getLast?_concat]
  simp [h]
def expand (rs : List (Int × Int)) : List Int := (rs.map fun p => List.replicate p.2.toNat p.1).flatten
theorem expand_snoc (rs : List (Int × Int)) (x c : Int) : expand (rs ++ [(x, c)]) = expand rs ++ List.replicate c.toNat x := by
  unfold expand; simp
/-- what runs are like -/
structure Good (rs : List (Int × Int)) : Prop where
  pos : ∀ p ∈ rs, 1 ≤ p.2
  ne : ∀ (i : Nat) p q, rs[i]? = some p → rs[i + 1]? = some q → p.1 ≠ q.1
theorem good_nil : Good [] := ⟨fun p h => by simp at h, fun i p q h => by simp at h⟩
theorem lastD {α : Type} (l : List α) (h : l ≠ []) : ∃ a x, l = a ++ [x] := ⟨l.dropLast, l.getLast h, (List.dropLast_concat_getLast h).symm⟩
theorem good_init {a : List (Int × Int)} {p : Int × Int} (g : Good (a ++ [p])) : Good a := by
  refine ⟨fun q hq => g.pos q (List.mem_append_left _ hq), fun i q r h1 h2 => g.ne i q r ?_ ?_⟩
  · rw [List.getElem?_append_left (List.getElem?_eq_some_iff.mp h1).1]; exact h1
  · rw [List.getElem?_append_left (List.getElem?_eq_some_iff.mp h2).1]; exact h2
theorem good_snoc {a : List (Int × Int)} {x c : Int} (g : Good a) (hc : 1 ≤ c) (hl : ∀ p, a.getLast? = some p → p.1 ≠ x) : Good (a ++ [(x, c)]) := by
  refine ⟨fun q hq => ?_, fun i q r h1 h2 => ?_⟩
  · rcases List.mem_append.mp hq with h | h
    · exact g.pos q h
    · have e : q = (x, c) := by simpa using h
      rw [e]; exact hc
  · have b := (List.getElem?_eq_some_iff.mp h2).1
    rw [List.length_append, List.length_singleton] at b
    have hi : i < a.length := by omega
    rw [List.getElem?_append_left hi] at h1
    by_cases hj : i + 1 < a.length
    · rw [List.getElem?_append_left hj] at h2
      exact g.ne i q r h1 h2
    · have e : i + 1 = a.length := by omega
      rw [List.getElem?_append_right (by omega), e, Nat.sub_self] at h2
      have er : r = (x, c) := by simpa using h2.symm
      rw [er]
      refine hl q ?_
      rw [List.getLast?_eq_getElem?, ← e]
      exact h1
theorem good_last {a : List (Int × Int)} {x c y d : Int} (g : Good (a ++ [(y, d)] ++ [(x, c)])) : y ≠ x := by
  refine g.ne a.length (y, d) (x, c) ?_ ?_
  · simp
  · rw [List.getElem?_append_right (by simp)]; simp
theorem good_bump {a : List (Int × Int)} {x c d : Int} (g : Good (a ++ [(x, c)])) (hd : 1 ≤ d) : Good (a ++ [(x, d)]) := by
  refine good_snoc (good_init g) hd fun p hp => ?_
  obtain ⟨b, z, rfl⟩ := lastD a (fun e => by rw [e] at hp; simp at hp)
  rw [List.getLast?_concat] at hp
  have e : z = p := Option.some.inj hp
  subst e
  exact good_last (y := z.1) (d := z.2) g
theorem runs_good : ∀ l : List Int, Good (runs l) := by
  refine snocI good_nil fun l x ih => ?_
  rw [runs_snoc]
  by_cases h : runs l = []
  · rw [h, stepR_nil]
    exact good_snoc (a := []) good_nil (by omega) fun p hp => by simp at hp
  · obtain ⟨a, ⟨y, c⟩, e⟩ := lastD _ h
    rw [e] at ih ⊢
    by_cases hy : y = x
    · subst hy
      rw [stepR_same]
      have := ih.pos (y, c) (by simp)
      exact good_bump ih (by simp only at this; omega)
    · rw [stepR_other a hy]
      exact good_snoc ih (by omega) fun p hp => by
        rw [List.getLast?_concat] at hp
        have e2 : (y, c) = p := Option.some.inj hp
        rw [← e2]; exact hy
theorem expand_runs : ∀ l : List Int, expand (runs l) = l := by
  refine snocI rfl fun l x ih => ?_
  rw [runs_snoc]
  by_cases h : runs l = []
  · have e : l = [] := by rw [← ih, h]; rfl
    subst e
    rfl
  · have g := runs_good l
    obtain ⟨a, ⟨y, c⟩, e⟩ := lastD _ h
    rw [e] at ih g ⊢
    by_cases hy : y = x
    · subst hy
      have hc := g.pos (y, c) (by simp)
      simp only at hc
      rw [stepR_same, expand_snoc, ← ih, expand_snoc, List.append_assoc]
      congr 1
      rw [show (c + 1).toNat = c.toNat + 1 from by omega, List.replicate_succ']
    · rw [stepR_other a hy, expand_snoc, ih]
      rfl
theorem fold_rep (a : List (Int × Int)) (x : Int) : ∀ (m : Nat) (c : Int), (List.replicate m x).foldl stepR (a ++ [(x, c)]) = a ++ [(x, c + m)]
  | 0, c => by simp
  | m + 1, c => by
    rw [List.replicate_succ, List.foldl_cons, stepR_same, fold_rep a x m (c + 1)]
    congr 3
    omega
theorem runs_expand : ∀ rs : List (Int × Int), Good rs → runs (expand rs) = rs := by
  refine snocI (fun _ => rfl) fun rs p ih g => ?_
  obtain ⟨x, c⟩ := p
  have hc := g.pos (x, c) (by simp)
  simp only at hc
  rw [expand_snoc]
  unfold runs at ih ⊢
  rw [List.foldl_append, ih (good_init g)]
  obtain ⟨m, hm⟩ : ∃ m, c.toNat = m + 1 := ⟨c.toNat - 1, by omega⟩
  rw [hm, List.replicate_succ, List.foldl_cons]
  by_cases h : rs = []
  · subst h
    rw [stepR_nil]
    have := fold_rep [] x m 1
    rw [List.nil_append] at this
    rw [this]
    simp
    omega
  · obtain ⟨a, ⟨y, d⟩, rfl⟩ := lastD rs h
    rw [stepR_other a (good_last g), fold_rep]
    simp
    omega
theorem expand_len : ∀ rs : List (Int × Int), (∀ p ∈ rs, 0 ≤ p.2) → ((expand rs).length : Int) = (rs.map (·.2)).sum
  | [], _ => rfl
  | p :: r, h => by
    have ih := expand_len r fun q hq => h q (List.mem_cons_of_mem _ hq)
    have hp := h p List.mem_cons_self
    have e : expand (p :: r) = List.replicate p.2.toNat p.1 ++ expand r := by unfold expand; simp
    rw [e, List.length_append, List.length_replicate, List.map_cons, List.sum_cons]
    omega
theorem stepR_ne (a : List (Int × Int)) (x : Int) : stepR a x ≠ [] := by
  by_cases h : a = []
  · subst h; rw [stepR_nil]; simp
  · obtain ⟨b, ⟨y, c⟩, rfl⟩ := lastD a h
    by_cases e : y = x
    · subst e; rw [stepR_same]; simp
    · rw [stepR_other b e]; simp
theorem stepR_len (a : List (Int × Int)) (x : Int) : (stepR a x).length ≤ a.length + 1 := by
  by_cases h : a = []
  · subst h; rw [stepR_nil]; simp
  · obtain ⟨b, ⟨y, c⟩, rfl⟩ := lastD a h
    by_cases e : y = x
    · subst e; rw [stepR_same]; simp
    · rw [stepR_other b e]; simp
theorem runs_len : ∀ l : List Int, (runs l).length ≤ l.length := by
  refine snocI (Nat.le_refl _) fun l x ih => ?_
  have := stepR_len (runs l) x
  rw [runs_snoc, List.length_append, List.length_singleton]; omega
theorem runs_ne {l : List Int} (h : l ≠ []) : runs l ≠ [] := fun e => h (by rw [← expand_runs l, e]; rfl)
theorem runs_small {l : List Int} {p : Int × Int} (h : p ∈ runs l) : 1 ≤ p.2 ∧ p.2 ≤ l.length := by
  have g := runs_good l
  refine ⟨g.pos p h, ?_⟩
  have e := expand_len (runs l) fun q hq => by have := g.pos q hq; omega
  rw [expand_runs] at e
  rw [e]
  have key : ∀ rs : List (Int × Int), (∀ q ∈ rs, 1 ≤ q.2) → p ∈ rs → 0 ≤ (rs.map (·.2)).sum ∧ p.2 ≤ (rs.map (·.2)).sum := by
    intro rs
    induction rs with
    | nil => intro _ hp; simp at hp
    | cons q r ih =>
      intro hq hp
      have h1 := hq q List.mem_cons_self
      have hr : ∀ q ∈ r, 1 ≤ q.2 := fun z hz => hq z (List.mem_cons_of_mem _ hz)
      have h0 : ∀ r : List (Int × Int), (∀ q ∈ r, 1 ≤ q.2) → 0 ≤ (r.map (·.2)).sum := by
        intro r
        induction r with
        | nil => intro _; exact Int.le_refl _
        | cons z t iht =>
          intro hz
          have a := hz z List.mem_cons_self
          have b := iht fun y hy => hz y (List.mem_cons_of_mem _ hy)
          rw [List.map_cons, List.sum_cons]; omega
      have hs := h0 r hr
      rw [List.map_cons, List.sum_cons]
      rcases List.mem_cons.mp hp with e | e
      · subst e; omega
      · have := ih hr e; omega
  exact (key _ g.pos h).2

/-! ### steps -/
def psF : Int → List Int → List Int
  | _, [] => []
  | a, s :: t => (a + s) :: psF (a + s) t
def psums (l : List Int) : List Int := psF 0 l
def diffs (l : List Int) : List Int := List.zipWith (fun a b => b - a) l l.tail
theorem psF_len : ∀ (a : Int) (l : List Int), (psF a l).length = l.length
  | _, [] => rfl
  | a, s :: t => by show (psF (a + s) t).length + 1 = _; rw [psF_len]; rfl
theorem diffs_psF : ∀ (a : Int) (l : List Int), diffs (a :: psF a l) = l
  | _, [] => rfl
  | a, s :: t => by
    have ih := diffs_psF (a + s) t
    show (a + s - a) :: diffs ((a + s) :: psF (a + s) t) = s :: t
    rw [ih]
    congr 1
    omega
theorem psums_back (l : List Int) : (psums l).take 1 ++ diffs (psums l) = l := by
  cases l with
  | nil => rfl
  | cons s t =>
    show [0 + s] ++ diffs ((0 + s) :: psF (0 + s) t) = s :: t
    rw [diffs_psF]
    simp

/-! ### the table of point 8 -/
def parted : Lk → List Int → List Int × List Int
  | .li, l => ([], l)
  | .ru, l => (((runs l).length : Int) :: (runs l).map (·.2), (runs l).map (·.1))
  | .st, l => ([], l.take 1 ++ diffs l)
  | .ba, l => ([mn l], l.map fun x => x - mn l)
  | .pi, l => (((dist l).length : Int) :: dist l, l.map fun x => ((ix (dist l) x : Nat) : Int))
/-- what the law joins, before it looks whether it parts back -/
def cand : Lk → List Int → List Int → List Int
  | .li, _, inner => inner
  | .ru, own, inner => expand (inner.zip own.tail)
  | .st, _, inner => psums inner
  | .ba, own, inner => match own with | [] => inner | o :: _ => inner.map fun x => x + o
  | .pi, own, inner => inner.filterMap fun (a : Int) => if 0 ≤ a ∧ a < (own.tail.length : Int) then own.tail[a.toNat]? else none
def ljoin (k : Lk) (own inner : List Int) : List Int :=
  if cand k own inner = [] ∨ (cand k own inner).length > 999 then [] else if parted k (cand k own inner) = (own, inner) then cand k own inner else []
/-- own numbers that are a count and so many cells -/
def cells? (own : List Int) : Option (List Int) :=
  match own with
  | [] => none
  | c :: r => if c < 1 ∨ c ≠ r.length then none else some r
def adjEq (l : List Int) : Bool := (List.zipWith (fun a b => decide (a = b)) l l.tail).any id
def adjGe (l : List Int) : Bool := (List.zipWith (fun a b => decide (b ≤ a)) l l.tail).any id
/-- what the program joins; none: it refuses -/
def pjoin : Lk → List Int → List Int → Option (List Int)
  | .li, own, inner => if own ≠ [] ∨ inner = [] then none else if inner.length > 999 then none else some inner
  | .ru, own, inner => match cells? own with
    | none => none
    | some ls => if inner.length ≠ ls.length ∨ mn ls < 1 then none else if adjEq inner = true then none else if ls.sum > 999 then none else some (expand (inner.zip ls))
  | .st, own, inner => if own ≠ [] ∨ inner = [] then none else if inner.length > 999 then none else some (psums inner)
  | .ba, own, inner => match own with
    | [o] => if inner = [] ∨ mn inner ≠ 0 then none else if inner.length > 999 then none else some (inner.map fun x => o + x)
    | _ => none
  | .pi, own, inner => match cells? own with
    | none => none
    | some vs => if adjGe vs = true then none else if dist inner ≠ rng vs.length then none else if inner.length > 999 then none else some (inner.map fun (a : Int) => vs.getD a.toNat 0)
theorem adjEq_false {l : List Int} (h : adjEq l = false) : ∀ (i : Nat) p q, l[i]? = some p → l[i + 1]? = some q → p ≠ q := by
  intro i p q hp hq e
  have m : (decide (p = q)) ∈ List.zipWith (fun a b => decide (a = b)) l l.tail := by
    refine List.mem_of_getElem? (i := i) ?_
    rw [List.getElem?_zipWith, hp, List.getElem?_tail, hq]
  have t : adjEq l = true := by
    unfold adjEq
    exact List.any_eq_true.mpr ⟨_, m, by simp [e]⟩
  rw [t] at h; cases h
theorem adjEq_of {l : List Int} (h : ∀ (i : Nat) p q, l[i]? = some p → l[i + 1]? = some q → p ≠ q) : adjEq l = false := by
  cases c : adjEq l with
  | false => rfl
  | true =>
    unfold adjEq at c
    obtain ⟨b, hb, e⟩ := List.any_eq_true.mp c
    obtain ⟨i, hi⟩ := List.getElem?_of_mem hb
    rw [List.getElem?_zipWith, List.getElem?_tail] at hi
    cases hp : l[i]? with
    | none => rw [hp] at hi; simp at hi
    | some p =>
      cases hq : l[i + 1]? with
      | none => rw [hp, hq] at hi; simp at hi
      | some q =>
        rw [hp, hq] at hi
        have e2 : decide (p = q) = b := by simpa using hi
        rw [← e2] at e
        exact absurd (by simpa using e) (h i p q hp hq)
theorem adjGe_false {l : List Int} (h : adjGe l = false) : l.Pairwise (· < ·) := by
  induction l with
  | nil => exact List.Pairwise.nil
  | cons x r ih =>
    cases r with
    | nil => simp
    | cons y t =>
      have e : adjGe (x :: y :: t) = (decide (y ≤ x) || adjGe (y :: t)) := rfl
      rw [e] at h
      obtain ⟨h1, h2⟩ := Bool.or_eq_false_iff.mp h
      have p := ih h2
      have hxy : x < y := by have := of_decide_eq_false h1; omega
      refine List.pairwise_cons.mpr ⟨fun z hz => ?_, p⟩
      rcases List.mem_cons.mp hz with e | e
      · subst e; exact hxy
      · have := (List.pairwise_cons.mp p).1 z e; omega
theorem adjGe_of {l : List Int} (h : l.Pairwise (· < ·)) : adjGe l = false := by
  induction l with
  | nil => rfl
  | cons x r ih =>
    cases r with
    | nil => rfl
    | cons y t =>
      have e : adjGe (x :: y :: t) = (decide (y ≤ x) || adjGe (y :: t)) := rfl
      rw [e, ih (List.pairwise_cons.mp h).2]
      have := (List.pairwise_cons.mp h).1 y List.mem_cons_self
      simp; omega
theorem cells_some {own r : List Int} (h : cells? own = some r) : own = (r.length : Int) :: r ∧ 1 ≤ r.length := by
  cases own with
  | nil => cases h
  | cons c t =>
    unfold cells? at h
    simp only at h
    split at h
    · cases h
    · rename_i q
      have e : t = r := Option.some.inj h
      subst e
      have a : c = t.length := by omega
      exact ⟨by rw [a], by omega⟩
theorem cells_of {r : List Int} (h : 1 ≤ r.length) : cells? ((r.length : Int) :: r) = some r := by
  unfold cells?
  simp only
  rw [if_neg]
  omega
theorem zip_un (rs : List (Int × Int)) : (rs.map (·.1)).zip (rs.map (·.2)) = rs := by
  induction rs with
  | nil => rfl
  | cons p r ih => simp [ih]
theorem zip_fst : ∀ {a b : List Int}, a.length = b.length → (a.zip b).map (·.1) = a
  | [], [], _ => rfl
  | x :: a, y :: b, h => by
    have := zip_fst (a := a) (b := b) (by simpa using h)
    simp [this]
theorem zip_snd : ∀ {a b : List Int}, a.length = b.length → (a.zip b).map (·.2) = b
  | [], [], _ => rfl
  | x :: a, y :: b, h => by
    have := zip_snd (a := a) (b := b) (by simpa using h)
    simp [this]
theorem zip_len' {a b : List Int} (h : a.length = b.length) : (a.zip b).length = b.length := by
  rw [List.length_zip, h, Nat.min_self]
theorem good_zip {a b : List Int} (h : a.length = b.length) (hb : ∀ y ∈ b, 1 ≤ y) (ha : ∀ (i : Nat) p q, a[i]? = some p → a[i + 1]? = some q → p ≠ q) : Good (a.zip b) := by
  refine ⟨fun p hp => hb _ ?_, fun i p q h1 h2 => ?_⟩
  · have m : p.2 ∈ (a.zip b).map (·.2) := List.mem_map.mpr ⟨p, hp, rfl⟩
    rw [zip_snd h] at m; exact m
  · have e1 : ((a.zip b).map (·.1))[i]? = some p.1 := by rw [List.getElem?_map, h1]; rfl
    have e2 : ((a.zip b).map (·.1))[i + 1]? = some q.1 := by rw [List.getElem?_map, h2]; rfl
    rw [zip_fst h] at e1 e2
    exact ha i _ _ e1 e2
theorem expand_ne {rs : List (Int × Int)} (g : Good rs) (h : rs ≠ []) : expand rs ≠ [] := fun e => h (by rw [← runs_expand rs g, e]; rfl)
/-- what the program joins parts back -/
theorem pjoin_sound : ∀ (k : Lk) {own inner r : List Int}, pjoin k own inner = some r → r ≠ [] ∧ r.length ≤ 999 ∧ cand k own inner = r ∧ parted k r = (own, inner)
  | .li, own, inner, r, h => by
    unfold pjoin at h
    simp only at h
    split at h
    · cases h
    · rename_i c
      split at h
      · cases h
      · rename_i d
        have e : inner = r := Option.some.inj h
        subst e
        have c1 : own = [] := Classical.byContradiction fun q => c (.inl q)
        have c2 : inner ≠ [] := fun q => c (.inr q)
        exact ⟨c2, by omega, rfl, by rw [c1]; rfl⟩
  | .st, own, inner, r, h => by
    unfold pjoin at h
    simp only at h
    split at h
    · cases h
    · rename_i c
      split at h
      · cases h
      · rename_i d
        have e : psums inner = r := Option.some.inj h
        subst e
        have c1 : own = [] := Classical.byContradiction fun q => c (.inl q)
        have c2 : inner ≠ [] := fun q => c (.inr q)
        have l : (psums inner).length = inner.length := psF_len 0 inner
        refine ⟨fun q => c2 (List.length_eq_zero_iff.mp (by rw [← l, q]; rfl)), by omega, rfl, ?_⟩
        show ([], _) = _
        rw [psums_back, c1]
  | .ba, own, inner, r, h => by
    unfold pjoin at h
    simp only at h
    split at h
    · rename_i o
      split at h
      · cases h
      · rename_i c
        split at h
        · cases h
        · rename_i d
          have e := Option.some.inj h
          subst e
          have c1 : inner ≠ [] := fun q => c (.inl q)
          have c2 : mn inner = 0 := Classical.byContradiction fun q => c (.inr q)
          have ne : (inner.map fun x => o + x) ≠ [] := fun q => c1 (List.map_eq_nil_iff.mp q)
          refine ⟨ne, by rw [List.length_map]; omega, ?_, ?_⟩
          · show (inner.map fun x => x + o) = _
            refine List.map_congr_left fun x _ => ?_
            omega
          · show ([mn _], _) = _
            rw [mn_shift o c1, c2, List.map_map]
            congr 1
            · simp
            · rw [show ((fun x => x - (o + 0)) ∘ fun x => o + x) = (fun x : Int => x) from by funext x; show o + x - (o + 0) = x; omega, List.map_id']
    · cases h
  | .ru, own, inner, r, h => by
    unfold pjoin at h
    simp only at h
    cases hc : cells? own with
    | none => rw [hc] at h; cases h
    | some ls =>
      rw [hc] at h
      simp only at h
      obtain ⟨eo, h1⟩ := cells_some hc
      split at h
      · cases h
      · rename_i c
        split at h
        · cases h
        · rename_i d
          split at h
          · cases h
          · rename_i f
            have e := Option.some.inj h
            subst e
            have hl : inner.length = ls.length := Classical.byContradiction fun q => c (.inl q)
            have hm : 1 ≤ mn ls := by
              rcases Int.lt_or_le (mn ls) 1 with q | q
              · exact absurd (.inr q) c
              · exact q
            have g : Good (inner.zip ls) := good_zip hl (fun y hy => Int.le_trans hm (mn_le hy)) (adjEq_false (by simpa using d))
            have zne : inner.zip ls ≠ [] := fun q => by
              have := zip_len' hl
              rw [q] at this
              simp at this; omega
            have el := expand_len (inner.zip ls) fun p hp => by have := g.pos p hp; omega
            rw [zip_snd hl] at el
            refine ⟨expand_ne g zne, by omega, ?_, ?_⟩
            · show expand (inner.zip own.tail) = _
              rw [eo]; rfl
            · show ((_ : Int) :: _, _) = _
              rw [runs_expand _ g, zip_fst hl, zip_snd hl, zip_len' hl, eo]
  | .pi, own, inner, r, h => by
    unfold pjoin at h
    simp only at h
    cases hc : cells? own with
    | none => rw [hc] at h; cases h
    | some vs =>
      rw [hc] at h
      simp only at h
      obtain ⟨eo, h1⟩ := cells_some hc
      split at h
      · cases h
      · rename_i c
        split at h
        · cases h
        · rename_i d
          split at h
          · cases h
          · rename_i f
            have e := Option.some.inj h
            subst e
            have up : vs.Pairwise (· < ·) := adjGe_false (by simpa using c)
            have dr : dist inner = rng vs.length := Classical.byContradiction d
            have mi : ∀ a, a ∈ inner ↔ 0 ≤ a ∧ a < vs.length := fun a => by rw [← mem_dist, dr]; exact mem_rng
            have ine : inner ≠ [] := fun q => by
              have := (mi 0).mpr (by omega)
              rw [q] at this; simp at this
            have at_ : ∀ a ∈ inner, vs[a.toNat]? = some (vs.getD a.toNat 0) := fun a ha => by
              have := (mi a).mp ha
              rw [List.getD_eq_getElem?_getD, List.getElem?_eq_getElem (show a.toNat < vs.length by omega)]; rfl
            have dv : vs = dist (inner.map fun (a : Int) => vs.getD a.toNat 0) := dist_of up fun z => by
              constructor
              · intro hz
                obtain ⟨i, hi⟩ := List.getElem?_of_mem hz
                have hil := (List.getElem?_eq_some_iff.mp hi).1
                refine List.mem_map.mpr ⟨(i : Int), (mi _).mpr (by omega), ?_⟩
                have := at_ (i : Int) ((mi _).mpr (by omega))
                rw [Int.toNat_natCast, hi] at this
                exact (Option.some.inj this).symm
              · intro hz
                obtain ⟨a, ha, rfl⟩ := List.mem_map.mp hz
                exact List.mem_of_getElem? (at_ a ha)
            refine ⟨fun q => ine (List.map_eq_nil_iff.mp q), by rw [List.length_map]; omega, ?_, ?_⟩
            · show (inner.filterMap _) = _
              rw [← List.filterMap_eq_map]
              have key : ∀ l : List Int, (∀ a ∈ l, a ∈ inner) → (l.filterMap fun (a : Int) => if 0 ≤ a ∧ a < (own.tail.length : Int) then own.tail[a.toNat]? else none) = l.filterMap (some ∘ fun (a : Int) => vs.getD a.toNat 0) := by
                intro l hl
                induction l with
                | nil => rfl
                | cons a t ih =>
                  have ha := hl a List.mem_cons_self
                  have hb := (mi a).mp ha
                  have e0 : own.tail = vs := by rw [eo]; rfl
                  have e1 : (if 0 ≤ a ∧ a < (own.tail.length : Int) then own.tail[a.toNat]? else none) = some (vs.getD a.toNat 0) := by
                    rw [e0, if_pos hb]; exact at_ a ha
                  rw [List.filterMap_cons, e1, ih fun b hb => hl b (List.mem_cons_of_mem _ hb)]
                  rfl
              exact key inner fun _ h => h
            · show ((_ : Int) :: _, _) = _
              rw [← dv, List.map_map, eo]
              congr 1
              refine (List.map_congr_left (g := fun x => x) fun a ha => ?_).trans (List.map_id' _)
              have := ix_of up (at_ a ha)
              show ((ix vs (vs.getD a.toNat 0) : Nat) : Int) = a
              rw [this]
              have := (mi a).mp ha
              omega
/-- what parts back is what the program joins -/
theorem pjoin_complete : ∀ (k : Lk) {row : List Int}, row ≠ [] → row.length ≤ 999 → pjoin k (parted k row).1 (parted k row).2 = some row
  | .li, row, h, hl => by
    show (if ([] : List Int) ≠ [] ∨ row = [] then none else if row.length > 999 then none else some row) = some row
    rw [if_neg (by simp [h]), if_neg (by omega)]
  | .st, row, h, hl => by
    show (if ([] : List Int) ≠ [] ∨ (row.take 1 ++ diffs row) = [] then none else if (row.take 1 ++ diffs row).length > 999 then none else some (psums (row.take 1 ++ diffs row))) = some row
    have back : ∀ (a : Int) (t : List Int), psF a (diffs (a :: t)) = t := by
      intro a t
      induction t generalizing a with
      | nil => rfl
      | cons b t ih =>
        show (a + (b - a)) :: psF (a + (b - a)) (diffs (b :: t)) = b :: t
        rw [show a + (b - a) = b from by omega, ih]
    cases row with
    | nil => exact absurd rfl h
    | cons a t =>
      have e : psums ((a :: t).take 1 ++ diffs (a :: t)) = a :: t := by
        show psF 0 (a :: diffs (a :: t)) = a :: t
        show (0 + a) :: psF (0 + a) (diffs (a :: t)) = a :: t
        rw [Int.zero_add, back]
      have l : ((a :: t).take 1 ++ diffs (a :: t)).length = (a :: t).length := by
        have := psF_len 0 ((a :: t).take 1 ++ diffs (a :: t))
        rw [← this]
        exact congrArg List.length e
      rw [if_neg (by simp), if_neg (by omega), e]
  | .ba, row, h, hl => by
    have e0 : (row.map fun x => x - mn row) = row.map fun x => -(mn row) + x := List.map_congr_left fun x _ => by omega
    have m0 : mn (row.map fun x => x - mn row) = 0 := by
      rw [e0, mn_shift _ h]; omega
    show (if (row.map fun x => x - mn row) = [] ∨ mn (row.map fun x => x - mn row) ≠ 0 then none else if (row.map fun x => x - mn row).length > 999 then none else some ((row.map fun x => x - mn row).map fun x => mn row + x)) = some row
    rw [if_neg (by rw [m0]; simp [h]), if_neg (by rw [List.length_map]; omega), List.map_map]
    congr 1
    refine (List.map_congr_left (g := fun x => x) fun x _ => ?_).trans (List.map_id' _)
    show mn row + (x - mn row) = x
    omega
  | .ru, row, h, hl => by
    have g := runs_good row
    have ne := runs_ne h
    have n1 : 1 ≤ (runs row).length := Nat.pos_of_ne_zero fun q => ne (List.length_eq_zero_iff.mp q)
    have ec : cells? (parted .ru row).1 = some ((runs row).map (·.2)) := by
      show cells? (((runs row).length : Int) :: (runs row).map (·.2)) = _
      have := cells_of (r := (runs row).map (·.2)) (by rw [List.length_map]; exact n1)
      rw [List.length_map] at this
      exact this
    show (match cells? (parted .ru row).1 with
      | none => none
      | some ls => if ((runs row).map (·.1)).length ≠ ls.length ∨ mn ls < 1 then none else if adjEq ((runs row).map (·.1)) = true then none else if ls.sum > 999 then none else some (expand (((runs row).map (·.1)).zip ls))) = some row
    rw [ec]
    simp only
    have m1 : 1 ≤ mn ((runs row).map (·.2)) := by
      obtain ⟨p, hp, e⟩ := List.mem_map.mp (mn_mem (l := (runs row).map (·.2)) (fun q => ne (List.map_eq_nil_iff.mp q)))
      rw [← e]; exact g.pos p hp
    have ae : adjEq ((runs row).map (·.1)) = false := adjEq_of fun i p q hp hq => by
      rw [List.getElem?_map] at hp hq
      cases h1 : (runs row)[i]? with
      | none => rw [h1] at hp; cases hp
      | some a =>
        cases h2 : (runs row)[i + 1]? with
        | none => rw [h2] at hq; cases hq
        | some b =>
          rw [h1] at hp; rw [h2] at hq
          have e1 : a.1 = p := Option.some.inj hp
          have e2 : b.1 = q := Option.some.inj hq
          rw [← e1, ← e2]
          exact g.ne i a b h1 h2
    have el := expand_len (runs row) fun p hp => by have := g.pos p hp; omega
    rw [expand_runs] at el
    rw [if_neg (by rw [List.length_map, List.length_map]; omega), ae, if_neg (by decide), if_neg (by omega), zip_un, expand_runs]
  | .pi, row, h, hl => by
    have ne := dist_ne h
    have n1 : 1 ≤ (dist row).length := Nat.pos_of_ne_zero fun q => ne (List.length_eq_zero_iff.mp q)
    show (match cells? (((dist row).length : Int) :: dist row) with
      | none => none
      | some vs => if adjGe vs = true then none else if dist (row.map fun x => ((ix (dist row) x : Nat) : Int)) ≠ rng vs.length then none else if (row.map fun x => ((ix (dist row) x : Nat) : Int)).length > 999 then none else some ((row.map fun x => ((ix (dist row) x : Nat) : Int)).map fun (a : Int) => vs.getD a.toNat 0)) = some row
    rw [cells_of n1]
    simp only
    have dr : dist (row.map fun x => ((ix (dist row) x : Nat) : Int)) = rng (dist row).length := (dist_of (rng_up _) fun z => by
      rw [mem_rng, List.mem_map]
      constructor
      · rintro ⟨h1, h2⟩
        have hz : z.toNat < (dist row).length := by omega
        refine ⟨(dist row)[z.toNat], mem_dist.mp (List.getElem_mem hz), ?_⟩
        rw [ix_of (dist_up row) (List.getElem?_eq_getElem hz)]
        omega
      · rintro ⟨x, hx, rfl⟩
        have := ix_lt (mem_dist.mpr hx)
        omega).symm
    rw [adjGe_of (dist_up row), if_neg (by decide), if_neg (by simp [dr]), if_neg (by rw [List.length_map]; omega), List.map_map]
    congr 1
    refine (List.map_congr_left (g := fun x => x) fun x hx => ?_).trans (List.map_id' _)
    show (dist row).getD (((ix (dist row) x : Nat) : Int)).toNat 0 = x
    rw [Int.toNat_natCast, List.getD_eq_getElem?_getD, ix_at (mem_dist.mpr hx)]
    rfl
/-- the law's own word and the program's are one -/
theorem ljoin_some {k : Lk} {own inner r : List Int} (h : pjoin k own inner = some r) : ljoin k own inner = r ∧ r ≠ [] := by
  obtain ⟨h1, h2, h3, h4⟩ := pjoin_sound k h
  refine ⟨?_, h1⟩
  unfold ljoin
  rw [h3, if_neg (by rintro (q | q); exact h1 q; omega), if_pos h4]
theorem ljoin_none {k : Lk} {own inner : List Int} (h : pjoin k own inner = none) : ljoin k own inner = [] := by
  unfold ljoin
  split
  · rfl
  · rename_i c
    split
    · rename_i e
      have := pjoin_complete k (row := cand k own inner) (fun q => c (.inl q)) (by
        rcases Nat.lt_or_ge 999 (cand k own inner).length with q | q
        · exact absurd (.inr q) c
        · exact q)
      rw [e] at this
      rw [h] at this
      cases this
    · rfl
/-- how many own numbers stand ahead in the cells -/
def pcount : Lk → List Int → Option Int
  | .ba, cs => if cs = [] then none else some 1
  | .ru, cs => match cs with | [] => none | c :: r => if c < 1 ∨ (r.length : Int) + 1 ≤ c then none else some (c + 1)
  | .pi, cs => match cs with | [] => none | c :: r => if c < 1 ∨ (r.length : Int) + 1 ≤ c then none else some (c + 1)
  | _, _ => some 0
def lcount (k : Lk) (cs : List Int) : Int := (pcount k cs).getD (-1)
theorem pcount_pos {k : Lk} {cs : List Int} {n : Int} (h : pcount k cs = some n) : 0 ≤ n := by
  cases k <;> unfold pcount at h <;> simp only at h
  · have := Option.some.inj h; omega
  · split at h
    · cases h
    · split at h
      · cases h
      · have := Option.some.inj h; omega
  · have := Option.some.inj h; omega
  · split at h
    · cases h
    · have := Option.some.inj h; omega
  · split at h
    · cases h
    · split at h
      · cases h
      · have := Option.some.inj h; omega
/-- how many inner numbers -/
def icount (k : Lk) (own : List Int) (many : Int) : Int := match k with | .ru => own.headD 0 | _ => many
end K3
/-! Rules over the hand layer that this law wants besides: C() without an own init, an own error without arguments, a method called in a try, isinstance of an error with a dict, a set of a list of ints, walks of enumerate and zip in a comprehension. -/
namespace K3
open PySem PySem.Spec PyProof.Rows L2

/-! ### C(), no own init -/
structure Mk0 (K : PySem.W.Frag) (C : Addr) : Prop where
  makes : PySem.W.makesIn K C = true
  init : PySem.W.findIn K (.ref C) "__init__" = some (some (.builtin "object.__init__"))
  kp : PySem.W.keepIn K (.ref C) = true
def tMake0 (C : Addr) : TE := fun _ H Q => ∀ x dx, H x = none → H dx = none → dx ≠ x → Q (.ref x) (upd (upd H dx (.own x)) x (.ins C dx []))
section
variable {X : Cx} {C : Addr} {x : Str} {p pos : Pos}
theorem pe_new (M : Mk0 X.K C) (hm : X.mg x = some (.ref C)) (hg : Gl X x := by rfl) (hdb : (x == ("__debug__" : Str)) = false := by decide) : PE X (.Call (.Name x p) [] [] pos) (tMake0 C) := by
  refine ⟨fun pins s σ H Q I h => ?_⟩
  refine wpAny_Call_Name_kw (ld_glob I hg hm ?_ hdb)
  refine PySem.W.callWith_K0 I.kIn M.kp ?_
  have hq := h (s.heap.objs.size + 1) s.heap.objs.size (I.hok.fresh (Nat.le_succ _)) (I.hok.fresh (Nat.le_refl _)) (Nat.ne_of_lt (Nat.lt_succ_self _))
  have J := Inv.made (C := C) I
  have Y := PySem.W.makes_of (M := model X.prog X.w) I.kIn M.makes
  refine wpAny_call (make_map0 I.kIn M.makes M.init (fun self => PySem.W.Looks.of_pure (PySem.W.oi_bind self)) ?_)
  obtain ⟨hh, g, d, t, os⟩ := s
  have hx : ((hh.push PySem.W.emptyDict).push (PySem.W.instObj C hh.objs.size)).get? (hh.objs.size + 1) = some (PySem.W.instObj C hh.objs.size) := by heap_get
  have t1 : PySem.W.Looks (model X.prog X.w) ((hh.push PySem.W.emptyDict).push (PySem.W.instObj C hh.objs.size)) (typeOf (.ref (hh.objs.size + 1))) (.ref C) := (PySem.W.Looks.ld hx).andThen .now
  have t2 : PySem.W.Looks (model X.prog X.w) ((hh.push PySem.W.emptyDict).push (PySem.W.instObj C hh.objs.size)) (isInstance (.ref (hh.objs.size + 1)) (.type "object")) true :=
    t1.andThen (Y.top.keeps fun b o e => Heap.get?_push_of_some _ (Heap.get?_push_of_some _ e))
  refine codeAny_call_builtin PySem.W.oi_plain PySem.W.entry_oi (@PySem.W.check_slot (model X.prog X.w) _ _ _ "object.__init__" "object" "__init__" (.ref (hh.objs.size + 1)) [] [] _ PySem.W.oi_kind PySem.W.oi_split t2 (PySem.W.oi_args _) ?_)
  rw [PySem.W.oi_run]
  exact wpAny_pure (And.intro rfl ⟨V.ref (hh.objs.size + 1), _, J, rfl, hq⟩)
end

/-! ### X(), an own exception class without own init -/
section
variable {X : Cx} {C : Addr} {bmB : List Value} {B newId initId : String}
theorem pmk_bare {x : Str} {p pos : Pos} (F : ExcBaseFacts B newId initId bmB) (q : PySem.W.excIn X.K C bmB newId = true) (gC : X.mg x = some (.ref C)) (kC : PySem.W.keepIn X.K (.ref C) = true) (r : Raises X (.ref C)) (hg : Gl X x := by rfl)
    (hdb : (x == ("__debug__" : Str)) = false := by decide) : PMk X (.Call (.Name x p) [] [] pos) (fun _ H Q => Q (.ref C) none H) := by
  intro pins s σ H Q I h
  refine wpAny_Call_Name_kw (ld_glob I hg gC ?_ hdb)
  refine PySem.W.callWith_K0 I.kIn kC ?_
  obtain ⟨bm, N, nm, qn, bs, hdct, sn, sub, ab, col, dd, k0, k1, k2, k3, k5, mN, hC, hN, hni, T⟩ := exc_obj I.kIn q
  refine wpAny_call_exc_subT F T hC hN hni (fun h' e hm => ?_) (Nat.zero_le _)
  exact mk_of I hm r h (I.hok.gone hm.new)
end

/-! ### o.m(..), what is raised is wished for at the caller's slots -/
def tMethW (C : Addr) (m : Str) (sp : Sp) (E : L2.St → XK) (ta : TE) (t : TA) : TE := fun σ H Q => ta σ H fun x H1 => ∃ a dx fs, x = .ref a ∧ H1 a = some (.ins C dx fs) ∧ fs.lookup m = none ∧
  t σ H1 fun vs H2 => sp (x :: vs) H2 Q (E σ)
theorem pe_methW {X : Cx} {CX : CXT} {k : Nat} {f C : Addr} {fd : FuncData} {ps : List Str} {sp : Sp} {E : L2.St → XK} {m : Str} {pos apos : Pos} {e o : Expr} {es : List Expr} {ta : TE} {t : TA} {pl : Sem Bool}
    (he : PE X o ta) (c : Cls X.K C) (hm : Meth X.K C m f) (F : FnOk X.prog X.w X.K X.mg X.base CX k f fd ps sp) (hr : Room k X.A) (hb : Binds X.K fd ps []) (hx : ∀ σ, PassesAt CX X σ (E σ)) (ha : PA X (e :: es) t)
    (hst : starEach (e :: es) X.env = (false, eval e X.env) :: starEach es X.env := by rfl) (hpl : (backTo pos (starEach es X.env)).any (·.1) = false := by rfl)
    (ht : eval (.Call (.Attribute o m apos) (e :: es) [] pos) X.env = (do
      let ov ← eval o X.env
      standAt apos.atName
      let (f, first) ← holding [ov] (getMethod ov m pl)
      callWith pos f first (backTo pos (starEach (e :: es) X.env)) (backToKw pos (keywordEach [] X.env))) := by rfl) :
    PE X (.Call (.Attribute o m apos) (e :: es) [] pos) (tMethW C m sp E ta t) := by
  refine ⟨fun pins s σ H Q I h => PySem.W.methodCall_KW (pl := pl) (thn (he.run pins s σ H _ I h) fun u s1 hh => ?_) ht⟩
  obtain ⟨y, H1, I1, ry, a, dx, fs, ey, ea, l, q⟩ := hh
  subst ey
  have eu : u = Value.ref a := ry
  subst eu
  refine getmeth_ok I1 ea c hm l (PySem.W.callWith_K (first := [.ref a]) (h₀ := X.base) I1.ok.mod.kin hm.kp (thn (ha.run pos pins s1 σ H1 _ I1 q) fun us s2 hh2 => ?_) hst hpl)
  obtain ⟨vs, H2, I2, r2, q2⟩ := hh2
  exact ⟨I2.kIn, run_fnS (us := .ref a :: us) (vs := .ref a :: vs) F hr hb (hx σ) I2 (.cons rfl r2) q2⟩

/-! ### isinstance(e, C), e the exception that the suite holds, with a dict or without -/
structure ExcD (K : PySem.W.Frag) (D : Addr) : Prop where
  hc : PySem.W.isClsIn K D = true
  hg : PySem.W.findIn K (.ref D) "__getattribute__" = some (some (.builtin "BaseException.__getattribute__"))
  hk : PySem.W.findIn K (.ref D) "__getattr__" = some none
  hs : PySem.W.subIn K (.ref D) (.type "BaseException") = some true
  ha : PySem.W.findIn K (.ref D) "__class__" = some (some (.builtin "object.__class__"))
  hn : PySem.W.specialIn K (.builtin "object.__class__") "__get__" = some (some (.builtin "getset_descriptor.__get__"))
  ht : PySem.W.takesIn K (.builtin "object.__class__") = some true
  hm : PySem.W.mroIn K D (.type "object") = some true
/-- the exception's dict, where it has one, is tracked -/
def DOk (d : Option Addr) (H : Hp) : Prop := match d with | none => True | some dd => ∃ fs, H dd = some (.xd fs)
def rIsD (K : PySem.W.Frag) (D : Addr) (d : Option Addr) (a : Addr) : List V → Hp → VK → Prop := fun xs H Q => ∃ (Cc : Addr) (b : Bool), xs = [.ref a, .ref Cc] ∧ DOk d H ∧ PySem.W.kitOne K (.ref D) (.ref Cc) = some b ∧ Q (.bl b) H
theorem call_isD {X : Cx} {a D : Addr} {d : Option Addr} {oe : Obj} {pn : List (Addr × Obj)} (C : ExcD X.K D) (hz : Zc (.ref D) d oe) (hf : ∃ vs, oe.data = .fields vs) : CallR (X.suite a ((a, oe) :: pn)) (.builtin "isinstance") (rIsD X.K D d a) := by
  intro pins s σ H xs us Q I r h
  obtain ⟨Cc, b, rfl, hd, e, q⟩ := h
  obtain ⟨u1, u2, rfl, r1, r2⟩ := vals2 r
  cases (show u1 = Value.ref a from r1)
  cases (show u2 = Value.ref Cc from r2)
  obtain ⟨hget, _⟩ := I.pin (a, oe) (List.mem_append.mpr (.inl List.mem_cons_self))
  obtain ⟨vs, hv⟩ := hf
  have J : ∃ od, PySem.W.InstAt s.heap a oe D od := by
    cases d with
    | none => exact ⟨none, hget, hz.1, by unfold PySem.W.notCls; rw [hv] <;> rfl, by rw [hz.2]; trivial⟩
    | some dd =>
      obtain ⟨fs, hx⟩ := hd
      obtain ⟨mA, hns, _⟩ := (show ObjOk X.prog X.w H s.heap dd (.xd fs) from I.hok dd _ hx)
      obtain ⟨od, ho, _⟩ := lookIn_ns hns
      exact ⟨some od, hget, hz.1, by unfold PySem.W.notCls; rw [hv] <;> rfl, by rw [hz.2]; exact ho⟩
  obtain ⟨od, J⟩ := J
  exact PySem.W.kia_one (PySem.W.kitx_exc (od := od) C.hc C.hg C.hk C.hs C.ha C.hn C.ht C.hm) I.kIn J e (fun z => nomatch z) fun tk => ⟨.bl b, H, I.tok tk, rfl, q⟩
end K3
namespace K3
open PySem PySem.Spec PyProof.Rows L2
/-! ### set(xs) of a list of ints -/
section
variable {P : Program} {w : World} {A : Around} {E : Value → Shared → Prop} {s : Shared}
abbrev sObj (w : World) : Obj := { cls := .type "set", dict := none, data := .set #[] 0 (.fresh 0 0 (!w.params.followText "set-order")) }
theorem set_of_list {l : Addr} {items : Array Value} (ns : List Int) {Q : Value → Shared → Prop} (hh : A.handled = none) (hl : s.heap.IsList l items) (hit : IntsAre items.toList ns) (hb : ns.length + 1 < scanBound)
    (h : ∀ (h' : Heap) (tk c : Nat), SetR w h' s.heap.objs.size (fun j => decide (j ∈ ns)) c → c ≤ ns.length → (∀ b o, s.heap.get? b = some o → h'.get? b = some o) → Q (.ref s.heap.objs.size) { s with heap := h', toks := tk }) :
    wpAny (model P w) A (call (.type "set") [.ref l]) Q E s := by
  have hsz : items.size = ns.length := by
    have q := IntsAre.length hit
    rwa [Array.length_toList] at q
  obtain ⟨c, tl, hmro⟩ := F.called_set.mro
  have hmade := F.called_set.made
  have hsub := F.called_set.sub
  refine wpAny_call (codeAny_of_tree ?_)
  show wpAny _ _ (callAny (.type "set") _) _ _ _
  refine wpAny_pure ⟨Code.quiet_builtin _ (by decide +kernel), codeAny_builtin F.entry_type_call ?_⟩
  rw [Around.under_plain (weight_type_call_type "set" [.ref l] []) rfl]
  have h1 := F.called_set.notType
  have h2 := F.called_set.canCreate
  have hct := F.typeCall_set_1 (.ref l)
  repeat (any_goals (first | assumption | wp_step))
  refine codeAny_mono (code_set_led1 (.ref l) (E := E) (Q₁ := fun obj s₁ => obj = .ref s.heap.objs.size ∧ s₁ = { s with heap := s.heap.push (sObj w) }) ⟨rfl, rfl⟩) fun r s₁ hr => ?_
  cases r with
  | error e => exact hr
  | ok fl =>
    cases fl with
    | ret obj =>
      obtain ⟨rfl, rfl⟩ := hr
      have hS : (s.heap.push (sObj w)).get? s.heap.objs.size = some (sObj w) := Heap.get?_push_size _ rfl
      have hT : Shared.TypeIs { s with heap := s.heap.push (sObj w) } (.ref s.heap.objs.size) "set" := ⟨_, hS, rfl⟩
      have hli := F.called_set.init.lookup
      have hbi := F.called_set.init.bind (.ref s.heap.objs.size)
      repeat (any_goals (first | assumption | wp_step))
      refine codeAny_mono (codeAny_call_builtin (R := wants (fun r s₂ => r = .none ∧ ∃ h' tk c, s₂ = { s with heap := h', toks := tk } ∧ SetR w h' s.heap.objs.size (fun j => decide (j ∈ ns)) c ∧ c ≤ ns.length ∧
          (∀ b o, s.heap.get? b = some o → h'.get? b = some o)) E) F.called_set.init.plain F.entry_set_init (check_set_init_1 hT ?_)) fun r₂ s₂ hr₂ => ?_
      · obtain ⟨⟨ocls, odict, odata, oslots⟩, hol, hcl, nl, hdl⟩ := hl
        simp only at hcl hdl
        subst hcl
        subst hdl
        have hol' : (s.heap.push (sObj w)).get? l = some { cls := .type "list", dict := odict, data := .seq items nl, slots := oslots } := Heap.get?_push_of_some _ hol
        have hsls := F.sub_list_set
        have hslf := F.sub_list_frozenset
        have hne : (Value.type "list" == Value.type "dict") = false := by decide
        have hl1 : (s.heap.push (sObj w)).IsList l items := ⟨_, hol', rfl, nl, rfl⟩
        unfold Builtin.«set.__init__» noKeywords Builtin.Frozenset.updateFrom
        generalize hPI : pyIter = PI
        wp_walk
        subst hPI
        refine wpAny_pyIter_list hl1 (wpAny_bind (wpAny_runValue ?_))
        have hlS : l < s.heap.objs.size := Heap.lt_size hol
        have hh3 : A.in1.in1.in1.handled = none := by simp [hh]
        have hz1 : (s.heap.push (sObj w)).objs.size = s.heap.objs.size + 1 := Heap.size_push ..
        have hneI : l ≠ (s.heap.push (sObj w)).objs.size := by
          rw [hz1]
          exact Nat.ne_of_lt (Nat.lt_succ_of_lt hlS)
        have hSf : s.heap.objs.size ∉ [(s.heap.push (sObj w)).objs.size, l] := by
          rw [hz1]
          simp only [List.mem_cons, List.not_mem_nil, or_false, not_or]
          exact ⟨Nat.ne_of_lt (Nat.lt_succ_self _), Nat.ne_of_gt hlS⟩
        have hval : ∀ (i : Nat) (v : Value), items[i]? = some v → ∃ k t, ns[i]? = some k ∧ v = .int k t := fun i v hv => by
          have hi : i < ns.length := by rw [← hsz]; exact (Array.getElem?_eq_some_iff.mp hv).1
          obtain ⟨t, e⟩ := PyProof.Rows.IntsAre.int_at hit i v (by rw [Array.getElem?_toList]; exact hv)
          refine ⟨ns[i], t, List.getElem?_eq_getElem hi, ?_⟩
          rw [e, List.getD_eq_getElem?_getD, List.getElem?_eq_getElem hi] <;> rfl
        refine set_update_ints ((Walks.list hh3 _ l hneI items).toS) s.heap.objs.size hSf ns hsz hb hval (items.size - 0) 0 _ (by omega) (Nat.zero_le _)
          ⟨⟨_, Heap.get?_push_size _ rfl, rfl, rfl⟩, (hl1.push _)⟩ ⟨0, Nat.le_refl 0, setR_new_at (Heap.get?_push_of_some _ hS)⟩ ?_
        intro s' c' hm hc' hS'
        obtain ⟨h', g2, d', tk', os'⟩ := s'
        cases (show g2 = s.gens from hm.gens)
        cases (show d' = s.drawn from hm.drawn)
        cases (show os' = s.os from hm.os)
        show wpAny _ _ _ _ _ _
        refine wpAny_pure ?_
        show wpAny _ _ (ret Value.none) _ _ _
        rw [hsz] at hc'
        refine wpAny_pure ⟨rfl, h', tk', c', rfl, hS', hc', fun b o e => ?_⟩
        have hb0 : b < s.heap.objs.size := Heap.lt_size e
        refine hm.heap b o ?_ (Heap.get?_push_of_some _ (Heap.get?_push_of_some _ e))
        simp only [List.mem_cons, List.not_mem_nil, or_false, not_or]
        rw [hz1]
        exact ⟨Nat.ne_of_lt hb0, Nat.ne_of_lt (Nat.lt_succ_of_lt hb0)⟩
      · cases r₂ with
        | error e => exact hr₂
        | ok fl₂ =>
          cases fl₂ with
          | ret r =>
            obtain ⟨rfl, h', tk, c', rfl, hS', hc', hk'⟩ := hr₂
            repeat (any_goals (first | assumption | wp_step))
            exact h _ _ _ hS' hc' hk'
          | _ => exact hr₂.elim
    | _ => exact hr.elim
end
def rSetI (K : PySem.W.Frag) (w : World) : List V → Hp → VK → Prop := fun vs H Q => ∃ (a : Addr) (ns : List Int), vs = [V.ref a] ∧ SqL K H a (ns.map V.int) ∧ ns.length ≤ 2000 ∧
  ∀ (p : Addr) (c : Nat), H p = none → c ≤ ns.length → Q (.ref p) (upd H p (SetO w p (fun j => decide (j ∈ ns)) c))
theorem cr_setI {X : Cx} (hc : X.calm = true) : CallR X (.type "set") (rSetI X.K X.w) := by
  intro pins s σ H xs us Q I r h
  obtain ⟨a, ns, rfl, hs, hz, q⟩ := h
  obtain rfl := Vals.ref1 r
  obtain ⟨its, rv, pl, _⟩ := I.list hs
  refine set_of_list ns (I.ok.hd hc) pl.isList (ints_of_vals rv) (by unfold scanBound; omega) fun h' tk c R hc' k => ?_
  exact ⟨.ref _, _, I.laid (t' := tk) k (Nat.le_refl _) (setO_new R), rfl, q _ c (I.hok.fresh (Nat.le_refl _)) hc'⟩
end K3
/-! Equality of lists of iL by values; comprehensions over lists, ranges, enumerate, zip whose heap only grows. -/
namespace K3
open PySem PySem.Spec PyProof.Rows L2
abbrev iL (ns : List Int) : List V := ns.map V.int

/-! ### equality -/
def dI (ns : List Int) : PyData := .list (ns.map PyData.int)
theorem eqvI : ∀ ns ms : List Int, PyData.eqvAll (ns.map PyData.int) (ms.map PyData.int) = decide (ns = ms)
  | [], [] => by simp [PyData.eqvAll]
  | [], m :: ms => by simp [PyData.eqvAll]
  | n :: ns, [] => by simp [PyData.eqvAll]
  | n :: ns, m :: ms => by
    have ih := eqvI ns ms
    simp only [List.map_cons, PyData.eqvAll, PyData.eqv, ih]
    by_cases h : n = m
    · subst h; simp
    · simp [h]
theorem eqv_dI (ns ms : List Int) : PyData.eqv (dI ns) (dI ms) = decide (ns = ms) := by
  unfold dI; simp only [PyData.eqv]; exact eqvI ns ms
theorem lay_ints : ∀ ns : List Int, PyData.canLayAll0 (ns.map PyData.int) = true
  | [] => by simp [PyData.canLayAll0]
  | n :: ns => by simp [PyData.canLayAll0, PyData.canLay0, lay_ints ns]
theorem dep_ints : ∀ ns : List Int, PyData.depthAll (ns.map PyData.int) = 0
  | [] => by simp [PyData.depthAll]
  | n :: ns => by simp [PyData.depthAll, PyData.depth, dep_ints ns]
theorem shaped_dI (ns : List Int) : SeqAt.shaped (dI ns) = true := by
  unfold SeqAt.shaped dI
  simp [PyData.canLay0, PyData.depth, lay_ints, dep_ints]
theorem dp_ints {K : PySem.W.Frag} {H : Hp} : ∀ ns : List Int, DpAll K H (iL ns) (ns.map PyData.int)
  | [] => .nil
  | n :: ns => .cons (.int n) (dp_ints ns)
theorem dp_dI {K : PySem.W.Frag} {H : Hp} {a : Addr} {ns : List Int} (h : SqL K H a (iL ns)) : Dp K H (.ref a) (dI ns) := .lst h (dp_ints ns)
section
variable {X : Cx}
theorem OpR.imp {f : Value → Value → Sem Value} {r r' : R2} (h : OpR X f r) (i : ∀ x y H Q, r' x y H Q → r x y H Q) : OpR X f r' :=
  fun pins s σ H x y v u Q I rx ry hq => h pins s σ H x y v u Q I rx ry (i x y H Q hq)
def rEqI (K : PySem.W.Frag) : R2 := fun x y H Q => ∃ a b ns ms, x = .ref a ∧ y = .ref b ∧ SqL K H a (iL ns) ∧ SqL K H b (iL ms) ∧ Q (.bl (decide (ns = ms))) H
def rNeI (K : PySem.W.Frag) : R2 := fun x y H Q => ∃ a b ns ms, x = .ref a ∧ y = .ref b ∧ SqL K H a (iL ns) ∧ SqL K H b (iL ms) ∧ Q (.bl (!decide (ns = ms))) H
theorem op_eqI (hu : X.A.units + 64 < cLine) : OpR X (compareOp .Eq) (rEqI X.K) := OpR.imp (op_eqD hu) fun x y H Q ⟨a, b, ns, ms, ex, ey, h1, h2, q⟩ => by
  subst ex; subst ey
  exact ⟨dI ns, dI ms, dp_dI h1, dp_dI h2, shaped_dI _, shaped_dI _, by rw [eqv_dI]; exact q⟩
theorem op_neI (hu : X.A.units + 64 < cLine) : OpR X (compareOp .NotEq) (rNeI X.K) := OpR.imp (op_neD hu) fun x y H Q ⟨a, b, ns, ms, ex, ey, h1, h2, q⟩ => by
  subst ex; subst ey
  exact ⟨dI ns, dI ms, dp_dI h1, dp_dI h2, shaped_dI _, shaped_dI _, by rw [eqv_dI]; exact q⟩
/-- two pairs of lists of iL -/
def rEqP (K : PySem.W.Frag) : R2 := fun x y H Q => ∃ t u a b c d ns ms js ks, x = .ref t ∧ y = .ref u ∧ SqT K H t [.ref a, .ref b] ∧ SqT K H u [.ref c, .ref d] ∧
  SqL K H a (iL ns) ∧ SqL K H b (iL ms) ∧ SqL K H c (iL js) ∧ SqL K H d (iL ks) ∧ Q (.bl (decide ((ns, ms) = (js, ks)))) H
theorem shaped_pair (ns ms : List Int) : SeqAt.shaped (.tuple [dI ns, dI ms]) = true := by
  unfold SeqAt.shaped dI
  simp [PyData.canLay0, PyData.canLayAll0, PyData.depth, PyData.depthAll, lay_ints, dep_ints]
theorem op_eqP (hu : X.A.units + 64 < cLine) : OpR X (compareOp .Eq) (rEqP X.K) := OpR.imp (op_eqD hu) fun x y H Q ⟨t, u, a, b, c, d, ns, ms, js, ks, ex, ey, h1, h2, h3, h4, h5, h6, q⟩ => by
  subst ex; subst ey
  refine ⟨.tuple [dI ns, dI ms], .tuple [dI js, dI ks], .tup h1 (.cons (dp_dI h3) (.cons (dp_dI h4) .nil)), .tup h2 (.cons (dp_dI h5) (.cons (dp_dI h6) .nil)), shaped_pair _ _, shaped_pair _ _, ?_⟩
  have e : PyData.eqv (.tuple [dI ns, dI ms]) (.tuple [dI js, dI ks]) = decide ((ns, ms) = (js, ks)) := by
    simp only [PyData.eqv, PyData.eqvAll, eqv_dI]
    by_cases h1 : ns = js <;> by_cases h2 : ms = ks <;> simp [h1, h2]
  rw [e]; exact q
/-- a list of lists of iL, not []: whether it is -/
def rNeN (K : PySem.W.Frag) : R2 := fun x y H Q => ∃ a b xs, x = .ref a ∧ y = .ref b ∧ SqL K H a xs ∧ SqL K H b [] ∧ (∀ v ∈ xs, ∃ p ns, v = .ref p ∧ SqL K H p (iL ns)) ∧ Q (.bl (!xs.isEmpty)) H
theorem dp_nest {K : PySem.W.Frag} {H : Hp} : ∀ xs : List V, (∀ v ∈ xs, ∃ p ns, v = .ref p ∧ SqL K H p (iL ns)) → ∃ nss : List (List Int), nss.length = xs.length ∧ DpAll K H xs (nss.map dI)
  | [], _ => ⟨[], rfl, .nil⟩
  | v :: r, h => by
    obtain ⟨nss, hl, hd⟩ := dp_nest r fun z hz => h z (List.mem_cons_of_mem _ hz)
    obtain ⟨p, ns, ev, hp⟩ := h v List.mem_cons_self
    subst ev
    exact ⟨ns :: nss, by simp [hl], .cons (dp_dI hp) hd⟩
theorem lay_nest : ∀ nss : List (List Int), PyData.canLayAll0 (nss.map dI) = true ∧ PyData.depthAll (nss.map dI) ≤ 1
  | [] => ⟨by simp [PyData.canLayAll0], by simp [PyData.depthAll]⟩
  | ns :: r => by
    obtain ⟨h1, h2⟩ := lay_nest r
    constructor
    · show (PyData.canLay0 (dI ns) && PyData.canLayAll0 (r.map dI)) = true
      rw [h1]
      simp [dI, PyData.canLay0, lay_ints]
    · simp only [List.map_cons, PyData.depthAll]
      have : PyData.depth (dI ns) = 1 := by simp [dI, PyData.depth, dep_ints]
      omega
theorem op_neN (hu : X.A.units + 64 < cLine) : OpR X (compareOp .NotEq) (rNeN X.K) := OpR.imp (op_neD hu) fun x y H Q ⟨a, b, xs, ex, ey, h1, h2, h3, q⟩ => by
  subst ex; subst ey
  obtain ⟨nss, hl, hd⟩ := dp_nest xs h3
  obtain ⟨l1, l2⟩ := lay_nest nss
  refine ⟨.list (nss.map dI), .list [], .lst h1 hd, .lst h2 .nil, ?_, by decide, ?_⟩
  · unfold SeqAt.shaped
    simp only [PyData.canLay0, PyData.depth, l1, Bool.true_and]
    exact decide_eq_true (by omega)
  · have e : PyData.eqv (.list (nss.map dI)) (.list []) = xs.isEmpty := by
      cases xs with
      | nil =>
        have : nss = [] := List.length_eq_zero_iff.mp hl
        subst this
        simp [PyData.eqv, PyData.eqvAll]
      | cons v r =>
        cases nss with
        | nil => cases hl
        | cons n ns => simp [PyData.eqv, PyData.eqvAll]
    rw [e]; exact q
end

/-! ### comprehensions: the heap only grows -/
def LcP (H1 : Hp) (D : Addr) (out : Nat → List V) (i : Nat) (H : Hp) : Prop := Same H1 H ∧ H D = some (.lst (out i))
theorem lc_put {H1 H : Hp} {D : Addr} {out : Nat → List V} {i : Nat} {y : V} (hD : H1 D = none) (s : Same H1 H) (e : H D = some (.lst (out i))) (hz : (out i).length < sizeLine) (ho : out (i + 1) = out i ++ [y]) :
    ∃ acc, H D = some (.lst acc) ∧ acc.length < sizeLine ∧ LcP H1 D out (i + 1) (upd H D (.lst (acc ++ [y]))) :=
  ⟨_, e, hz, fun b o q => by rw [upd_ne (ne_of_none q hD)]; exact s b o q, by rw [ho]; exact upd_same⟩
theorem lc_it {J : It} {g : TG} {tt : TT} {te : TE} {vs : List Nat} {σ : L2.St} {H1 : Hp} {D : Addr} {Qd : Hp → Prop} (n : Nat) (out : Nat → List V) (hD : H1 D = none) (h0 : out 0 = [])
    (hgo : ∀ i H, i < n → Same H1 H → J.go i H) (hst : ∀ H, Same H1 H → J.stop n H)
    (hs : ∀ i x H H', i < n → Same H1 H → H D = some (.lst (out i)) → J.yld i H x H' → g x (wipe σ vs) H' fun σ2 H2 => wipe σ2 vs = wipe σ vs ∧ tt σ2 H2 fun b H3 =>
      if b = true then te σ2 H3 fun y H4 => ∃ acc, H4 D = some (.lst acc) ∧ acc.length < sizeLine ∧ LcP H1 D out (i + 1) (upd H4 D (.lst (acc ++ [y]))) else LcP H1 D out (i + 1) H3)
    (hd : ∀ H, Same H1 H → H D = some (.lst (out n)) → Qd H) :
    ∃ W : Nat → Nat → Hp → Prop, (∃ m, W 0 m (upd H1 D (.lst []))) ∧ ∀ i m H, W i m H → (J.stop i H ∧ Qd H) ∨ (J.go i H ∧ ∃ Nx : Hp → Prop, (∀ H', Nx H' → ∃ m', m' < m ∧ W (i + 1) m' H') ∧
      ∀ x H', J.yld i H x H' → g x (wipe σ vs) H' fun σ2 H2 => wipe σ2 vs = wipe σ vs ∧ tt σ2 H2 fun b H3 => if b = true then te σ2 H3 fun y H4 => ∃ acc, H4 D = some (.lst acc) ∧ acc.length < sizeLine ∧ Nx (upd H4 D (.lst (acc ++ [y]))) else Nx H3) := by
  refine ⟨fun i m H => i ≤ n ∧ m = n - i ∧ LcP H1 D out i H, ⟨n, Nat.zero_le _, rfl, fun b o q => by rw [upd_ne (ne_of_none q hD)]; exact q, by rw [h0]; exact upd_same⟩, ?_⟩
  rintro i m H ⟨hi, rfl, s, e⟩
  by_cases c : i < n
  · refine .inr ⟨hgo i H c s, LcP H1 D out (i + 1), fun H' h => ⟨n - (i + 1), by omega, by omega, rfl, h⟩, fun x H' y => hs i x H H' c s e y⟩
  · have ei : i = n := by omega
    subst ei
    exact .inl ⟨hst H s, hd H s e⟩
/-- over a list -/
theorem lc_l {K : PySem.W.Frag} {a : Addr} {xs : List V} {g : TG} {tt : TT} {te : TE} {vs : List Nat} {σ : L2.St} {H1 : Hp} {D : Addr} {Qd : Hp → Prop} (out : Nat → List V) (hD : H1 D = none) (hx : SqL K H1 a xs) (h0 : out 0 = [])
    (hs : ∀ i x H, xs[i]? = some x → Same H1 H → H D = some (.lst (out i)) → g x (wipe σ vs) H fun σ2 H2 => wipe σ2 vs = wipe σ vs ∧ tt σ2 H2 fun b H3 =>
      if b = true then te σ2 H3 fun y H4 => ∃ acc, H4 D = some (.lst acc) ∧ acc.length < sizeLine ∧ LcP H1 D out (i + 1) (upd H4 D (.lst (acc ++ [y]))) else LcP H1 D out (i + 1) H3)
    (hd : ∀ H, Same H1 H → H D = some (.lst (out xs.length)) → Qd H) :
    ∃ W : Nat → Nat → Hp → Prop, (∃ m, W 0 m (upd H1 D (.lst []))) ∧ ∀ i m H, W i m H → ((Itl K a).stop i H ∧ Qd H) ∨ ((Itl K a).go i H ∧ ∃ Nx : Hp → Prop, (∀ H', Nx H' → ∃ m', m' < m ∧ W (i + 1) m' H') ∧
      ∀ x H', (Itl K a).yld i H x H' → g x (wipe σ vs) H' fun σ2 H2 => wipe σ2 vs = wipe σ vs ∧ tt σ2 H2 fun b H3 => if b = true then te σ2 H3 fun y H4 => ∃ acc, H4 D = some (.lst acc) ∧ acc.length < sizeLine ∧ Nx (upd H4 D (.lst (acc ++ [y]))) else Nx H3) :=
  lc_it (J := Itl K a) xs.length out hD h0 (fun i H hi s => ⟨xs, xs[i], s.seq hx, List.getElem?_eq_getElem hi⟩) (fun H s => ⟨xs, s.seq hx, Nat.le_refl _⟩)
    (fun i x H H' hi s e y => by
      obtain ⟨rfl, hy⟩ := y
      exact hs i x H' (hy xs (s.seq hx)) s e) hd
/-- over range(lo, lo + n) -/
theorem lc_r {lo : Int} {n : Nat} {g : TG} {tt : TT} {te : TE} {vs : List Nat} {σ : L2.St} {H1 : Hp} {D : Addr} {Qd : Hp → Prop} (out : Nat → List V) (hD : H1 D = none) (h0 : out 0 = [])
    (hs : ∀ i H, i < n → Same H1 H → H D = some (.lst (out i)) → g (.int (lo + (i : Nat))) (wipe σ vs) H fun σ2 H2 => wipe σ2 vs = wipe σ vs ∧ tt σ2 H2 fun b H3 =>
      if b = true then te σ2 H3 fun y H4 => ∃ acc, H4 D = some (.lst acc) ∧ acc.length < sizeLine ∧ LcP H1 D out (i + 1) (upd H4 D (.lst (acc ++ [y]))) else LcP H1 D out (i + 1) H3)
    (hd : ∀ H, Same H1 H → H D = some (.lst (out n)) → Qd H) :
    ∃ W : Nat → Nat → Hp → Prop, (∃ m, W 0 m (upd H1 D (.lst []))) ∧ ∀ i m H, W i m H → ((Itr lo n).stop i H ∧ Qd H) ∨ ((Itr lo n).go i H ∧ ∃ Nx : Hp → Prop, (∀ H', Nx H' → ∃ m', m' < m ∧ W (i + 1) m' H') ∧
      ∀ x H', (Itr lo n).yld i H x H' → g x (wipe σ vs) H' fun σ2 H2 => wipe σ2 vs = wipe σ vs ∧ tt σ2 H2 fun b H3 => if b = true then te σ2 H3 fun y H4 => ∃ acc, H4 D = some (.lst acc) ∧ acc.length < sizeLine ∧ Nx (upd H4 D (.lst (acc ++ [y]))) else Nx H3) :=
  lc_it (J := Itr lo n) n out hD h0 (fun i H hi _ => hi) (fun H _ => Nat.le_refl _) (fun i x H H' hi s e y => by
      obtain ⟨rfl, rfl⟩ := y
      exact hs i H' hi s e) hd
/-- over enumerate(list): each item comes in a new pair at T -/
theorem lc_e {K : PySem.W.Frag} {a : Addr} {xs : List V} {g : TG} {tt : TT} {te : TE} {vs : List Nat} {σ : L2.St} {H1 : Hp} {D : Addr} {Qd : Hp → Prop} (out : Nat → List V) (hD : H1 D = none) (hx : SqL K H1 a xs) (h0 : out 0 = [])
    (hs : ∀ i x T H, xs[i]? = some x → Same H1 H → H D = some (.lst (out i)) → H T = none → H (T) = none → g (.ref T) (wipe σ vs) (upd H T (.tup [.int (i : Nat), x])) fun σ2 H2 => wipe σ2 vs = wipe σ vs ∧ tt σ2 H2 fun b H3 =>
      if b = true then te σ2 H3 fun y H4 => ∃ acc, H4 D = some (.lst acc) ∧ acc.length < sizeLine ∧ LcP H1 D out (i + 1) (upd H4 D (.lst (acc ++ [y]))) else LcP H1 D out (i + 1) H3)
    (hd : ∀ H, Same H1 H → H D = some (.lst (out xs.length)) → Qd H) :
    ∃ W : Nat → Nat → Hp → Prop, (∃ m, W 0 m (upd H1 D (.lst []))) ∧ ∀ i m H, W i m H → ((Ite K a).stop i H ∧ Qd H) ∨ ((Ite K a).go i H ∧ ∃ Nx : Hp → Prop, (∀ H', Nx H' → ∃ m', m' < m ∧ W (i + 1) m' H') ∧
      ∀ x H', (Ite K a).yld i H x H' → g x (wipe σ vs) H' fun σ2 H2 => wipe σ2 vs = wipe σ vs ∧ tt σ2 H2 fun b H3 => if b = true then te σ2 H3 fun y H4 => ∃ acc, H4 D = some (.lst acc) ∧ acc.length < sizeLine ∧ Nx (upd H4 D (.lst (acc ++ [y]))) else Nx H3) :=
  lc_it (J := Ite K a) xs.length out hD h0 (fun i H hi s => ⟨xs, xs[i], s.seq hx, List.getElem?_eq_getElem hi⟩) (fun H s => ⟨xs, s.seq hx, Nat.le_refl _⟩)
    (fun i v H H' hi s e y => by
      obtain ⟨T, x, rfl, hT, rfl, hy⟩ := y
      exact hs i x T H (hy xs (s.seq hx)) s e hT hT) hd
/-- over zip of two lists: as long as the shorter one -/
theorem lc_z {K : PySem.W.Frag} {a b : Addr} {xs ys : List V} {g : TG} {tt : TT} {te : TE} {vs : List Nat} {σ : L2.St} {H1 : Hp} {D : Addr} {Qd : Hp → Prop} (out : Nat → List V) (hD : H1 D = none) (hx : SqL K H1 a xs) (hy : SqL K H1 b ys) (h0 : out 0 = [])
    (hs : ∀ i x y T H, xs[i]? = some x → ys[i]? = some y → Same H1 H → H D = some (.lst (out i)) → H T = none → g (.ref T) (wipe σ vs) (upd H T (.tup [x, y])) fun σ2 H2 => wipe σ2 vs = wipe σ vs ∧ tt σ2 H2 fun b H3 =>
      if b = true then te σ2 H3 fun y H4 => ∃ acc, H4 D = some (.lst acc) ∧ acc.length < sizeLine ∧ LcP H1 D out (i + 1) (upd H4 D (.lst (acc ++ [y]))) else LcP H1 D out (i + 1) H3)
    (hd : ∀ H, Same H1 H → H D = some (.lst (out (min xs.length ys.length))) → Qd H) :
    ∃ W : Nat → Nat → Hp → Prop, (∃ m, W 0 m (upd H1 D (.lst []))) ∧ ∀ i m H, W i m H → ((Itz K a b).stop i H ∧ Qd H) ∨ ((Itz K a b).go i H ∧ ∃ Nx : Hp → Prop, (∀ H', Nx H' → ∃ m', m' < m ∧ W (i + 1) m' H') ∧
      ∀ x H', (Itz K a b).yld i H x H' → g x (wipe σ vs) H' fun σ2 H2 => wipe σ2 vs = wipe σ vs ∧ tt σ2 H2 fun b H3 => if b = true then te σ2 H3 fun y H4 => ∃ acc, H4 D = some (.lst acc) ∧ acc.length < sizeLine ∧ Nx (upd H4 D (.lst (acc ++ [y]))) else Nx H3) :=
  lc_it (J := Itz K a b) (min xs.length ys.length) out hD h0
    (fun i H hi s => ⟨xs, ys, xs[i]'(by omega), ys[i]'(by omega), s.seq hx, s.seq hy, List.getElem?_eq_getElem (by omega), List.getElem?_eq_getElem (by omega)⟩)
    (fun H s => ⟨xs, ys, s.seq hx, s.seq hy, by omega⟩)
    (fun i v H H' hi s e w => by
      obtain ⟨T, x, y, rfl, hT, rfl, h1, h2⟩ := w
      exact hs i x y T H (h1 xs (s.seq hx)) (h2 ys (s.seq hy)) s e hT) hd
/-! ### heaps that grow -/
theorem Same.new {H H' : Hp} {p : Addr} {o : HO} (s : Same H H') (hp : H' p = none) : Same H (upd H' p o) := fun b u e => by rw [upd_ne (ne_of_none (s b u e) hp)]; exact s b u e
theorem same_new {H : Hp} {p : Addr} {o : HO} (hp : H p = none) : Same H (upd H p o) := Same.new (Same.refl H) hp
theorem Same.at {H H' : Hp} {p : Addr} {o : HO} (s : Same H H') (e : H p = some o) : H' p = some o := s p o e
theorem Same.none {H H' : Hp} (s : Same H H') {p : Addr} (e : H' p = none) : H p = none := s.free e
theorem Same.tup {K : PySem.W.Frag} {H H' : Hp} (s : Same H H') {a : Addr} {xs : List V} (h : SqT K H a xs) : SqT K H' a xs := by
  rcases h with (h | ⟨o, h⟩) | h
  · exact .inl (.inl (s _ _ h))
  · exact .inl (.inr ⟨o, s _ _ h⟩)
  · exact .inr h
theorem new_ne {H : Hp} {p : Addr} {o : HO} {b : Addr} {u : HO} (e : H b = some u) (hp : H p = none) : upd H p o b = some u := by rw [upd_ne (ne_of_none e hp)]; exact e
theorem none_ne {H : Hp} {p : Addr} {o : HO} {b : Addr} (e : upd H p o b = none) : H b = none ∧ b ≠ p := by
  by_cases h : b = p
  · subst h; rw [upd_same] at e; cases e
  · rw [upd_ne h] at e; exact ⟨e, h⟩
theorem small_line {n : Nat} (h : n ≤ 100000) : n < sizeLine := Nat.lt_of_le_of_lt h (by decide)
end K3
/-! The text by places, what the top leaves, the promises. -/
namespace K3
open PySem PySem.Spec PyProof.Rows L2

/-! ### the text by places -/
def top (i : Nat) : Stmt := PySem.Challenge.pw_colonnade_k03_links.main.body.getD i (.Pass ⟨0, 0, 0, 0⟩)
abbrev sChain : Stmt := inClass (top 4) 0
abbrev sLong : Stmt := top 7
abbrev sPartN : Stmt := top 8
abbrev sCells : Stmt := top 9
abbrev cP (i : Nat) : Stmt := inClass (top (10 + i)) 2
abbrev cO (i : Nat) : Stmt := inClass (top (10 + i)) 3
abbrev cI (i : Nat) : Stmt := inClass (top (10 + i)) 4
abbrev cJ (i : Nat) : Stmt := inClass (top (10 + i)) 5
abbrev sNamed : Stmt := top 15
abbrev sDigits : Stmt := top 17
abbrev sDraw : Stmt := top 18
abbrev sNumber : Stmt := top 19
abbrev sRow : Stmt := top 20
abbrev sParted : Stmt := top 21
abbrev sJoined : Stmt := top 22
abbrev sOwn : Stmt := top 23
abbrev sInt : Stmt := top 24
abbrev sInts : Stmt := top 25
abbrev sBent : Stmt := top 26
abbrev sJoin : Stmt := top 27
abbrev sCount : Stmt := top 28
abbrev sParts : Stmt := top 29
abbrev sLink : Stmt := top 30
abbrev sRefused : Stmt := top 31
abbrev sClasses : Stmt := top 32
abbrev sLaw : Stmt := top 33

/-! ### the five by name -/
def nm : Lk → Str
  | .li => "" | .ru => "runs" | .st => "steps" | .ba => "base" | .pi => "pick"
def kps : Lk → Str
  | .li => "value" | .ru => "value" | .st => "none" | .ba => "distance" | .pi => "order"
def cn : Lk → Str
  | .li => "Link" | .ru => "Runs" | .st => "Steps" | .ba => "Base" | .pi => "Pick"
theorem nm_ne {a b : Lk} (h : a ≠ b) : nm a ≠ nm b := by
  cases a <;> cases b <;> first | exact absurd rfl h | (show ¬ _ ; decide +kernel)
theorem nm_dec (a b : Lk) : decide (V.str (nm a) = V.str (nm b)) = decide (a = b) := by
  by_cases h : a = b
  · subst h; simp
  · rw [decide_eq_false h, decide_eq_false fun e => nm_ne h (V.str.inj e)]

/-! ### what stands where -/
structure Ad where
  CE : Addr
  CU : Addr
  CB : Addr
  CT : Addr
  fT : Addr
  C : Lk → Addr
/-- the built-ins are still the built-ins -/
structure Bl (mg : Str → Option Value) : Prop where
  len : mg "len" = none
  list : mg "list" = none
  min : mg "min" = none
  sum : mg "sum" = none
  any : mg "any" = none
  all : mg "all" = none
  zip : mg "zip" = none
  enumerate : mg "enumerate" = none
  range : mg "range" = none
  sorted : mg "sorted" = none
  set : mg "set" = none
  isinstance : mg "isinstance" = none
  int : mg "int" = none
  bool : mg "bool" = none
  tuple : mg "tuple" = none
  abs : mg "abs" = none
/-- BadCells -/
structure ErrB (K : PySem.W.Frag) (mg : Str → Option Value) (CB : Addr) : Prop where
  x : PySem.W.excIn K CB [.type "ValueError", .type "Exception", .type "BaseException", .type "object"] "ValueError.__new__" = true
  g : mg "BadCells" = some (.ref CB)
  k : PySem.W.keepIn K (.ref CB) = true
  b : PySem.W.subIn K (.ref CB) (.type "BaseException") = some true
  t : PySem.W.typeIn K (.ref CB) = some (.type "type")
theorem ErrB.r {X : Cx} {CB : Addr} (T : ErrB X.K X.mg CB) : Raises X (.ref CB) := raises_own T.b T.t

/-! ### promises held -/
section
variable (P : Program) (w : World) (K : PySem.W.Frag) (mg : Str → Option Value) (base : Heap)
/-- a def of the module that lets nothing out -/
def Fc (j : Nat) (x : Str) (sp : Sp) : Prop := ∃ f fd ps, mg x = some (.ref f) ∧ PySem.W.keepIn K (.ref f) = true ∧ Binds K fd ps [] ∧ FnOk P w K mg base CX0 j f fd ps sp
/-- .. that may raise -/
def Fx (j : Nat) (x : Str) (sp : Sp) : Prop := ∃ f fd ps, mg x = some (.ref f) ∧ PySem.W.keepIn K (.ref f) = true ∧ Binds K fd ps [] ∧ FnOk P w K mg base (L2.CX P w) j f fd ps sp
/-- a method of the class at C that may raise -/
def Mx (j : Nat) (C : Addr) (m : Str) (sp : Sp) : Prop := ∃ f fd ps, Meth K C m f ∧ Binds K fd ps [] ∧ FnOk P w K mg base (L2.CX P w) j f fd ps sp
end
section
variable {X : Cx} {j : Nat} {x m : Str} {sp : Sp} {p pos apos : Pos} {e o : Expr} {es : List Expr} {t : TA} {ta : TE}
theorem pc (c : Fc X.prog X.w X.K X.mg X.base j x sp) (hr : Room j X.A) (ha : PA X (e :: es) t) (hg : Gl X x := by rfl) (hdb : (x == ("__debug__" : Str)) = false := by decide)
    (he : starEach (e :: es) X.env = (false, eval e X.env) :: starEach es X.env := by rfl) (hpl : (backTo pos (starEach es X.env)).any (·.1) = false := by rfl) :
    PE X (.Call (.Name x p) (e :: es) [] pos) (tCallS sp (fun _ => E0) t) := by
  obtain ⟨f, fd, ps, hm, hk, hb, F⟩ := c
  exact pe_callS F hr hg hm hk hb (fun _ _ _ _ _ _ _ h => h.elim) ha hdb he hpl
theorem pcx {W : WX} (c : Fx X.prog X.w X.K X.mg X.base j x sp) (hr : Room j X.A) (tk : Takes X W) (ha : PA X (e :: es) t) (hg : Gl X x := by rfl) (hdb : (x == ("__debug__" : Str)) = false := by decide)
    (he : starEach (e :: es) X.env = (false, eval e X.env) :: starEach es X.env := by rfl) (hpl : (backTo pos (starEach es X.env)).any (·.1) = false := by rfl) :
    PE X (.Call (.Name x p) (e :: es) [] pos) (tCallS sp (WE W) t) := by
  obtain ⟨f, fd, ps, hm, hk, hb, F⟩ := c
  exact pe_callS F hr hg hm hk hb (fun σ => passAt tk σ) ha hdb he hpl
theorem pmx {W : WX} {C : Addr} {pl : Sem Bool} (c : Mx X.prog X.w X.K X.mg X.base j C m sp) (cl : Cls X.K C) (hr : Room j X.A) (tk : Takes X W) (ho : PE X o ta) (ha : PA X (e :: es) t)
    (hst : starEach (e :: es) X.env = (false, eval e X.env) :: starEach es X.env := by rfl) (hpl : (backTo pos (starEach es X.env)).any (·.1) = false := by rfl)
    (ht : eval (.Call (.Attribute o m apos) (e :: es) [] pos) X.env = (do
      let ov ← eval o X.env
      standAt apos.atName
      let (f, first) ← holding [ov] (getMethod ov m pl)
      callWith pos f first (backTo pos (starEach (e :: es) X.env)) (backToKw pos (keywordEach [] X.env))) := by rfl) :
    PE X (.Call (.Attribute o m apos) (e :: es) [] pos) (tMethW C m sp (WE W) ta t) := by
  obtain ⟨f, fd, ps, hm, hb, F⟩ := c
  exact pe_methW (pl := pl) ho cl hm F hr hb (fun σ => passAt tk σ) ha hst hpl ht
end

/-! ### promises -/
section
variable (K : PySem.W.Frag) (A : Ad)
/-- two new lists in a new pair -/
def rPair (H : Hp) (Q : VK) (ab : List Int × List Int) : Prop := ∀ (H' : Hp) (t p q : Addr), Same H H' → H t = none → H p = none → H q = none → p ≠ q →
  H' t = some (.tup [.ref p, .ref q]) → H' p = some (.lst (iL ab.1)) → H' q = some (.lst (iL ab.2)) → Q (.ref t) H'
/-- a new list -/
def rNew (H : Hp) (Q : VK) (ns : List Int) : Prop := ∀ (H' : Hp) (p : Addr), Same H H' → H p = none → H' p = some (.lst (iL ns)) → Q (.ref p) H'
def rVal (H : Hp) (Q : VK) (v : V) : Prop := ∀ H' : Hp, Same H H' → Q v H'
def spLong : Sp := fun vs H Q E => ∃ n : Int, vs = [.int n] ∧ (n > 999 → E (.ref A.CB) none H) ∧ (¬ n > 999 → Q .non H)
def spPartN : Sp := fun vs H Q E => ∃ (a : Addr) (cs : List Int), vs = [.ref a] ∧ SqL K H a (iL cs) ∧ (∀ n, pcount .ru cs = some n → Q (.int n) H) ∧ (pcount .ru cs = none → E (.ref A.CB) none H)
def spCells : Sp := fun vs H Q E => ∃ (a : Addr) (own : List Int), vs = [.ref a] ∧ SqL K H a (iL own) ∧ (∀ ls, cells? own = some ls → rNew H Q ls) ∧ (cells? own = none → E (.ref A.CB) none H)
def spPart (k : Lk) : Sp := fun vs H Q _ => ∃ (v : V) (a : Addr) (row : List Int), vs = [v, .ref a] ∧ SqL K H a (iL row) ∧ row ≠ [] ∧ row.length ≤ 60 ∧ rPair H Q (parted k row)
def spCnt (k : Lk) : Sp := fun vs H Q E => ∃ (v : V) (a : Addr) (cs : List Int), vs = [v, .ref a] ∧ SqL K H a (iL cs) ∧ (∀ n, pcount k cs = some n → Q (.int n) H) ∧ (pcount k cs = none → E (.ref A.CB) none H)
def spInn (k : Lk) : Sp := fun vs H Q _ => ∃ (v : V) (a : Addr) (own : List Int) (many : Int), vs = [v, .ref a, .int many] ∧ SqL K H a (iL own) ∧ (k = .ru → own ≠ []) ∧ Q (.int (icount k own many)) H
def spJn (k : Lk) : Sp := fun vs H Q E => ∃ (v : V) (a b : Addr) (own inner : List Int), vs = [v, .ref a, .ref b] ∧ SqL K H a (iL own) ∧ SqL K H b (iL inner) ∧ own.length ≤ 60 ∧ inner.length ≤ 60 ∧
  (∀ r, pjoin k own inner = some r → rNew H Q r) ∧ (pjoin k own inner = none → ∀ H', Same H H' → E (.ref A.CB) none H')
/-- an instance of the class of k at x; its own dict -/
def rInst (H : Hp) (Q : VK) (k : Lk) : Prop := ∀ x dx, H x = none → H dx = none → dx ≠ x → Q (.ref x) (upd (upd H dx (.own x)) x (.ins (A.C k) dx []))
def spNamed : Sp := fun vs H Q E => ∃ z : Str, vs = [.str z] ∧ ((∃ k : Lk, k ≠ .li ∧ z = nm k ∧ rInst A H Q k) ∨
  ((∀ k : Lk, k ≠ .li → z ≠ nm k) ∧ ∀ (H' : Hp) (d : Addr), Same H H' → H d = none → H' d = some (.xd [("text", .str z)]) → E (.ref A.CT) (some d) H'))
/-! the law's own -/
def Pool (pool : List Int) : Prop := ∀ x ∈ pool, 0 ≤ x ∧ x < 10 ^ 60
/-- all but the list at a stands as it stood -/
def SB (a : Addr) (H H' : Hp) : Prop := ∀ b o, b ≠ a → H b = some o → H' b = some o
def spDigits : Sp := fun vs H Q _ => ∃ (a : Addr) (ns : List Int), vs = [.ref a] ∧ SqL K H a (iL ns) ∧ ns.length ≤ 63 ∧ ∀ pool, Pool pool → rNew H Q pool
/-- the pool at a; whatever comes, it is from 0 to below many -/
def rDrawn (a : Addr) (H : Hp) (Q : VK) (C : Int → Prop) : Prop := ∀ (v : Int) (pool : List Int) (H' : Hp), C v → Pool pool → SB a H H' → H' a = some (.lst (iL pool)) → Q (.int v) H'
def spDraw : Sp := fun vs H Q _ => ∃ (a : Addr) (pool : List Int) (many : Int), vs = [.ref a, .int many] ∧ H a = some (.lst (iL pool)) ∧ Pool pool ∧ 0 < many ∧ many < 2 ^ 40 ∧ rDrawn a H Q fun v => 0 ≤ v ∧ v < many
def spNumber : Sp := fun vs H Q _ => ∃ (a : Addr) (pool : List Int) (k : Int), vs = [.ref a, .int k] ∧ H a = some (.lst (iL pool)) ∧ Pool pool ∧ 0 ≤ k ∧ rDrawn a H Q fun _ => True
def spRow : Sp := fun vs H Q _ => ∃ (a : Addr) (pool : List Int), vs = [.ref a] ∧ H a = some (.lst (iL pool)) ∧ Pool pool ∧
  ∀ (row pool' : List Int) (p : Addr) (H' : Hp), 1 ≤ row.length → row.length ≤ 14 → Pool pool' → SB a H H' → H' a = some (.lst (iL pool')) → p ≠ a → H p = none → H' p = some (.lst (iL row)) → Q (.ref p) H'
def spParted : Sp := fun vs H Q _ => ∃ (k : Lk) (a : Addr) (row : List Int), vs = [.str (nm k), .ref a] ∧ SqL K H a (iL row) ∧ row ≠ [] ∧ row.length ≤ 1000 ∧ (k = .pi → row.length ≤ 60) ∧ rPair H Q (parted k row)
/-- how large what is joined may be -/
def Small (k : Lk) (own inner : List Int) : Prop := own.length ≤ 60 ∧ inner.length ≤ 60 ∧ (k = .ru → ∀ x ∈ own, -2000 ≤ x ∧ x ≤ 2000)
def spJoined : Sp := fun vs H Q _ => ∃ (k : Lk) (a b : Addr) (own inner : List Int), vs = [.str (nm k), .ref a, .ref b] ∧ SqL K H a (iL own) ∧ SqL K H b (iL inner) ∧ Small k own inner ∧ rNew H Q (ljoin k own inner)
def spOwn : Sp := fun vs H Q _ => ∃ (k : Lk) (a : Addr) (cs : List Int), vs = [.str (nm k), .ref a] ∧ SqL K H a (iL cs) ∧ rVal H Q (.int (lcount k cs))
def spInt : Sp := fun vs H Q _ => ∃ a b : Int, vs = [.int a, .int b] ∧ Q (.bl (decide (a = b))) H
def spInts : Sp := fun vs H Q _ => ∃ (a b : Addr) (ns ms : List Int), vs = [.ref a, .ref b] ∧ H a = some (.lst (iL ns)) ∧ SqL K H b (iL ms) ∧ ms.length ≤ 1000 ∧ rVal H Q (.bl (decide (ns = ms)))
def bent (kind at_ step : Int) (row : List Int) : List Int :=
  let i := (at_ % ((row.length : Int) + 1)).toNat
  if kind = 0 then row.take i ++ [step] ++ row.drop i
  else if kind = 1 ∨ i = row.length then row.take i ++ row.drop (i + 1)
  else row.take i ++ [row.getD i 0 + step] ++ row.drop (i + 1)
def spBent : Sp := fun vs H Q _ => ∃ (b a : Addr) (kind at_ step : Int) (row : List Int), vs = [.ref b, .ref a] ∧ SqL K H b (iL [kind, at_, step]) ∧ SqL K H a (iL row) ∧ row.length ≤ 1000 ∧ rNew H Q (bent kind at_ step row)
def spJoin : Sp := fun vs H Q _ => ∃ (k : Lk) (x dx a b : Addr) (own inner : List Int), vs = [.ref x, .str (nm k), .ref a, .ref b] ∧ H x = some (.ins (A.C k) dx []) ∧ SqL K H a (iL own) ∧ SqL K H b (iL inner) ∧ Small k own inner ∧ rVal H Q (.bl true)
def spCount : Sp := fun vs H Q _ => ∃ (k : Lk) (x dx a : Addr) (cs : List Int), vs = [.ref x, .str (nm k), .ref a] ∧ H x = some (.ins (A.C k) dx []) ∧ SqL K H a (iL cs) ∧ rVal H Q (.bl true)
def spParts : Sp := fun vs H Q _ => ∃ (k : Lk) (x dx a : Addr) (row : List Int), vs = [.ref x, .str (nm k), .ref a] ∧ H x = some (.ins (A.C k) dx []) ∧ SqL K H a (iL row) ∧ row ≠ [] ∧ row.length ≤ 14 ∧ rVal H Q (.bl true)
/-- two bends -/
def Bends (H : Hp) (b : Addr) : Prop := ∃ (b0 b1 : Addr) (k0 a0 s0 k1 a1 s1 : Int), H b = some (.lst [.ref b0, .ref b1]) ∧ H b0 = some (.lst (iL [k0, a0, s0])) ∧ H b1 = some (.lst (iL [k1, a1, s1])) ∧ -2 ≤ s0 ∧ s0 ≤ 2 ∧ -2 ≤ s1 ∧ s1 ≤ 2
/-- a pair of two lists -/
def TwoL (H : Hp) (t : Addr) : Prop := ∃ (p q : Addr) (ns ms : List Int), H t = some (.tup [.ref p, .ref q]) ∧ H p = some (.lst (iL ns)) ∧ H q = some (.lst (iL ms)) ∧ ns.length ≤ 10 ∧ ms.length ≤ 10 ∧ ∀ x ∈ ns, -2000 ≤ x ∧ x ≤ 2000
def Drawn2 (H : Hp) (d : Addr) : Prop := ∃ t0 t1 : Addr, H d = some (.lst [.ref t0, .ref t1]) ∧ TwoL H t0 ∧ TwoL H t1
def spLink : Sp := fun vs H Q _ => ∃ (k : Lk) (x dx a b d : Addr) (row : List Int), vs = [.ref x, .str (nm k), .ref a, .ref b, .ref d] ∧ H x = some (.ins (A.C k) dx []) ∧ SqL K H a (iL row) ∧ row ≠ [] ∧ row.length ≤ 14 ∧
  Bends H b ∧ Drawn2 H d ∧ rVal H Q (.bl true)
def spRefused : Sp := fun vs H Q _ => ∃ z : Str, vs = [.str z] ∧ (∀ k : Lk, k ≠ .li → z ≠ nm k) ∧ rVal H Q (.bl true)
def spClasses : Sp := fun vs H Q _ => vs = [] ∧ rVal H Q (.bl true)
def spLaw : Sp := fun vs H Q _ => ∃ (a : Addr) (ns : List Int), vs = [.ref a] ∧ SqL K H a (iL ns) ∧ ns.length ≤ 63 ∧ ∀ H', Q (.bl true) H'
end
end K3
namespace K3
open PySem PySem.Spec PyProof.Rows L2
theorem if_t {c : Bool} {A B : Prop} (hc : c = true) (h : A) : if c = true then A else B := by rw [if_pos hc]; exact h
theorem if_f {c : Bool} {A B : Prop} (hc : c = false) (h : B) : if c = true then A else B := by rw [hc]; exact iteF h
section
variable {P : Program} {w : World} {K : PySem.W.Frag} {mg : Str → Option Value} {base : Heap} {A : Ad}
theorem scLong : FnScope ["many"] ["many"] (defScope sLong) := ⟨rfl, rfl, rfl, by decide +kernel, rfl, by decide +kernel, by decide +kernel⟩
theorem ok_long {f : Addr} {fd : FuncData} {t : Tok} (F : Fun K "refuse_long" "refuse_long" sLong f fd) (T : ErrB K mg A.CB) (gM : mg "MOST_NUMBERS" = some (.int 999 t)) : FnOk P w K mg base (L2.CX P w) 1 f fd ["many"] (spLong A) := by
  refine F.okX scLong (fun vs H Q E h => ?_) (fun cdv Ar outer s H vs Q E hr h => ?_)
  · obtain ⟨n, rfl, _⟩ := h
    rfl
  · obtain ⟨n, rfl, kE, kQ⟩ := h
    refine ⟨_, pss_one (ps_if (pt_cmpR op_gt (pv 0) (pe_glob (v := .int 999) rfl gM ⟨_, rfl⟩) (nomark _))
      (pss_one (ps_raise rfl (takes_of rfl rfl rfl rfl) (pmk_bare PySem.F.excBase_ValueError T.x T.g T.k T.r))) pss_nil), ?_⟩
    refine ⟨_, rfl, _, _, rfl, rfl, _, rfl, ?_⟩
    by_cases c : n > 999
    · exact if_t (decide_eq_true c) (kE c)
    · exact if_f (decide_eq_false c) (kQ c)
/-- «not xs or xs[0] < 1 or ..»: its first two tests -/
theorem pcount_ru {cs : List Int} : pcount .ru cs = (match cs with | [] => none | c :: r => if c < 1 ∨ (r.length : Int) + 1 ≤ c then none else some (c + 1)) := by cases cs <;> rfl
theorem scPartN : FnScope ["cells"] ["cells"] (defScope sPartN) := ⟨rfl, rfl, rfl, by decide +kernel, rfl, by decide +kernel, by decide +kernel⟩
theorem ok_partN {f : Addr} {fd : FuncData} (F : Fun K "counted_part" "counted_part" sPartN f fd) (T : ErrB K mg A.CB) (B : Bl mg) : FnOk P w K mg base (L2.CX P w) 1 f fd ["cells"] (spPartN K A) := by
  refine F.okX scPartN (fun vs H Q E h => ?_) (fun cdv Ar outer s H vs Q E hr h => ?_)
  · obtain ⟨a, cs, rfl, _⟩ := h
    rfl
  · obtain ⟨a, cs, rfl, hS, kQ, kE⟩ := h
    refine ⟨_, pss_cons (ps_if (PW.pt (pw_or (pt_not (pt_truth (pv 0) (by intro _; rfl))) (pw_or (pt_cmpR op_lt (pe_ix ix_list (pv 0) pe_int (fun _ _ => rfl)) pe_int (nomark _))
        (pw_or1 (pt_cmpR op_ge (pe_ix ix_list (pv 0) pe_int (fun _ _ => rfl)) (pe_callB call_len_seq (by rfl) B.len PySem.boot_len (pa_cons (pv 0) pa_nil)) (nomark _))))))
      (pss_one (ps_raise rfl (takes_of rfl rfl rfl rfl) (pmk_bare PySem.F.excBase_ValueError T.x T.g T.k T.r))) pss_nil)
      (pss_one (ps_ret (pe_op op_add (pe_ix ix_list (pv 0) pe_int (fun _ _ => rfl)) pe_int))), ?_⟩
    refine ⟨_, rfl, _, .inl ⟨_, hS, rfl⟩, ?_⟩
    cases cs with
    | nil => exact iteT (iteT (kE rfl))
    | cons c r =>
      refine iteF ⟨_, rfl, a, _, 0, _, rfl, rfl, hS, atI_nat (j := 0) rfl, _, _, rfl, rfl, _, rfl, ?_⟩
      by_cases h1 : c < 1
      · exact if_t (decide_eq_true h1) (iteT (kE (by rw [pcount_ru]; exact if_pos (.inl h1))))
      · refine if_f (decide_eq_false h1) ⟨_, rfl, a, _, 0, _, rfl, rfl, hS, atI_nat (j := 0) rfl, _, rfl, a, _, rfl, .inl hS, _, _, rfl, rfl, _, rfl, ?_⟩
        have el : ((iL (c :: r)).length : Int) = (r.length : Int) + 1 := by rw [List.length_map, List.length_cons]; omega
        by_cases h2 : (r.length : Int) + 1 ≤ c
        · exact if_t (decide_eq_true (by rw [el]; exact h2)) (kE (by rw [pcount_ru]; exact if_pos (.inr h2)))
        · refine if_f (decide_eq_false (by rw [el]; exact h2)) ?_
          exact ⟨_, rfl, a, _, 0, _, rfl, rfl, hS, atI_nat (j := 0) rfl, _, _, rfl, rfl, kQ _ (by rw [pcount_ru]; exact if_neg (by omega))⟩
theorem scCells : FnScope ["own"] ["own"] (defScope sCells) := ⟨rfl, rfl, rfl, by decide +kernel, rfl, by decide +kernel, by decide +kernel⟩
theorem cut_from1 (c : Int) (r : List Int) : cutV (iL (c :: r)) (some 1) none = iL r := by
  unfold cutV
  rw [show (1 : Int) = ((1 : Nat) : Int) from rfl, HT.sIx_nat, HT.sIx_none]
  have e : min 1 (iL (c :: r)).length = 1 := by simp
  rw [e]
  show (iL r).take _ = _
  exact List.take_of_length_le (by simp)
theorem ok_cells {f : Addr} {fd : FuncData} (F : Fun K "counted_cells" "counted_cells" sCells f fd) (T : ErrB K mg A.CB) (B : Bl mg) : FnOk P w K mg base (L2.CX P w) 1 f fd ["own"] (spCells K A) := by
  refine F.okX scCells (fun vs H Q E h => ?_) (fun cdv Ar outer s H vs Q E hr h => ?_)
  · obtain ⟨a, cs, rfl, _⟩ := h
    rfl
  · obtain ⟨a, cs, rfl, hS, kQ, kE⟩ := h
    refine ⟨_, pss_cons (ps_if (PW.pt (pw_or (pt_not (pt_truth (pv 0) (by intro _; rfl))) (pw_or (pt_cmpR op_lt (pe_ix ix_list (pv 0) pe_int (fun _ _ => rfl)) pe_int (nomark _))
        (pw_or1 (pt_cmpR op_ne (pe_ix ix_list (pv 0) pe_int (fun _ _ => rfl)) (pe_op op_sub (pe_callB call_len_seq (by rfl) B.len PySem.boot_len (pa_cons (pv 0) pa_nil)) pe_int) (nomark _))))))
      (pss_one (ps_raise rfl (takes_of rfl rfl rfl rfl) (pmk_bare PySem.F.excBase_ValueError T.x T.g T.k T.r))) pss_nil)
      (pss_one (ps_ret (pe_slice sl_list (pv 0) (po_some pe_int) po_none))), ?_⟩
    refine ⟨_, rfl, _, .inl ⟨_, hS, rfl⟩, ?_⟩
    cases cs with
    | nil => exact iteT (iteT (kE rfl))
    | cons c r =>
      refine iteF ⟨_, rfl, a, _, 0, _, rfl, rfl, hS, atI_nat (j := 0) rfl, _, _, rfl, rfl, _, rfl, ?_⟩
      by_cases h1 : c < 1
      · exact if_t (decide_eq_true h1) (iteT (kE (by show (if _ then _ else _) = _; exact if_pos (.inl h1))))
      · refine if_f (decide_eq_false h1) ⟨_, rfl, a, _, 0, _, rfl, rfl, hS, atI_nat (j := 0) rfl, _, rfl, a, _, rfl, .inl hS, _, _, rfl, rfl, rfl, _, rfl, ?_⟩
        have el : ((iL (c :: r)).length : Int) - 1 = (r.length : Int) := by rw [List.length_map, List.length_cons]; omega
        by_cases h2 : c = r.length
        · refine if_f (by rw [decide_eq_true (by show V.int c = V.int (((iL (c :: r)).length : Int) - 1); rw [el, h2])]; rfl) ?_
          refine ⟨_, rfl, _, rfl, a, _, rfl, hS, fun p hp => ?_⟩
          rw [cut_from1]
          exact kQ r (by show (if _ then _ else _) = _; exact if_neg (by omega)) _ p (same_new hp) hp upd_same
        · refine if_t (by rw [decide_eq_false (by show ¬ V.int c = V.int (((iL (c :: r)).length : Int) - 1); rw [el]; exact fun q => h2 (V.int.inj q))]; rfl) ?_
          exact kE (by show (if _ then _ else _) = _; exact if_pos (.inr h2))
end
end K3
/-! Plain facts that the walks lean on. -/
namespace K3
open PySem L2
theorem iL_at {ns : List Int} {i : Nat} {x : V} (h : (iL ns)[i]? = some x) : ∃ z, ns[i]? = some z ∧ x = .int z := by
  rw [List.getElem?_map] at h
  cases e : ns[i]? with
  | none => rw [e] at h; cases h
  | some z => rw [e] at h; exact ⟨z, rfl, (Option.some.inj h).symm⟩
theorem iL_get {ns : List Int} {i : Nat} {z : Int} (h : ns[i]? = some z) : (iL ns)[i]? = some (.int z) := by
  rw [List.getElem?_map, h]; rfl
theorem iL_len (ns : List Int) : (iL ns).length = ns.length := List.length_map _
theorem take_snoc {α : Type} {l : List α} {i : Nat} {z : α} (h : l[i]? = some z) : l.take (i + 1) = l.take i ++ [z] := by
  rw [List.take_add_one, h]; rfl
theorem iL_take_snoc {l : List Int} {i : Nat} {z : Int} (h : l[i]? = some z) : iL (l.take (i + 1)) = iL (l.take i) ++ [.int z] := by
  rw [take_snoc h]; exact List.map_append
theorem iL_app (a b : List Int) : iL (a ++ b) = iL a ++ iL b := List.map_append
theorem lt_of_get {α : Type} {l : List α} {i : Nat} {z : α} (h : l[i]? = some z) : i < l.length := (List.getElem?_eq_some_iff.mp h).1
theorem get_of_lt {l : List Int} {i : Nat} (h : i < l.length) : ∃ z, l[i]? = some z := ⟨l[i], List.getElem?_eq_getElem h⟩

/-! ### where the runs start -/
def isSt (l : List Int) (i : Nat) : Bool := decide (i = 0) || decide (l[i - 1]? ≠ l[i]?)
def starts (l : List Int) : List Int := ((List.range l.length).filter (isSt l)).map fun (i : Nat) => (i : Int)
theorem isSt_app {l : List Int} {x : Int} {i : Nat} (h : i < l.length) : isSt (l ++ [x]) i = isSt l i := by
  unfold isSt
  rw [List.getElem?_append_left h, List.getElem?_append_left (show i - 1 < l.length by omega)]
theorem starts_snoc (l : List Int) (x : Int) : starts (l ++ [x]) = starts l ++ (if isSt (l ++ [x]) l.length = true then [(l.length : Int)] else []) := by
  unfold starts
  rw [List.length_append, List.length_singleton, List.range_succ, List.filter_append, List.map_append]
  congr 1
  · congr 1
    refine List.filter_congr fun i hi => ?_
    exact isSt_app (List.mem_range.mp hi)
  · by_cases h : isSt (l ++ [x]) l.length = true
    · rw [if_pos h]; simp [h]
    · rw [if_neg h]; simp [h]
theorem isSt_end (l : List Int) (x : Int) : isSt (l ++ [x]) l.length = true ↔ l = [] ∨ l.getLast? ≠ some x := by
  unfold isSt
  rw [List.getElem?_concat_length]
  by_cases h : l = []
  · subst h; simp
  · have hp : 0 < l.length := List.length_pos_iff.mpr h
    rw [List.getElem?_append_left (show l.length - 1 < l.length by omega), ← List.getLast?_eq_getElem?]
    have h0 : l.length ≠ 0 := by omega
    simp [h, h0]
theorem isSt_at {row : List Int} {i : Nat} {y z : Int} (hi : i ≠ 0) (hy : row[i - 1]? = some y) (hz : row[i]? = some z) : isSt (row.take i ++ [z]) i = decide (y ≠ z) := by
  rw [← take_snoc hz]
  unfold isSt
  rw [List.getElem?_take, List.getElem?_take, if_pos (by omega), if_pos (by omega), hy, hz]
  simp [hi]
theorem starts_lt {l : List Int} {s : Int} (h : s ∈ starts l) : 0 ≤ s ∧ s < l.length := by
  unfold starts at h
  obtain ⟨i, hi, rfl⟩ := List.mem_map.mp h
  have := List.mem_range.mp (List.mem_filter.mp hi).1
  omega
def lens (st : List Int) (n : Int) : List Int := List.zipWith (fun e s => e - s) (st.tail ++ [n]) st
theorem lens_snoc : ∀ (a : List Int) (s n : Int), lens (a ++ [s]) n = lens a s ++ [n - s]
  | [], s, n => rfl
  | [x], s, n => rfl
  | x :: y :: r, s, n => by
    have ih := lens_snoc (y :: r) s n
    unfold lens at ih ⊢
    simp only [List.cons_append, List.tail_cons, List.zipWith_cons_cons] at ih ⊢
    rw [ih]
theorem lens_len (st : List Int) (n : Int) : (lens st n).length = st.length := by
  unfold lens
  rw [List.length_zipWith, List.length_append, List.length_tail, List.length_singleton]
  omega
theorem runs_starts : ∀ l : List Int, lens (starts l) l.length = (runs l).map (·.2) ∧ (starts l).map (fun (s : Int) => l.getD s.toNat 0) = (runs l).map (·.1) := by
  refine snocI ⟨rfl, rfl⟩ fun l x ih => ?_
  obtain ⟨ih1, ih2⟩ := ih
  have old : (starts l).map (fun (s : Int) => (l ++ [x]).getD s.toNat 0) = (starts l).map (fun (s : Int) => l.getD s.toNat 0) := List.map_congr_left fun s hs => by
    have := starts_lt hs
    rw [List.getD_eq_getElem?_getD, List.getD_eq_getElem?_getD, List.getElem?_append_left (by omega)]
  rw [starts_snoc, runs_snoc]
  by_cases h : isSt (l ++ [x]) l.length = true
  · have e : stepR (runs l) x = runs l ++ [(x, 1)] := by
      by_cases hr : runs l = []
      · rw [hr]; rfl
      · obtain ⟨a, ⟨y, c⟩, er⟩ := lastD _ hr
        have hl : l ≠ [] := fun q => hr (by rw [q]; rfl)
        have hy : y ≠ x := by
          intro q
          subst q
          rcases (isSt_end l y).mp h with q | q
          · exact hl q
          · have g := (runs_good l).pos (y, c) (by rw [er]; simp)
            have := expand_runs l
            rw [er, expand_snoc] at this
            obtain ⟨m, hm⟩ : ∃ m, c.toNat = m + 1 := ⟨c.toNat - 1, by simp only at g; omega⟩
            rw [hm, List.replicate_succ', ← List.append_assoc] at this
            rw [← this, List.getLast?_concat] at q
            exact q rfl
        rw [er, stepR_other a hy]
    rw [if_pos h, e, List.length_append, List.length_singleton, lens_snoc, List.map_append, List.map_append, List.map_append, ih1, old, ih2]
    constructor
    · simp; omega
    · simp
  · have hn : ¬ (l = [] ∨ l.getLast? ≠ some x) := fun q => h ((isSt_end l x).mpr q)
    have hl : l ≠ [] := fun q => hn (.inl q)
    have hx : l.getLast? = some x := Classical.byContradiction fun q => hn (.inr q)
    obtain ⟨a, ⟨y, c⟩, er⟩ := lastD _ (runs_ne hl)
    have hy : y = x := by
      have g := (runs_good l).pos (y, c) (by rw [er]; simp)
      have := expand_runs l
      rw [er, expand_snoc] at this
      obtain ⟨m, hm⟩ : ∃ m, c.toNat = m + 1 := ⟨c.toNat - 1, by simp only at g; omega⟩
      rw [hm, List.replicate_succ', ← List.append_assoc] at this
      rw [← this, List.getLast?_concat] at hx
      exact Option.some.inj hx
    subst hy
    have sne : starts l ≠ [] := fun q => by
      rw [q, er] at ih1
      simp [lens] at ih1
    obtain ⟨b, s, es⟩ := lastD _ sne
    rw [if_neg h, List.append_nil, er, stepR_same, List.map_append, List.map_append, old, ih2, List.length_append, List.length_singleton]
    rw [es, lens_snoc, er, List.map_append] at ih1
    have ih1' := List.append_inj' ih1 rfl
    have ec : (l.length : Int) - s = c := by simpa using ih1'.2
    rw [es, lens_snoc]
    constructor
    · rw [ih1'.1]
      congr 1
      show [((l.length + 1 : Nat) : Int) - s] = [c + 1]
      congr 1
      omega
    · rw [er, List.map_append]; rfl
theorem starts_len (l : List Int) : (starts l).length = (runs l).length := by
  have := congrArg List.length (runs_starts l).1
  rw [lens_len, List.length_map] at this
  exact this
theorem lens_at {st : List Int} {n : Int} {i : Nat} {e s : Int} (he : (st.tail ++ [n])[i]? = some e) (hs : st[i]? = some s) : (lens st n)[i]? = some (e - s) := by
  unfold lens
  rw [List.getElem?_zipWith, he, hs]
end K3
namespace K3
open PySem PySem.Spec PyProof.Rows L2
abbrev gP (K : PySem.W.Frag) (i j : Nat) : TG := gTup K 2 (gCons (gName i) (gCons (gName j) gNil))
theorem rPair_use {H H2 : Hp} {Q : VK} {ab : List Int × List Int} (k : rPair H Q ab) {t p q : Addr} (s : Same H H2) (hp : H p = none) (hq : H q = none) (ne : p ≠ q) (ep : H2 p = some (.lst (iL ab.1))) (eq : H2 q = some (.lst (iL ab.2))) (ht : H2 t = none) :
    Q (.ref t) (upd H2 t (.tup [.ref p, .ref q])) :=
  k _ t p q (Same.new s ht) (s.free ht) hp hq ne upd_same (new_ne ep ht) (new_ne eq ht)
section
variable {P : Program} {w : World} {K : PySem.W.Frag} {mg : Str → Option Value} {base : Heap} {A : Ad}
theorem scLiP : FnScope ["self", "numbers"] ["self", "numbers"] (defScope (cP 0)) := ⟨rfl, rfl, rfl, by decide +kernel, rfl, by decide +kernel, by decide +kernel⟩
theorem ok_liP {f : Addr} {fd : FuncData} (F : Fun K "parted" "Link.parted" (cP 0) f fd) (B : Bl mg) : FnOk P w K mg base (L2.CX P w) 1 f fd ["self", "numbers"] (spPart K .li) := by
  refine F.okX scLiP (fun vs H Q E h => ?_) (fun cdv Ar outer s H vs Q E hr h => ?_)
  · obtain ⟨v, a, row, rfl, _⟩ := h
    rfl
  · obtain ⟨v, a, row, rfl, hS, _, _, k⟩ := h
    refine ⟨_, pss_one (ps_ret (pe_tup (pa_cons (pe_lst pa_nil) (pa_cons (pe_callTy call_list_of (by rfl) B.list (by decide +kernel) (pa_cons (pv 1) pa_nil)) pa_nil)))), ?_⟩
    refine ⟨Nat.zero_le _, fun p hp => ⟨_, rfl, a, _, rfl, .inl ((same_new hp).seq hS), fun q hq => ⟨by show 2 ≤ sizeLine; decide, fun t ht => ?_⟩⟩⟩
    obtain ⟨hq0, hqp⟩ := none_ne hq
    exact rPair_use k (Same.new (same_new hp) hq) hp hq0 hqp.symm (new_ne upd_same hq) upd_same ht
theorem scRuP : FnScope ["self", "numbers", "starts", "ends", "lengths", "at", "number", "start", "end"] ["self", "numbers"] (defScope (cP 1)) := ⟨rfl, rfl, rfl, by decide +kernel, rfl, by decide +kernel, by decide +kernel⟩
theorem ok_ruP {f : Addr} {fd : FuncData} (F : Fun K "parted" "Runs.parted" (cP 1) f fd) (B : Bl mg) : FnOk P w K mg base (L2.CX P w) 1 f fd ["self", "numbers"] (spPart K .ru) := by
  refine F.okX scRuP (fun vs H Q E h => ?_) (fun cdv Ar outer s H vs Q E hr h => ?_)
  · obtain ⟨v, a, row, rfl, _⟩ := h
    rfl
  · obtain ⟨v, a, row, rfl, hS, hne, hz, k⟩ := h
    have nd := scRuP.nd
    refine ⟨_, pss_cons (ps_setLc (i := 2) (own := [("at", 5), ("number", 6)]) (g := gP K 5 6) rfl nd rfl rfl (sw_true rfl rfl rfl (by decide +kernel))
        (pi_enum (by rfl) B.enumerate (pa_cons (pv 1) pa_nil))
        (blkOk_by (N := ["self", "numbers", "starts", "ends", "lengths", "at", "number", "start", "end"]) (sc := defScope (cP 1)) (by decide +kernel))
        (fun _ _ _ _ _ => by exact pg_tup rfl (pgs_cons (pg_name (i := 5) nd rfl (Or.inl rfl)) (pgs_cons (pg_name (i := 6) nd rfl (Or.inl rfl)) pgs_nil)))
        (fun _ _ _ _ _ => pts_one (PW.pt (pw_or (pt_cmpR op_eq (pv 5) pe_int (nomark _)) (pw_or1 (pt_cmpR op_ne (pe_ix (r := rIxL K) ix_list (pv 1) (pe_op op_sub (pv 5) pe_int) (fun _ _ => rfl)) (pv 6) (nomark _))))))
        (fun _ _ _ _ _ => pv 5))
      (pss_cons (ps_set (i := 3) nd rfl (Or.inl rfl) (pe_op op_cat (pe_slice sl_list (pv 2) (po_some pe_int) po_none) (pe_lst (pa_cons (pe_callB call_len_seq (by rfl) B.len PySem.boot_len (pa_cons (pv 1) pa_nil)) pa_nil))))
      (pss_cons (ps_setLc (i := 4) (own := [("start", 7), ("end", 8)]) (g := gP K 7 8) rfl nd rfl rfl (sw_true rfl rfl rfl (by decide +kernel))
        (pi_zip (by rfl) B.zip (pa_cons (pv 2) (pa_cons (pv 3) pa_nil)))
        (blkOk_by (N := ["self", "numbers", "starts", "ends", "lengths", "at", "number", "start", "end"]) (sc := defScope (cP 1)) (by decide +kernel))
        (fun _ _ _ _ _ => by exact pg_tup rfl (pgs_cons (pg_name (i := 7) nd rfl (Or.inl rfl)) (pgs_cons (pg_name (i := 8) nd rfl (Or.inl rfl)) pgs_nil)))
        (fun _ _ _ _ _ => pts_nil)
        (fun _ _ _ _ _ => pe_op op_sub (pv 8) (pv 7)))
      (pss_one (ps_ret (pe_tup (pa_cons (pe_lst (pa_cons (pe_callB call_len_seq (by rfl) B.len PySem.boot_len (pa_cons (pv 2) pa_nil)) (StX.pa_star (pv 4) pa_nil)))
        (pa_cons (pe_lc (own := [("at", 5)]) rfl nd (pi_list (pv 2))
          (blkOk_by (N := ["self", "numbers", "starts", "ends", "lengths", "at", "number", "start", "end"]) (sc := defScope (cP 1)) (by decide +kernel))
          (fun _ _ _ _ _ => pg_name (i := 5) nd rfl (Or.inl rfl)) (fun _ _ _ _ _ => pts_nil)
          (fun _ _ _ _ _ => pe_ix (r := rIxL K) ix_list (pv 1) (pv 5) (fun _ _ => rfl))) pa_nil))))))), ?_⟩
    have hlen : ∀ l : List Int, (starts l).length ≤ l.length := fun l => by rw [starts_len]; exact runs_len l
    -- starts
    refine ⟨_, rfl, a, _, rfl, hS, fun D hD => lc_e (fun i => iL (starts (row.take i))) hD hS rfl (fun i x T H1 hx s1 e1 hT _ => ?_) fun H1 s1 e1 => ?_⟩
    · obtain ⟨z, hz', rfl⟩ := iL_at hx
      have hi := lt_of_get hz'
      have ez : row.take (i + 1) = row.take i ++ [z] := take_snoc hz'
      have el : (row.take i).length = i := by rw [List.length_take]; omega
      have s2 : Same H (upd H1 T (.tup [.int (i : Nat), .int z])) := Same.new s1 hT
      have e2 : upd H1 T (.tup [.int (i : Nat), .int z]) D = some (.lst (iL (starts (row.take i)))) := new_ne e1 hT
      have bound : (iL (starts (row.take i))).length < sizeLine := small_line (by rw [iL_len]; have := hlen (row.take i); omega)
      have st : starts (row.take (i + 1)) = starts (row.take i) ++ (if isSt (row.take i ++ [z]) i = true then [(i : Int)] else []) := by
        have := starts_snoc (row.take i) z
        rw [el] at this
        rw [ez]; exact this
      refine ⟨T, _, rfl, SqT.of upd_same, rfl, _, _, rfl, _, _, rfl, rfl, rfl, _, rfl, rfl, _, rfl, ?_⟩
      by_cases c : i = 0
      · subst c
        refine iteT (iteT ⟨_, rfl, lc_put hD s2 e2 bound ?_⟩)
        rw [st]
        rfl
      · have d0 : decide (V.int (i : Nat) = V.int 0) = false := decide_eq_false fun q => c (by have := V.int.inj q; omega)
        obtain ⟨y, hy⟩ := get_of_lt (l := row) (i := i - 1) (by omega)
        have ist := isSt_at c hy hz'
        refine if_f d0 ⟨_, rfl, _, rfl, _, _, rfl, rfl, a, _, _, V.int y, rfl, rfl, s2.seq hS, at_of (j := i - 1) (by omega) (iL_get hy), _, rfl, rfl, _, rfl, ?_⟩
        by_cases d : y = z
        · refine if_f (by rw [d]; simp) ⟨s2, ?_⟩
          rw [e2]
          show some (HO.lst (iL (starts (row.take i)))) = some (HO.lst (iL (starts (row.take (i + 1)))))
          rw [st, ist, if_neg (by simp [d]), List.append_nil]
        · refine if_t (by simp [d]) ⟨_, rfl, lc_put hD s2 e2 bound ?_⟩
          show iL (starts (row.take (i + 1))) = _
          rw [st, ist, if_pos (by simp [d])]
          exact iL_app _ _
    · have e1' : H1 D = some (.lst (iL (starts row))) := by
        rw [e1, iL_len, List.take_length]
      clear e1
      obtain ⟨s0, sr, es⟩ : ∃ s0 sr, starts row = s0 :: sr := by
        cases e : starts row with
        | nil =>
          have := starts_len row
          rw [e] at this
          exact absurd (List.length_eq_zero_iff.mp this.symm) (runs_ne hne)
        | cons x r => exact ⟨x, r, rfl⟩
      have hl1 := hlen row
      rw [es] at e1' hl1
      rw [List.length_cons] at hl1
      -- ends
      refine ⟨_, rfl, _, rfl, D, _, rfl, SqL.of e1', fun p hp => ⟨_, rfl, a, _, rfl, .inl ((Same.new s1 hp).seq hS), by show 1 ≤ sizeLine; decide, fun q hq => ?_⟩⟩
      rw [cut_from1] at hq ⊢
      have hpq := none_ne hq
      refine ⟨p, q, _, _, rfl, rfl, new_ne upd_same hq, upd_same, Nat.le_of_lt (small_line (by simp; omega)), fun e he => ?_⟩
      have s2 : Same H1 (upd (upd (upd H1 p (.lst (iL sr))) q (.lst [V.int ((iL row).length : Nat)])) e (.lst (iL sr ++ [V.int ((iL row).length : Nat)]))) := Same.new (Same.new (same_new hp) hq) he
      have ee : (iL sr ++ [V.int ((iL row).length : Nat)]) = iL (sr ++ [(row.length : Int)]) := by rw [iL_app, iL_len]; rfl
      rw [ee] at s2 ⊢
      have hE : (upd (upd (upd H1 p (.lst (iL sr))) q (.lst [V.int ((iL row).length : Nat)])) e (.lst (iL (sr ++ [(row.length : Int)])))) e = some (.lst (iL (sr ++ [(row.length : Int)]))) := upd_same
      have hD2 := s2 D _ e1'
      have s3 := Same.trans s1 s2
      generalize (upd (upd (upd H1 p (.lst (iL sr))) q (.lst [V.int ((iL row).length : Nat)])) e (.lst (iL (sr ++ [(row.length : Int)])))) = H2 at hE hD2 s2 s3 ⊢
      -- lengths
      refine ⟨_, rfl, _, rfl, D, e, _, _, rfl, SqL.of hD2, SqL.of hE, fun G hG => lc_z (fun i => iL ((lens (s0 :: sr) row.length).take i)) hG (SqL.of hD2) (SqL.of hE) rfl (fun i x y T H3 hx hy s4 e4 hT => ?_) fun H3 s4 e4 => ?_⟩
      · obtain ⟨z1, hz1, rfl⟩ := iL_at hx
        obtain ⟨z2, hz2, rfl⟩ := iL_at hy
        refine ⟨T, _, rfl, SqT.of upd_same, rfl, _, _, rfl, _, _, rfl, rfl, rfl, _, rfl, _, rfl, _, _, rfl, rfl, lc_put hG (Same.new s4 hT) (new_ne e4 hT) (small_line ?_) ?_⟩
        · rw [iL_len, List.length_take, lens_len]; have := lt_of_get hz1; simp only [List.length_cons] at this ⊢; omega
        · exact iL_take_snoc (lens_at (st := s0 :: sr) hz2 hz1)
      · have e4' : H3 G = some (.lst (iL (lens (s0 :: sr) row.length))) := by
          rw [e4]
          have : min (iL (s0 :: sr)).length (iL (sr ++ [(row.length : Int)])).length = (lens (s0 :: sr) row.length).length := by
            rw [iL_len, iL_len, lens_len, List.length_append]
            simp
          show some (HO.lst (iL ((lens (s0 :: sr) row.length).take (min (iL (s0 :: sr)).length (iL (sr ++ [(row.length : Int)])).length)))) = _
          rw [this, List.take_length]
        clear e4
        have hD3 := s4 D _ hD2
        have s5 := Same.trans s3 s4
        have hG0 : H G = none := s3.free hG
        -- the pair
        refine ⟨_, rfl, D, _, rfl, .inl (SqL.of hD3), _, rfl, G, _, rfl, .inr (SqL.of e4'), Nat.le_of_lt (small_line (by simp [lens_len]; omega)), fun p1 hp1 => ?_⟩
        have ew : ([V.int ((iL (s0 :: sr)).length : Nat)] ++ (iL (lens (s0 :: sr) row.length) ++ [])) = iL (parted .ru row).1 := by
          rw [List.append_nil, iL_len, ← es]
          show V.int ((starts row).length : Nat) :: iL (lens (starts row) row.length) = V.int ((runs row).length : Nat) :: iL ((runs row).map (·.2))
          rw [starts_len, (runs_starts row).1]
        refine ⟨_, rfl, D, rfl, ⟨_, SqL.of (new_ne hD3 hp1)⟩, fun G2 hG2 => lc_l (fun i => iL (((s0 :: sr).map (fun (s : Int) => row.getD s.toNat 0)).take i)) hG2 (SqL.of (new_ne hD3 hp1)) rfl (fun i x H4 hx s6 e6 => ?_) fun H4 s6 e6 => ?_⟩
        · obtain ⟨z1, hz1, rfl⟩ := iL_at hx
          have mem : z1 ∈ starts row := by rw [es]; exact List.mem_of_getElem? hz1
          have rg := starts_lt mem
          refine ⟨rfl, _, rfl, _, rfl, a, _, _, V.int (row.getD z1.toNat 0), rfl, rfl, (Same.trans (Same.new s5 hp1) s6).seq hS, at_of (j := z1.toNat) (by omega) (iL_get ?_), lc_put hG2 s6 e6 (small_line ?_) (iL_take_snoc ?_)⟩
          · rw [List.getD_eq_getElem?_getD, List.getElem?_eq_getElem (show z1.toNat < row.length by omega)]; rfl
          · rw [iL_len, List.length_take, List.length_map]; simp; omega
          · rw [List.getElem?_map, hz1]; rfl
        · have e6' : H4 G2 = some (.lst (iL (parted .ru row).2)) := by
            rw [e6]
            show some (HO.lst (iL (((s0 :: sr).map (fun (s : Int) => row.getD s.toNat 0)).take (iL (s0 :: sr)).length))) = some (HO.lst (iL ((runs row).map (·.1))))
            rw [iL_len, ← es, List.take_of_length_le (by rw [List.length_map]; exact Nat.le_refl _), (runs_starts row).2]
          have hg2 := none_ne hG2
          refine ⟨by show 2 ≤ sizeLine; decide, fun t ht => rPair_use k (Same.trans (Same.new s5 hp1) s6) (s5.free hp1) (s5.free hg2.1) hg2.2.symm ?_ e6' ht⟩
          rw [← ew]
          exact s6 _ _ upd_same
end
end K3
namespace K3
open PySem PySem.Spec PyProof.Rows L2
theorem dc_e {K : PySem.W.Frag} {a : Addr} {xs : List V} {g : TG} {tt : TT} {tk tv : TE} {vs : List Nat} {σ : L2.St} {H1 : Hp} {D : Addr} {Qd : Hp → Prop} (Pv : Nat → Hp → Prop) (h0 : Pv 0 (upd H1 D (.dK [])))
    (hl : ∀ i H, i ≤ xs.length → Pv i H → SqL K H a xs)
    (hs : ∀ i x T H, xs[i]? = some x → Pv i H → H T = none → g (.ref T) (wipe σ vs) (upd H T (.tup [.int (i : Nat), x])) fun σ2 H2 => wipe σ2 vs = wipe σ vs ∧ tt σ2 H2 fun b H3 =>
      if b = true then tk σ2 H3 fun y H4 => tv σ2 H4 fun z H5 => ∃ kvs k, y = kV k ∧ H5 D = some (.dK kvs) ∧ kvs.length < sizeLine ∧ Pv (i + 1) (upd H5 D (.dK (putK kvs k z))) else Pv (i + 1) H3)
    (hd : ∀ H, Pv xs.length H → Qd H) :
    ∃ W : Nat → Nat → Hp → Prop, (∃ m, W 0 m (upd H1 D (.dK []))) ∧ ∀ i m H, W i m H → ((Ite K a).stop i H ∧ Qd H) ∨ ((Ite K a).go i H ∧ ∃ Nx : Hp → Prop, (∀ H', Nx H' → ∃ m', m' < m ∧ W (i + 1) m' H') ∧
      ∀ x H', (Ite K a).yld i H x H' → g x (wipe σ vs) H' fun σ2 H2 => wipe σ2 vs = wipe σ vs ∧ tt σ2 H2 fun b H3 =>
        if b = true then tk σ2 H3 fun y H4 => tv σ2 H4 fun z H5 => ∃ kvs k, y = kV k ∧ H5 D = some (.dK kvs) ∧ kvs.length < sizeLine ∧ Nx (upd H5 D (.dK (putK kvs k z))) else Nx H3) := by
  refine ⟨fun i m H => i ≤ xs.length ∧ m = xs.length - i ∧ Pv i H, ⟨_, Nat.zero_le _, rfl, h0⟩, ?_⟩
  rintro i m H ⟨hi, rfl, p⟩
  by_cases c : i < xs.length
  · refine .inr ⟨⟨xs, xs[i], hl i H hi p, List.getElem?_eq_getElem c⟩, Pv (i + 1), fun H' h => ⟨xs.length - (i + 1), by omega, by omega, rfl, h⟩, fun x H' y => ?_⟩
    obtain ⟨T, z, rfl, hT, rfl, hz⟩ := y
    exact hs i z T H (hz xs (hl i H hi p)) p hT
  · have ei : i = xs.length := by omega
    subst ei
    exact .inl ⟨⟨xs, hl _ H hi p, Nat.le_refl _⟩, hd H p⟩
section
variable {P : Program} {w : World} {K : PySem.W.Frag} {mg : Str → Option Value} {base : Heap} {A : Ad}
theorem scStP : FnScope ["self", "numbers", "steps", "before", "number"] ["self", "numbers"] (defScope (cP 2)) := ⟨rfl, rfl, rfl, by decide +kernel, rfl, by decide +kernel, by decide +kernel⟩
theorem ok_stP {f : Addr} {fd : FuncData} (F : Fun K "parted" "Steps.parted" (cP 2) f fd) (B : Bl mg) : FnOk P w K mg base (L2.CX P w) 1 f fd ["self", "numbers"] (spPart K .st) := by
  refine F.okX scStP (fun vs H Q E h => ?_) (fun cdv Ar outer s H vs Q E hr h => ?_)
  · obtain ⟨v, a, row, rfl, _⟩ := h
    rfl
  · obtain ⟨v, a, row, rfl, hS, hne, hz, k⟩ := h
    have nd := scStP.nd
    refine ⟨_, pss_cons (ps_setLc (i := 2) (own := [("before", 3), ("number", 4)]) (g := gP K 3 4) rfl nd rfl rfl (sw_true rfl rfl rfl (by decide +kernel))
        (pi_zip (by rfl) B.zip (pa_cons (pv 1) (pa_cons (pe_slice sl_list (pv 1) (po_some pe_int) po_none) pa_nil)))
        (blkOk_by (N := ["self", "numbers", "steps", "before", "number"]) (sc := defScope (cP 2)) (by decide +kernel))
        (fun _ _ _ _ _ => by exact pg_tup rfl (pgs_cons (pg_name (i := 3) nd rfl (Or.inl rfl)) (pgs_cons (pg_name (i := 4) nd rfl (Or.inl rfl)) pgs_nil)))
        (fun _ _ _ _ _ => pts_nil) (fun _ _ _ _ _ => pe_op op_sub (pv 4) (pv 3)))
      (pss_one (ps_ret (pe_tup (pa_cons (pe_lst pa_nil) (pa_cons (pe_lst (pa_cons (pe_ix ix_list (pv 1) pe_int (fun _ _ => rfl)) (StX.pa_star (pv 2) pa_nil))) pa_nil))))), ?_⟩
    cases row with
    | nil => exact absurd rfl hne
    | cons c r =>
      refine ⟨_, rfl, _, rfl, _, rfl, a, _, rfl, hS, fun p hp => ?_⟩
      rw [cut_from1]
      have s1 : Same H (upd H p (.lst (iL r))) := same_new hp
      refine ⟨a, p, _, _, rfl, s1.seq hS, SqL.of upd_same, fun G hG => lc_z (fun i => iL ((diffs (c :: r)).take i)) hG (s1.seq hS) (SqL.of upd_same) rfl (fun i x y T H1 hx hy s2 e2 hT => ?_) fun H1 s2 e2 => ?_⟩
      · obtain ⟨z1, hz1, rfl⟩ := iL_at hx
        obtain ⟨z2, hz2, rfl⟩ := iL_at hy
        refine ⟨T, _, rfl, SqT.of upd_same, rfl, _, _, rfl, _, _, rfl, rfl, rfl, _, rfl, _, rfl, _, _, rfl, rfl, lc_put hG (Same.new s2 hT) (new_ne e2 hT) (small_line ?_) (iL_take_snoc (z := z2 - z1) ?_)⟩
        · have := lt_of_get hz1
          rw [iL_len, List.length_take]; omega
        · unfold diffs
          rw [List.getElem?_zipWith, hz1, List.tail_cons, hz2]
      · have dl : (diffs (c :: r)).length = r.length := by
          unfold diffs
          rw [List.length_zipWith, List.tail_cons, List.length_cons]; omega
        have e2' : H1 G = some (.lst (iL (diffs (c :: r)))) := by
          rw [e2]
          show some (HO.lst (iL ((diffs (c :: r)).take (min (iL (c :: r)).length (iL r).length)))) = _
          rw [iL_len, iL_len, List.length_cons, List.take_of_length_le (by rw [dl]; omega)]
        have s3 := Same.trans s1 s2
        refine ⟨Nat.zero_le _, fun p1 hp1 => ⟨_, rfl, a, _, 0, _, rfl, rfl, (Same.new s3 hp1).seq hS, atI_nat (j := 0) rfl, _, rfl, G, _, rfl, .inr (SqL.of (new_ne e2' hp1)), Nat.le_of_lt (small_line (by simp [dl] at hz ⊢; omega)), fun q hq => ⟨by show 2 ≤ sizeLine; decide, fun t ht => ?_⟩⟩⟩
        have nq := none_ne hq
        refine rPair_use k (Same.new (Same.new s3 hp1) hq) (s3.free hp1) (s3.free nq.1) nq.2.symm (new_ne upd_same hq) ?_ ht
        rw [upd_same]
        show some (HO.lst ([V.int c] ++ (iL (diffs (c :: r)) ++ []))) = some (HO.lst (iL ([c] ++ diffs (c :: r))))
        rw [List.append_nil, iL_app]; rfl
theorem scBaP : FnScope ["self", "numbers", "lowest", "number"] ["self", "numbers"] (defScope (cP 3)) := ⟨rfl, rfl, rfl, by decide +kernel, rfl, by decide +kernel, by decide +kernel⟩
theorem ok_baP {f : Addr} {fd : FuncData} (F : Fun K "parted" "Base.parted" (cP 3) f fd) (B : Bl mg) : FnOk P w K mg base (L2.CX P w) 1 f fd ["self", "numbers"] (spPart K .ba) := by
  refine F.okX scBaP (fun vs H Q E h => ?_) (fun cdv Ar outer s H vs Q E hr h => ?_)
  · obtain ⟨v, a, row, rfl, _⟩ := h
    rfl
  · obtain ⟨v, a, row, rfl, hS, hne, hz, k⟩ := h
    have nd := scBaP.nd
    refine ⟨_, pss_cons (ps_set (i := 2) nd rfl (Or.inr rfl) (pe_callB (cr_min rfl) (by rfl) B.min (by decide +kernel) (pa_cons (pv 1) pa_nil)))
      (pss_one (ps_ret (pe_tup (pa_cons (pe_lst (pa_cons (pv 2) pa_nil)) (pa_cons (pe_lc (own := [("number", 3)]) (g := gName 3) rfl nd (pi_list (pv 1))
          (blkOk_by (N := ["self", "numbers", "lowest", "number"]) (sc := defScope (cP 3)) (by decide +kernel))
          (fun _ _ _ _ _ => pg_name (i := 3) nd rfl (Or.inl rfl)) (fun _ _ _ _ _ => pts_nil) (fun _ _ _ _ _ => pe_op op_sub (pv 3) (pv 2))) pa_nil))))), ?_⟩
    refine ⟨_, rfl, a, row, rfl, hS, List.length_pos_iff.mpr hne, fun m hm hle => ?_⟩
    have em := mn_of hm hle
    subst em
    refine ⟨_, rfl, by show 1 ≤ sizeLine; decide, fun p hp => ⟨_, rfl, a, rfl, ⟨_, (same_new hp).seq hS⟩, fun G hG => lc_l (fun i => iL ((row.map fun x => x - mn row).take i)) hG ((same_new hp).seq hS) rfl (fun i x H1 hx s2 e2 => ?_) fun H1 s2 e2 => ?_⟩⟩
    · obtain ⟨z1, hz1, rfl⟩ := iL_at hx
      have := lt_of_get hz1
      refine ⟨rfl, _, rfl, _, rfl, _, _, rfl, rfl, lc_put hG s2 e2 (small_line ?_) (iL_take_snoc (z := z1 - mn row) ?_)⟩
      · rw [iL_len, List.length_take]; omega
      · rw [List.getElem?_map, hz1]; rfl
    · have e2' : H1 G = some (.lst (iL (row.map fun x => x - mn row))) := by
        rw [e2]
        show some (HO.lst (iL ((row.map fun x => x - mn row).take (iL row).length))) = _
        rw [iL_len, List.take_of_length_le (by rw [List.length_map]; exact Nat.le_refl _)]
      have nG := none_ne hG
      refine ⟨by show 2 ≤ sizeLine; decide, fun t ht => rPair_use k (Same.trans (same_new hp) s2) hp nG.1 nG.2.symm (s2 _ _ upd_same) e2' ht⟩
theorem scPiP : FnScope ["self", "numbers", "different", "ranks", "at", "number"] ["self", "numbers"] (defScope (cP 4)) := ⟨rfl, rfl, rfl, by decide +kernel, rfl, by decide +kernel, by decide +kernel⟩
theorem ok_piP {f : Addr} {fd : FuncData} (F : Fun K "parted" "Pick.parted" (cP 4) f fd) (B : Bl mg) : FnOk P w K mg base (L2.CX P w) 1 f fd ["self", "numbers"] (spPart K .pi) := by
  refine F.okX scPiP (fun vs H Q E h => ?_) (fun cdv Ar outer s H vs Q E hr h => ?_)
  · obtain ⟨v, a, row, rfl, _⟩ := h
    rfl
  · obtain ⟨v, a, row, rfl, hS, hne, hz, k⟩ := h
    have nd := scPiP.nd
    refine ⟨_, pss_cons (ps_set (i := 2) nd rfl (Or.inl rfl) (pe_callB (cr_sortedSet rfl) (by rfl) B.sorted (by decide +kernel) (pa_cons (pe_callTy (cr_setI rfl) (by rfl) B.set (by decide +kernel) (pa_cons (pv 1) pa_nil)) pa_nil)))
      (pss_cons (ps_set (i := 3) nd rfl (Or.inr rfl) (pe_dc (own := [("at", 4), ("number", 5)]) (g := gP K 4 5) rfl nd (pi_enum (by rfl) B.enumerate (pa_cons (pv 2) pa_nil))
          (blkOk_by (N := ["self", "numbers", "different", "ranks", "at", "number"]) (sc := defScope (cP 4)) (by decide +kernel))
          (fun _ _ _ _ _ => by exact pg_tup rfl (pgs_cons (pg_name (i := 4) nd rfl (Or.inl rfl)) (pgs_cons (pg_name (i := 5) nd rfl (Or.inl rfl)) pgs_nil)))
          (fun _ _ _ _ _ => pts_nil) (fun _ _ _ _ _ => pv 5) (fun _ _ _ _ _ => pv 4)))
      (pss_one (ps_ret (pe_tup (pa_cons (pe_lst (pa_cons (pe_callB call_len_seq (by rfl) B.len PySem.boot_len (pa_cons (pv 2) pa_nil)) (StX.pa_star (pv 2) pa_nil)))
        (pa_cons (pe_lc (own := [("number", 5)]) (g := gName 5) rfl nd (pi_list (pv 1))
          (blkOk_by (N := ["self", "numbers", "different", "ranks", "at", "number"]) (sc := defScope (cP 4)) (by decide +kernel))
          (fun _ _ _ _ _ => pg_name (i := 5) nd rfl (Or.inl rfl)) (fun _ _ _ _ _ => pts_nil) (fun _ _ _ _ _ => pe_dget (hu_of hr) (pv 3) (pv 5) (fun _ _ => rfl))) pa_nil)))))), ?_⟩
    refine ⟨_, rfl, a, row, rfl, hS, by omega, fun p0 c0 hp0 hc0 => ⟨p0, _, c0, rfl, upd_same, by omega, fun ds D up mem hl hD => ?_⟩⟩
    have ed : ds = dist row := dist_of up fun z => by rw [mem z]; simp
    have dl := dist_len row
    subst ed
    -- ranks
    refine ⟨_, rfl, D, _, rfl, SqL.of upd_same, fun R hR => dc_e (fun i H' => Same H H' ∧ H' D = some (.lst (iL (dist row))) ∧ ∃ kvs : List (Key × V), H' R = some (.dK kvs) ∧ kvs.length ≤ i ∧ ∀ (j : Nat) (z : Int), j < i → (dist row)[j]? = some z → valV kvs (Sum.inl z) = some (.int (j : Nat)))
      ⟨Same.new (Same.new (same_new hp0) hD) hR, new_ne upd_same hR, [], upd_same, Nat.le_refl _, fun j z hj => absurd hj (Nat.not_lt_zero _)⟩ (fun i H' _ h => SqL.of h.2.1) (fun i x T H' hx h hT => ?_) fun H' h => ?_⟩
    · obtain ⟨z1, hz1, rfl⟩ := iL_at hx
      obtain ⟨s3, hD3, kvs, ek, lk, hk⟩ := h
      have lt := lt_of_get hz1
      have nDR : D ≠ R := ne_of hD3 ek (fun q => by cases q)
      refine ⟨T, _, rfl, SqT.of upd_same, rfl, _, _, rfl, _, _, rfl, rfl, rfl, _, rfl, _, rfl, kvs, .inl z1, rfl, new_ne ek hT, small_line (by omega), fun b o q => ?_, ?_, _, upd_same, ?_, fun j z hj hz2 => ?_⟩
      · have nb : b ≠ R := fun e => by
          subst e
          have := none_ne hR
          have := none_ne this.1
          rw [this.1] at q; cases q
        rw [upd_ne nb]
        exact new_ne (s3 b o q) hT
      · rw [upd_ne nDR]
        exact new_ne hD3 hT
      · have := length_putK kvs (Sum.inl z1) (V.int (i : Nat))
        omega
      · rw [valV_put]
        by_cases e : z = z1
        · subst e
          have := up_inj up hz2 hz1
          subst this
          rw [if_pos rfl]
        · rw [if_neg (fun q => e (Sum.inl.inj q))]
          refine hk j z ?_ hz2
          rcases Nat.lt_succ_iff_lt_or_eq.mp hj with q | q
          · exact q
          · subst q
            rw [hz1] at hz2
            exact absurd (Option.some.inj hz2).symm e
    · obtain ⟨s4, hD3, kvs, ek, lk, hk⟩ := h
      refine ⟨_, rfl, D, _, rfl, .inl (SqL.of hD3), _, rfl, D, _, rfl, .inr (SqL.of hD3), Nat.le_of_lt (small_line (by simp; omega)), fun p1 hp1 => ?_⟩
      refine ⟨_, rfl, a, rfl, ⟨_, (Same.new s4 hp1).seq hS⟩, fun G hG => lc_l (fun i => iL ((row.map fun x => ((ix (dist row) x : Nat) : Int)).take i)) hG ((Same.new s4 hp1).seq hS) rfl (fun i x H4 hx s6 e6 => ?_) fun H4 s6 e6 => ?_⟩
      · obtain ⟨z1, hz1, rfl⟩ := iL_at hx
        have lt := lt_of_get hz1
        have hm : z1 ∈ dist row := mem_dist.mpr (List.mem_of_getElem? hz1)
        have vv := hk (ix (dist row) z1) z1 (by rw [iL_len]; exact ix_lt hm) (ix_at hm)
        refine ⟨rfl, _, rfl, _, rfl, R, V.int (ix (dist row) z1 : Nat), rfl, ?_, lc_put hG s6 e6 (small_line ?_) (iL_take_snoc ?_)⟩
        · have := DGet.k (k := Sum.inl z1) (s6 _ _ (new_ne ek hp1))
          rw [vv] at this
          exact this
        · rw [iL_len, List.length_take]; omega
        · rw [List.getElem?_map, hz1]; rfl
      · have e6' : H4 G = some (.lst (iL (row.map fun x => ((ix (dist row) x : Nat) : Int)))) := by
          rw [e6]
          show some (HO.lst (iL ((row.map fun x => ((ix (dist row) x : Nat) : Int)).take (iL row).length))) = _
          rw [iL_len, List.take_of_length_le (by rw [List.length_map]; exact Nat.le_refl _)]
        have nG := none_ne hG
        refine ⟨by show 2 ≤ sizeLine; decide, fun t ht => rPair_use k (Same.trans (Same.new s4 hp1) s6) (s4.free hp1) (s4.free nG.1) nG.2.symm ?_ e6' ht⟩
        refine s6 _ _ (upd_same.trans ?_)
        show some (HO.lst ([V.int ((iL (dist row)).length : Nat)] ++ (iL (dist row) ++ []))) = some (HO.lst (iL (((dist row).length : Int) :: dist row)))
        rw [List.append_nil, iL_len]; rfl
end
end K3
namespace K3
open PySem PySem.Spec PyProof.Rows L2
section
variable {P : Program} {w : World} {K : PySem.W.Frag} {mg : Str → Option Value} {base : Heap} {A : Ad}
/-! ### own_count -/
theorem scLiO : FnScope ["self", "cells"] ["self", "cells"] (defScope (cO 0)) := ⟨rfl, rfl, rfl, by decide +kernel, rfl, by decide +kernel, by decide +kernel⟩
theorem ok_liO {f : Addr} {fd : FuncData} (F : Fun K "own_count" "Link.own_count" (cO 0) f fd) : FnOk P w K mg base (L2.CX P w) 1 f fd ["self", "cells"] (spCnt K A .li) := by
  refine F.okX scLiO (fun vs H Q E h => ?_) (fun cdv Ar outer s H vs Q E hr h => ?_)
  · obtain ⟨v, a, row, rfl, _⟩ := h
    rfl
  · obtain ⟨v, a, row, rfl, hS, kQ, kE⟩ := h
    exact ⟨_, pss_one (ps_ret pe_int), kQ 0 rfl⟩
theorem scStO : FnScope ["self", "cells"] ["self", "cells"] (defScope (cO 2)) := ⟨rfl, rfl, rfl, by decide +kernel, rfl, by decide +kernel, by decide +kernel⟩
theorem ok_stO {f : Addr} {fd : FuncData} (F : Fun K "own_count" "Steps.own_count" (cO 2) f fd) : FnOk P w K mg base (L2.CX P w) 1 f fd ["self", "cells"] (spCnt K A .st) := by
  refine F.okX scStO (fun vs H Q E h => ?_) (fun cdv Ar outer s H vs Q E hr h => ?_)
  · obtain ⟨v, a, row, rfl, _⟩ := h
    rfl
  · obtain ⟨v, a, row, rfl, hS, kQ, kE⟩ := h
    exact ⟨_, pss_one (ps_ret pe_int), kQ 0 rfl⟩
theorem scBaO : FnScope ["self", "cells"] ["self", "cells"] (defScope (cO 3)) := ⟨rfl, rfl, rfl, by decide +kernel, rfl, by decide +kernel, by decide +kernel⟩
theorem ok_baO {f : Addr} {fd : FuncData} (F : Fun K "own_count" "Base.own_count" (cO 3) f fd) (T : ErrB K mg A.CB) : FnOk P w K mg base (L2.CX P w) 1 f fd ["self", "cells"] (spCnt K A .ba) := by
  refine F.okX scBaO (fun vs H Q E h => ?_) (fun cdv Ar outer s H vs Q E hr h => ?_)
  · obtain ⟨v, a, row, rfl, _⟩ := h
    rfl
  · obtain ⟨v, a, row, rfl, hS, kQ, kE⟩ := h
    refine ⟨_, pss_cons (ps_if (pt_not (pt_truth (pv 1) (by intro _; rfl))) (pss_one (ps_raise rfl (takes_of rfl rfl rfl rfl) (pmk_bare PySem.F.excBase_ValueError T.x T.g T.k T.r))) pss_nil) (pss_one (ps_ret pe_int)), ?_⟩
    refine ⟨_, rfl, _, .inl ⟨_, hS, rfl⟩, ?_⟩
    cases row with
    | nil => exact iteT (kE rfl)
    | cons c r => exact iteF (kQ 1 rfl)
theorem scRuO : FnScope ["self", "cells"] ["self", "cells"] (defScope (cO 1)) := ⟨rfl, rfl, rfl, by decide +kernel, rfl, by decide +kernel, by decide +kernel⟩
theorem ok_ruO {f : Addr} {fd : FuncData} (F : Fun K "own_count" "Runs.own_count" (cO 1) f fd) (G : Fx P w K mg base 1 "counted_part" (spPartN K A)) : FnOk P w K mg base (L2.CX P w) 2 f fd ["self", "cells"] (spCnt K A .ru) := by
  refine F.okX scRuO (fun vs H Q E h => ?_) (fun cdv Ar outer s H vs Q E hr h => ?_)
  · obtain ⟨v, a, row, rfl, _⟩ := h
    rfl
  · obtain ⟨v, a, row, rfl, hS, kQ, kE⟩ := h
    refine ⟨_, pss_one (ps_ret (pcx G hr (takes_of rfl rfl rfl rfl) (pa_cons (pv 1) pa_nil))), ?_⟩
    exact ⟨_, rfl, a, row, rfl, hS, kQ, kE⟩
theorem scPiO : FnScope ["self", "cells"] ["self", "cells"] (defScope (cO 4)) := ⟨rfl, rfl, rfl, by decide +kernel, rfl, by decide +kernel, by decide +kernel⟩
theorem ok_piO {f : Addr} {fd : FuncData} (F : Fun K "own_count" "Pick.own_count" (cO 4) f fd) (G : Fx P w K mg base 1 "counted_part" (spPartN K A)) : FnOk P w K mg base (L2.CX P w) 2 f fd ["self", "cells"] (spCnt K A .pi) := by
  refine F.okX scPiO (fun vs H Q E h => ?_) (fun cdv Ar outer s H vs Q E hr h => ?_)
  · obtain ⟨v, a, row, rfl, _⟩ := h
    rfl
  · obtain ⟨v, a, row, rfl, hS, kQ, kE⟩ := h
    refine ⟨_, pss_one (ps_ret (pcx G hr (takes_of rfl rfl rfl rfl) (pa_cons (pv 1) pa_nil))), ?_⟩
    exact ⟨_, rfl, a, row, rfl, hS, fun n h => kQ n (by cases row <;> exact h), fun h => kE (by cases row <;> exact h)⟩
/-! ### inner_count -/
theorem scLiI : FnScope ["self", "own", "count"] ["self", "own", "count"] (defScope (cI 0)) := ⟨rfl, rfl, rfl, by decide +kernel, rfl, by decide +kernel, by decide +kernel⟩
theorem ok_liI {f : Addr} {fd : FuncData} (F : Fun K "inner_count" "Link.inner_count" (cI 0) f fd) : FnOk P w K mg base (L2.CX P w) 1 f fd ["self", "own", "count"] (spInn K .li) := by
  refine F.okX scLiI (fun vs H Q E h => ?_) (fun cdv Ar outer s H vs Q E hr h => ?_)
  · obtain ⟨v, a, own, m, rfl, _⟩ := h
    rfl
  · obtain ⟨v, a, own, m, rfl, hS, hne, kQ⟩ := h
    exact ⟨_, pss_one (ps_ret (pv 2)), _, rfl, kQ⟩
theorem scRuI : FnScope ["self", "own", "count"] ["self", "own", "count"] (defScope (cI 1)) := ⟨rfl, rfl, rfl, by decide +kernel, rfl, by decide +kernel, by decide +kernel⟩
theorem ok_ruI {f : Addr} {fd : FuncData} (F : Fun K "inner_count" "Runs.inner_count" (cI 1) f fd) : FnOk P w K mg base (L2.CX P w) 1 f fd ["self", "own", "count"] (spInn K .ru) := by
  refine F.okX scRuI (fun vs H Q E h => ?_) (fun cdv Ar outer s H vs Q E hr h => ?_)
  · obtain ⟨v, a, own, m, rfl, _⟩ := h
    rfl
  · obtain ⟨v, a, own, m, rfl, hS, hne, kQ⟩ := h
    cases own with
    | nil => exact absurd rfl (hne rfl)
    | cons c r => exact ⟨_, pss_one (ps_ret (pe_ix ix_list (pv 1) pe_int (fun _ _ => rfl))), _, rfl, a, _, 0, _, rfl, rfl, hS, atI_nat (j := 0) rfl, kQ⟩
theorem scStI : FnScope ["self", "own", "count"] ["self", "own", "count"] (defScope (cI 2)) := ⟨rfl, rfl, rfl, by decide +kernel, rfl, by decide +kernel, by decide +kernel⟩
theorem ok_stI {f : Addr} {fd : FuncData} (F : Fun K "inner_count" "Steps.inner_count" (cI 2) f fd) : FnOk P w K mg base (L2.CX P w) 1 f fd ["self", "own", "count"] (spInn K .st) := by
  refine F.okX scStI (fun vs H Q E h => ?_) (fun cdv Ar outer s H vs Q E hr h => ?_)
  · obtain ⟨v, a, own, m, rfl, _⟩ := h
    rfl
  · obtain ⟨v, a, own, m, rfl, hS, hne, kQ⟩ := h
    exact ⟨_, pss_one (ps_ret (pv 2)), _, rfl, kQ⟩
theorem scBaI : FnScope ["self", "own", "count"] ["self", "own", "count"] (defScope (cI 3)) := ⟨rfl, rfl, rfl, by decide +kernel, rfl, by decide +kernel, by decide +kernel⟩
theorem ok_baI {f : Addr} {fd : FuncData} (F : Fun K "inner_count" "Base.inner_count" (cI 3) f fd) : FnOk P w K mg base (L2.CX P w) 1 f fd ["self", "own", "count"] (spInn K .ba) := by
  refine F.okX scBaI (fun vs H Q E h => ?_) (fun cdv Ar outer s H vs Q E hr h => ?_)
  · obtain ⟨v, a, own, m, rfl, _⟩ := h
    rfl
  · obtain ⟨v, a, own, m, rfl, hS, hne, kQ⟩ := h
    exact ⟨_, pss_one (ps_ret (pv 2)), _, rfl, kQ⟩
theorem scPiI : FnScope ["self", "own", "count"] ["self", "own", "count"] (defScope (cI 4)) := ⟨rfl, rfl, rfl, by decide +kernel, rfl, by decide +kernel, by decide +kernel⟩
theorem ok_piI {f : Addr} {fd : FuncData} (F : Fun K "inner_count" "Pick.inner_count" (cI 4) f fd) : FnOk P w K mg base (L2.CX P w) 1 f fd ["self", "own", "count"] (spInn K .pi) := by
  refine F.okX scPiI (fun vs H Q E h => ?_) (fun cdv Ar outer s H vs Q E hr h => ?_)
  · obtain ⟨v, a, own, m, rfl, _⟩ := h
    rfl
  · obtain ⟨v, a, own, m, rfl, hS, hne, kQ⟩ := h
    exact ⟨_, pss_one (ps_ret (pv 2)), _, rfl, kQ⟩
end
end K3
namespace K3
open PySem PySem.Spec PyProof.Rows L2
/-! ### pjoin, case by case -/
theorem pj_li {own inner : List Int} : pjoin .li own inner = if own ≠ [] ∨ inner = [] then none else if inner.length > 999 then none else some inner := rfl
theorem pj_st {own inner : List Int} : pjoin .st own inner = if own ≠ [] ∨ inner = [] then none else if inner.length > 999 then none else some (psums inner) := rfl
theorem pj_ru_n {own inner : List Int} (h : cells? own = none) : pjoin .ru own inner = none := by unfold pjoin; simp only [h]
theorem pj_ru_s {own inner ls : List Int} (h : cells? own = some ls) : pjoin .ru own inner = if inner.length ≠ ls.length ∨ mn ls < 1 then none else if adjEq inner = true then none else if ls.sum > 999 then none else some (expand (inner.zip ls)) := by unfold pjoin; simp only [h]
theorem pj_pi_n {own inner : List Int} (h : cells? own = none) : pjoin .pi own inner = none := by unfold pjoin; simp only [h]
theorem pj_pi_s {own inner vs : List Int} (h : cells? own = some vs) : pjoin .pi own inner = if adjGe vs = true then none else if dist inner ≠ rng vs.length then none else if inner.length > 999 then none else some (inner.map fun (a : Int) => vs.getD a.toNat 0) := by unfold pjoin; simp only [h]
theorem pj_ba1 {o : Int} {inner : List Int} : pjoin .ba [o] inner = if inner = [] ∨ mn inner ≠ 0 then none else if inner.length > 999 then none else some (inner.map fun x => o + x) := rfl
theorem pj_ba_n {own inner : List Int} (h : own.length ≠ 1) : pjoin .ba own inner = none := by
  match own, h with
  | [], _ => rfl
  | _ :: _ :: _, _ => rfl
theorem rgV_rng (n : Nat) : rgV 0 (n : Int) = iL (rng n) := by
  unfold rgV rng
  rw [show ((n : Int) - 0).toNat = n from by omega]
  show _ = List.map V.int (List.map _ (List.range n))
  rw [List.map_map]
  refine List.map_congr_left fun i _ => ?_
  show V.int (0 + (i : Nat)) = V.int (i : Nat)
  rw [Int.zero_add]
section
variable {P : Program} {w : World} {K : PySem.W.Frag} {mg : Str → Option Value} {base : Heap} {A : Ad}
theorem scLiJ : FnScope ["self", "own", "inner"] ["self", "own", "inner"] (defScope (cJ 0)) := ⟨rfl, rfl, rfl, by decide +kernel, rfl, by decide +kernel, by decide +kernel⟩
theorem ok_liJ {f : Addr} {fd : FuncData} (F : Fun K "joined" "Link.joined" (cJ 0) f fd) (T : ErrB K mg A.CB) (B : Bl mg) (L : Fx P w K mg base 1 "refuse_long" (spLong A)) : FnOk P w K mg base (L2.CX P w) 2 f fd ["self", "own", "inner"] (spJn K A .li) := by
  refine F.okX scLiJ (fun vs H Q E h => ?_) (fun cdv Ar outer s H vs Q E hr h => ?_)
  · obtain ⟨v, a, b, own, inner, rfl, _⟩ := h
    rfl
  · obtain ⟨v, a, b, own, inner, rfl, hA, hB, hl1, hl2, kQ, kE⟩ := h
    refine ⟨_, pss_cons (ps_if (PW.pt (pw_or (pt_truth (pv 1) (by intro _; rfl)) (pw_or1 (pt_not (pt_truth (pv 2) (by intro _; rfl))))))
        (pss_one (ps_raise rfl (takes_of rfl rfl rfl rfl) (pmk_bare PySem.F.excBase_ValueError T.x T.g T.k T.r))) pss_nil)
      (pss_cons (ps_expr (pcx L hr (takes_of rfl rfl rfl rfl) (pa_cons (pe_callB call_len_seq (by rfl) B.len PySem.boot_len (pa_cons (pv 2) pa_nil)) pa_nil)))
      (pss_one (ps_ret (pe_callTy call_list_of (by rfl) B.list (by decide +kernel) (pa_cons (pv 2) pa_nil))))), ?_⟩
    refine ⟨_, rfl, _, .inl ⟨_, hA, rfl⟩, ?_⟩
    cases own with
    | cons c r => exact iteT (iteT (kE (by rw [pj_li]; exact if_pos (.inl (by simp))) _ (Same.refl _)))
    | nil =>
      refine iteF ⟨_, rfl, _, .inl ⟨_, hB, rfl⟩, ?_⟩
      cases inner with
      | nil => exact iteT (kE (by rw [pj_li]; exact if_pos (.inr rfl)) _ (Same.refl _))
      | cons c r =>
        refine iteF ⟨_, rfl, b, _, rfl, .inl hB, _, rfl, fun hgt => ?_, fun hgt => ⟨_, rfl, b, _, rfl, .inl hB, fun p hp => ?_⟩⟩
        · rw [iL_len] at hgt
          simp only [List.length_cons] at hgt hl2
          omega
        · exact kQ _ (by rw [pj_li, if_neg (by simp), if_neg (by omega)]) _ p (same_new hp) hp upd_same
theorem scRuJ : FnScope ["self", "own", "inner", "lengths", "number", "other", "length", "_"] ["self", "own", "inner"] (defScope (cJ 1)) := ⟨rfl, rfl, rfl, by decide +kernel, rfl, by decide +kernel, by decide +kernel⟩
def eqs (l : List Int) : List Bool := List.zipWith (fun a b => decide (a = b)) l l.tail
def ges (l : List Int) : List Bool := List.zipWith (fun a b => decide (b ≤ a)) l l.tail
theorem bl_put {bs : List Bool} {i : Nat} {b : Bool} (h : bs[i]? = some b) : (bs.take (i + 1)).map V.bl = (bs.take i).map V.bl ++ [.bl b] := by rw [take_snoc h, List.map_append]; rfl
theorem ok_ruJ {f : Addr} {fd : FuncData} (F : Fun K "joined" "Runs.joined" (cJ 1) f fd) (T : ErrB K mg A.CB) (B : Bl mg) (L : Fx P w K mg base 1 "refuse_long" (spLong A)) (C : Fx P w K mg base 1 "counted_cells" (spCells K A)) :
    FnOk P w K mg base (L2.CX P w) 2 f fd ["self", "own", "inner"] (spJn K A .ru) := by
  refine F.okX scRuJ (fun vs H Q E h => ?_) (fun cdv Ar outer s H vs Q E hr h => ?_)
  · obtain ⟨v, a, b, own, inner, rfl, _⟩ := h
    rfl
  · obtain ⟨v, a, b, own, inner, rfl, hA, hB, hl1, hl2, kQ, kE⟩ := h
    have nd := scRuJ.nd
    refine ⟨_, pss_cons (ps_set (i := 3) nd rfl (Or.inl rfl) (pcx C hr (takes_of rfl rfl rfl rfl) (pa_cons (pv 1) pa_nil)))
      (pss_cons (ps_if (PW.pt (pw_or (pt_cmpR op_ne (pe_callB call_len_seq (by rfl) B.len PySem.boot_len (pa_cons (pv 2) pa_nil)) (pe_callB call_len_seq (by rfl) B.len PySem.boot_len (pa_cons (pv 3) pa_nil)) (nomark _))
          (pw_or1 (pt_cmpR op_lt (pe_callB (cr_min rfl) (by rfl) B.min (by decide +kernel) (pa_cons (pv 3) pa_nil)) pe_int (nomark _)))))
        (pss_one (ps_raise rfl (takes_of rfl rfl rfl rfl) (pmk_bare PySem.F.excBase_ValueError T.x T.g T.k T.r))) pss_nil)
      (pss_cons (ps_if (pt_val (pe_callB (cr_any rfl) (by rfl) B.any (by decide +kernel) (pa_cons (pe_lc (own := [("number", 4), ("other", 5)]) (g := gP K 4 5) rfl nd
            (pi_zip (by rfl) B.zip (pa_cons (pv 2) (pa_cons (pe_slice sl_list (pv 2) (po_some pe_int) po_none) pa_nil)))
            (blkOk_by (N := ["self", "own", "inner", "lengths", "number", "other", "length", "_"]) (sc := defScope (cJ 1)) (by decide +kernel))
            (fun _ _ _ _ _ => by exact pg_tup rfl (pgs_cons (pg_name (i := 4) nd rfl (Or.inl rfl)) (pgs_cons (pg_name (i := 5) nd rfl (Or.inl rfl)) pgs_nil)))
            (fun _ _ _ _ _ => pts_nil) (fun _ _ _ _ _ => pe_cmpR op_eq (pv 4) (pv 5) (nomark _))) pa_nil)))
        (pss_one (ps_raise rfl (takes_of rfl rfl rfl rfl) (pmk_bare PySem.F.excBase_ValueError T.x T.g T.k T.r))) pss_nil)
      (pss_cons (ps_expr (pcx L hr (takes_of rfl rfl rfl rfl) (pa_cons (pe_callB (cr_sum rfl) (by rfl) B.sum (by decide +kernel) (pa_cons (pv 3) pa_nil)) pa_nil)))
      (pss_one (ps_ret (pe_lc2 (own := [("number", 4), ("length", 6), ("_", 7)]) (vs1 := [7]) (g := gP K 4 6) (g1 := gName 7) rfl nd
            (pi_zip (by rfl) B.zip (pa_cons (pv 2) (pa_cons (pv 3) pa_nil)))
            (blkOk_by (N := ["self", "own", "inner", "lengths", "number", "other", "length", "_"]) (sc := defScope (cJ 1)) (by decide +kernel)) (by decide)
            (fun _ _ _ _ _ => by exact pg_tup rfl (pgs_cons (pg_name (i := 4) nd rfl (Or.inl rfl)) (pgs_cons (pg_name (i := 6) nd rfl (Or.inl rfl)) pgs_nil)))
            (fun _ _ _ _ _ => pts_nil) (fun _ _ _ _ _ => pi_range1 (by rfl) B.range (pa_cons (pv 6) pa_nil)) (fun _ _ _ _ _ => pg_name (i := 7) nd rfl (Or.inl rfl)) (fun _ _ _ _ _ => pts_nil) (fun _ _ _ _ _ => pv 4))))))), ?_⟩
    refine ⟨_, rfl, a, own, rfl, hA, fun ls el H1 p s1 np ep => ?_, fun e => kE (pj_ru_n e) _ (Same.refl _)⟩
    have pj := pj_ru_s (inner := inner) el
    obtain ⟨_, l1⟩ := cells_some el
    have hB1 := s1.seq hB
    refine ⟨_, rfl, b, _, rfl, .inl hB1, _, rfl, p, _, rfl, .inl (SqL.of ep), rfl, _, rfl, ?_⟩
    by_cases c1 : inner.length = ls.length
    case neg => exact if_t (by rw [decide_eq_false (fun q => c1 (by have := V.int.inj q; rw [iL_len, iL_len] at this; omega))]; rfl) (iteT (kE (by rw [pj]; exact if_pos (.inl c1)) _ s1))
    refine if_f (by rw [iL_len, iL_len, c1]; simp) ⟨_, rfl, p, ls, rfl, SqL.of ep, l1, fun m hm hle => ⟨m, 1, rfl, rfl, _, rfl, ?_⟩⟩
    have em := mn_of hm hle
    subst em
    by_cases c2 : mn ls < 1
    · exact if_t (decide_eq_true c2) (kE (by rw [pj]; exact if_pos (.inr c2)) _ s1)
    refine if_f (decide_eq_false c2) ?_
    rw [if_neg (by rintro (q | q); exact q c1; exact c2 q)] at pj
    obtain ⟨i0, ir, rfl⟩ : ∃ i0 ir, inner = i0 :: ir := by
      cases inner with
      | nil => simp at c1; omega
      | cons x y => exact ⟨x, y, rfl⟩
    -- neighbours
    refine ⟨_, rfl, _, rfl, _, rfl, b, _, rfl, hB1, fun q hq => ?_⟩
    rw [cut_from1]
    have s2 : Same H1 (upd H1 q (.lst (iL ir))) := same_new hq
    refine ⟨b, q, _, _, rfl, s2.seq hB1, SqL.of upd_same, fun G hG => lc_z (fun i => ((eqs (i0 :: ir)).take i).map V.bl) hG (s2.seq hB1) (SqL.of upd_same) rfl (fun i x y Tt H3 hx hy s4 e4 hT => ?_) fun H3 s4 e4 => ?_⟩
    · obtain ⟨z1, hz1, rfl⟩ := iL_at hx
      obtain ⟨z2, hz2, rfl⟩ := iL_at hy
      refine ⟨Tt, _, rfl, SqT.of upd_same, rfl, _, _, rfl, _, _, rfl, rfl, rfl, _, rfl, _, rfl, rfl, lc_put hG (Same.new s4 hT) (new_ne e4 hT) (small_line ?_) (bl_put ?_)⟩
      · have := lt_of_get hz1
        rw [List.length_map, List.length_take]; omega
      · unfold eqs
        rw [List.getElem?_zipWith, hz1, List.tail_cons, hz2]
        simp
    have el2 : (eqs (i0 :: ir)).length = ir.length := by
      unfold eqs
      rw [List.length_zipWith, List.tail_cons, List.length_cons]; omega
    have e4' : H3 G = some (.lst ((eqs (i0 :: ir)).map V.bl)) := by
      rw [e4]
      show some (HO.lst (((eqs (i0 :: ir)).take (min (iL (i0 :: ir)).length (iL ir).length)).map V.bl)) = _
      rw [iL_len, iL_len, List.length_cons, List.take_of_length_le (by rw [el2]; omega)]
    have s5 := Same.trans (Same.trans s1 s2) s4
    have s45 := Same.trans s2 s4
    refine ⟨G, _, rfl, SqL.of e4', _, rfl, ?_⟩
    by_cases c3 : adjEq (i0 :: ir) = true
    · exact if_t c3 (kE (by rw [pj]; exact if_pos c3) _ s5)
    refine if_f (Bool.eq_false_iff.mpr c3) ?_
    rw [if_neg c3] at pj
    have ep3 := s45 _ _ ep
    refine ⟨_, rfl, p, ls, rfl, SqL.of ep3, _, rfl, fun hgt => kE (by rw [pj]; exact if_pos hgt) _ s5, fun hgt => ?_⟩
    rw [if_neg hgt] at pj
    -- the list
    have pos : ∀ y ∈ ls, 1 ≤ y := fun y hy => by have := mn_le hy; omega
    have ub : ∀ y ∈ ls, y ≤ 999 := fun y hy => by
      have key : ∀ l : List Int, (∀ y ∈ l, 1 ≤ y) → y ∈ l → y ≤ l.sum ∧ 0 ≤ l.sum := by
        intro l
        induction l with
        | nil => intro _ h; simp at h
        | cons z t ih =>
          intro hp hm
          have hz := hp z List.mem_cons_self
          have ht : ∀ y ∈ t, 1 ≤ y := fun y hy => hp y (List.mem_cons_of_mem _ hy)
          have h0 : ∀ t : List Int, (∀ y ∈ t, 1 ≤ y) → 0 ≤ t.sum := by
            intro t
            induction t with
            | nil => intro _; simp
            | cons u t iht =>
              intro hu
              have := hu u List.mem_cons_self
              have := iht fun y hy => hu y (List.mem_cons_of_mem _ hy)
              rw [List.sum_cons]; omega
          have := h0 t ht
          rw [List.sum_cons]
          rcases List.mem_cons.mp hm with e | e
          · subst e; omega
          · have := ih ht e; omega
      have := key ls pos hy
      omega
    have zl : ((i0 :: ir).zip ls).length = ls.length := zip_len' c1
    have bnd : ∀ i, i ≤ ls.length → (expand (((i0 :: ir).zip ls).take i)).length ≤ 1000 * i := by
      intro i
      induction i with
      | zero => intro _; simp [expand]
      | succ i ih =>
        intro hi
        have := ih (by omega)
        obtain ⟨z, hz⟩ : ∃ z, ((i0 :: ir).zip ls)[i]? = some z := ⟨_, List.getElem?_eq_getElem (by omega)⟩
        rw [take_snoc hz, show [z] = [(z.1, z.2)] from rfl, expand_snoc, List.length_append, List.length_replicate]
        have hm : z.2 ∈ ls := (List.of_mem_zip (List.mem_of_getElem? hz)).2
        have := ub _ hm
        omega
    have hB3 := s45.seq hB1
    refine ⟨_, rfl, _, rfl, b, p, _, _, rfl, hB3, SqL.of ep3, fun D hD => ⟨fun i m H' => i ≤ ls.length ∧ m = ls.length - i ∧ Same H3 H' ∧ H' D = some (.lst (iL (expand (((i0 :: ir).zip ls).take i)))),
      ⟨ls.length, Nat.zero_le _, rfl, same_new hD, upd_same⟩, ?_⟩⟩
    rintro i m H4 ⟨hi, rfl, s6, e6⟩
    by_cases cc : i < ls.length
    case neg =>
      have ei : i = ls.length := by omega
      subst ei
      refine .inl ⟨⟨_, _, s6.seq hB3, s6.seq (SqL.of ep3), .inr (by rw [iL_len]; exact Nat.le_refl _)⟩, kQ _ pj H4 D (Same.trans s5 s6) (s5.free hD) ?_⟩
      rw [e6, ← zl, List.take_length]
    obtain ⟨⟨x0, y0⟩, hz⟩ : ∃ z, ((i0 :: ir).zip ls)[i]? = some z := ⟨_, List.getElem?_eq_getElem (by omega)⟩
    have hxy := List.getElem?_zip_eq_some.mp hz
    refine .inr ⟨⟨_, _, _, _, s6.seq hB3, s6.seq (SqL.of ep3), iL_get hxy.1, iL_get hxy.2⟩, fun H' => Same H3 H' ∧ H' D = some (.lst (iL (expand (((i0 :: ir).zip ls).take (i + 1))))), fun H' h => ⟨_, by omega, by omega, rfl, h.1, h.2⟩, fun x H5 hy => ?_⟩
    obtain ⟨T1, x1, y1, rfl, hT1, rfl, hx1, hy1⟩ := hy
    have ex := hx1 _ (s6.seq hB3)
    have ey := hy1 _ (s6.seq (SqL.of ep3))
    rw [iL_get hxy.1] at ex
    rw [iL_get hxy.2] at ey
    cases ex
    cases ey
    have hy0 : y0 ∈ ls := List.mem_of_getElem? hxy.2
    have u1 := pos _ hy0
    have u2 := ub _ hy0
    refine ⟨T1, _, rfl, SqT.of upd_same, rfl, _, _, rfl, _, _, rfl, rfl, rfl, _, rfl, y0, rfl, by omega, by omega, fun j m H6 => j ≤ y0.toNat ∧ m = y0.toNat - j ∧ Same H3 H6 ∧ H6 D = some (.lst (iL (expand (((i0 :: ir).zip ls).take i) ++ List.replicate j x0))),
      ⟨_, Nat.zero_le _, rfl, Same.new s6 hT1, by rw [List.replicate_zero, List.append_nil]; exact new_ne e6 hT1⟩, ?_⟩
    rintro j m H6 ⟨hj, rfl, s7, e7⟩
    by_cases cj : j < y0.toNat
    case neg =>
      have ej : j = y0.toNat := by omega
      subst ej
      refine .inl ⟨Nat.le_refl _, s7, ?_⟩
      rw [e7, take_snoc hz, expand_snoc]
    refine .inr ⟨cj, fun H7 => Same H3 H7 ∧ H7 D = some (.lst (iL (expand (((i0 :: ir).zip ls).take i) ++ List.replicate (j + 1) x0))), fun H7 h => ⟨_, by omega, by omega, rfl, h.1, h.2⟩, fun x H7 hx => ?_⟩
    obtain ⟨rfl, rfl⟩ := hx
    refine ⟨rfl, _, rfl, _, e7, small_line ?_, fun bb o qq => ?_, ?_⟩
    · have := bnd i (by omega)
      rw [iL_len, List.length_append, List.length_replicate]
      omega
    · rw [upd_ne (ne_of_none qq hD)]; exact s7 bb o qq
    · rw [upd_same, List.replicate_succ', ← List.append_assoc]
      exact congrArg (fun l => some (HO.lst l)) (iL_app _ [x0]).symm
end
end K3
namespace K3
open PySem PySem.Spec PyProof.Rows L2
theorem psF_get : ∀ (a : Int) (l : List Int) (i : Nat) (z : Int), l[i]? = some z → (psF a l)[i]? = some (a + (l.take i).sum + z)
  | a, s :: t, 0, z, h => by
    have e : s = z := Option.some.inj h
    subst e
    show some (a + s) = some (a + ([] : List Int).sum + s)
    simp
  | a, s :: t, i + 1, z, h => by
    have ih := psF_get (a + s) t i z h
    show (psF (a + s) t)[i]? = _
    rw [ih, List.take_succ_cons, List.sum_cons]
    congr 1
    omega
theorem psums_get {l : List Int} {i : Nat} {z : Int} (h : l[i]? = some z) : (psums l)[i]? = some ((l.take i).sum + z) := by
  have := psF_get 0 l i z h
  rw [Int.zero_add] at this
  exact this
section
variable {P : Program} {w : World} {K : PySem.W.Frag} {mg : Str → Option Value} {base : Heap} {A : Ad}
theorem scStJ : FnScope ["self", "own", "inner", "number", "numbers", "step"] ["self", "own", "inner"] (defScope (cJ 2)) := ⟨rfl, rfl, rfl, by decide +kernel, rfl, by decide +kernel, by decide +kernel⟩
theorem ok_stJ {f : Addr} {fd : FuncData} (F : Fun K "joined" "Steps.joined" (cJ 2) f fd) (T : ErrB K mg A.CB) (B : Bl mg) (L : Fx P w K mg base 1 "refuse_long" (spLong A)) : FnOk P w K mg base (L2.CX P w) 2 f fd ["self", "own", "inner"] (spJn K A .st) := by
  refine F.okX scStJ (fun vs H Q E h => ?_) (fun cdv Ar outer s H vs Q E hr h => ?_)
  · obtain ⟨v, a, b, own, inner, rfl, _⟩ := h
    rfl
  · obtain ⟨v, a, b, own, inner, rfl, hA, hB, hl1, hl2, kQ, kE⟩ := h
    have nd := scStJ.nd
    refine ⟨_, pss_cons (ps_if (PW.pt (pw_or (pt_truth (pv 1) (by intro _; rfl)) (pw_or1 (pt_not (pt_truth (pv 2) (by intro _; rfl))))))
        (pss_one (ps_raise rfl (takes_of rfl rfl rfl rfl) (pmk_bare PySem.F.excBase_ValueError T.x T.g T.k T.r))) pss_nil)
      (pss_cons (ps_expr (pcx L hr (takes_of rfl rfl rfl rfl) (pa_cons (pe_callB call_len_seq (by rfl) B.len PySem.boot_len (pa_cons (pv 2) pa_nil)) pa_nil)))
      (pss_cons (ps_set (i := 3) nd rfl (Or.inl rfl) pe_int)
      (pss_cons (ps_set (i := 4) nd rfl (Or.inl rfl) (pe_lst pa_nil))
      (pss_cons (ps_for (passes_of rfl) rfl (pi_list (pv 2)) (pg_name (i := 5) nd rfl (Or.inl rfl))
        (pss_cons (ps_set (i := 3) nd rfl (Or.inl rfl) (pe_op op_add (pv 3) (pv 5)))
        (pss_one (ps_expr (pe_bm PySem.F.plainAttrs_list PySem.F.slot_list_append PySem.F.type_list_append mt_append (pv 4) (pa_cons (pv 3) pa_nil))))))
      (pss_one (ps_ret (pv 4))))))), ?_⟩
    refine ⟨_, rfl, _, .inl ⟨_, hA, rfl⟩, ?_⟩
    cases own with
    | cons c r => exact iteT (iteT (kE (by rw [pj_st]; exact if_pos (.inl (by simp))) _ (Same.refl _)))
    | nil =>
      refine iteF ⟨_, rfl, _, .inl ⟨_, hB, rfl⟩, ?_⟩
      cases inner with
      | nil => exact iteT (kE (by rw [pj_st]; exact if_pos (.inr rfl)) _ (Same.refl _))
      | cons c r =>
        refine iteF ⟨_, rfl, b, _, rfl, .inl hB, _, rfl, fun hgt => ?_, fun hgt => ⟨Nat.zero_le _, fun p hp => ?_⟩⟩
        · rw [iL_len] at hgt
          simp only [List.length_cons] at hgt hl2
          omega
        · have pj : pjoin .st [] (c :: r) = some (psums (c :: r)) := by rw [pj_st, if_neg (by simp), if_neg (by omega)]
          have pl : (psums (c :: r)).length = (c :: r).length := psF_len 0 _
          refine ⟨_, rfl, b, rfl, ⟨_, (same_new hp).seq hB⟩, for_list (K := K) (a := b) (xs := iL (c :: r)) (fun i σ H' => ∃ t : Option V, σ = [some v, some (.ref a), some (.ref b), some (.int ((c :: r).take i).sum), some (.ref p), t] ∧ Same H H' ∧ H' p = some (.lst (iL ((psums (c :: r)).take i))))
            ⟨none, rfl, same_new hp, upd_same⟩ (fun i σ H' _ ⟨_, _, s1, _⟩ => s1.seq hB) ?_ ?_⟩
          · rintro i y σ H' hi ⟨t, rfl, s1, e1⟩
            obtain ⟨z, hz, rfl⟩ := iL_at hi
            refine ⟨_, rfl, _, rfl, _, _, rfl, rfl, _, rfl, .inl ⟨rfl, _, SqL.of e1⟩, _, rfl, p, _, _, rfl, rfl, e1, small_line ?_, some (.int z), ?_, fun bb o q => ?_, ?_⟩
            · rw [iL_len, List.length_take]; simp only [List.length_cons] at hl2 pl ⊢; omega
            · rw [take_snoc hz, List.sum_append]; simp
            · rw [upd_ne (ne_of_none q hp)]; exact s1 bb o q
            · rw [upd_same, iL_take_snoc (psums_get hz)]
          · rintro σ H' ⟨t, rfl, s1, e1⟩
            refine ⟨_, rfl, kQ _ pj H' p s1 hp ?_⟩
            rw [e1, iL_len, ← pl, List.take_length]
theorem scBaJ : FnScope ["self", "own", "inner", "number"] ["self", "own", "inner"] (defScope (cJ 3)) := ⟨rfl, rfl, rfl, by decide +kernel, rfl, by decide +kernel, by decide +kernel⟩
theorem ok_baJ {f : Addr} {fd : FuncData} (F : Fun K "joined" "Base.joined" (cJ 3) f fd) (T : ErrB K mg A.CB) (B : Bl mg) (L : Fx P w K mg base 1 "refuse_long" (spLong A)) : FnOk P w K mg base (L2.CX P w) 2 f fd ["self", "own", "inner"] (spJn K A .ba) := by
  refine F.okX scBaJ (fun vs H Q E h => ?_) (fun cdv Ar outer s H vs Q E hr h => ?_)
  · obtain ⟨v, a, b, own, inner, rfl, _⟩ := h
    rfl
  · obtain ⟨v, a, b, own, inner, rfl, hA, hB, hl1, hl2, kQ, kE⟩ := h
    have nd := scBaJ.nd
    refine ⟨_, pss_cons (ps_if (PW.pt (pw_or (pt_cmpR op_ne (pe_callB call_len_seq (by rfl) B.len PySem.boot_len (pa_cons (pv 1) pa_nil)) pe_int (nomark _))
          (pw_or (pt_not (pt_truth (pv 2) (by intro _; rfl))) (pw_or1 (pt_cmpR op_ne (pe_callB (cr_min rfl) (by rfl) B.min (by decide +kernel) (pa_cons (pv 2) pa_nil)) pe_int (nomark _))))))
        (pss_one (ps_raise rfl (takes_of rfl rfl rfl rfl) (pmk_bare PySem.F.excBase_ValueError T.x T.g T.k T.r))) pss_nil)
      (pss_cons (ps_expr (pcx L hr (takes_of rfl rfl rfl rfl) (pa_cons (pe_callB call_len_seq (by rfl) B.len PySem.boot_len (pa_cons (pv 2) pa_nil)) pa_nil)))
      (pss_one (ps_ret (pe_lc (own := [("number", 3)]) (g := gName 3) rfl nd (pi_list (pv 2)) (blkOk_by (N := ["self", "own", "inner", "number"]) (sc := defScope (cJ 3)) (by decide +kernel))
        (fun _ _ _ _ _ => pg_name (i := 3) nd rfl (Or.inl rfl)) (fun _ _ _ _ _ => pts_nil) (fun _ _ _ _ _ => pe_op op_add (pe_ix (r := rIxL K) ix_list (pv 1) pe_int (fun _ _ => rfl)) (pv 3)))))), ?_⟩
    refine ⟨_, rfl, a, _, rfl, .inl hA, rfl, _, rfl, ?_⟩
    by_cases c1 : own.length = 1
    case neg => exact if_t (by rw [decide_eq_false (fun q => c1 (by have := V.int.inj q; rw [iL_len] at this; omega))]; rfl) (iteT (kE (pj_ba_n c1) _ (Same.refl _)))
    obtain ⟨o, rfl⟩ := List.length_eq_one_iff.mp c1
    refine if_f rfl ⟨_, rfl, _, .inl ⟨_, hB, rfl⟩, ?_⟩
    have pj := pj_ba1 (o := o) (inner := inner)
    cases inner with
    | nil => exact iteT (iteT (kE rfl _ (Same.refl _)))
    | cons c r =>
      refine iteF ⟨_, rfl, b, _, rfl, hB, by simp, fun m hm hle => ⟨rfl, _, rfl, ?_⟩⟩
      have em := mn_of hm hle
      subst em
      by_cases c2 : mn (c :: r) = 0
      case neg => exact if_t (by rw [decide_eq_false (fun q => c2 (V.int.inj q))]; rfl) (kE (by rw [pj]; exact if_pos (.inr c2)) _ (Same.refl _))
      refine if_f (by rw [c2]; rfl) ⟨_, rfl, b, _, rfl, .inl hB, _, rfl, fun hgt => ?_, fun hgt => ?_⟩
      · rw [iL_len] at hgt
        simp only [List.length_cons] at hgt hl2
        omega
      · rw [if_neg (by rintro (q | q); cases q; exact q c2), if_neg (by omega)] at pj
        refine ⟨_, rfl, b, rfl, ⟨_, hB⟩, fun D hD => lc_l (fun i => iL (((c :: r).map fun x => o + x).take i)) hD hB rfl (fun i x H1 hx s2 e2 => ?_) fun H1 s2 e2 => ?_⟩
        · obtain ⟨z1, hz1, rfl⟩ := iL_at hx
          have := lt_of_get hz1
          refine ⟨rfl, _, rfl, a, _, 0, _, rfl, rfl, s2.seq hA, atI_nat (j := 0) rfl, _, rfl, _, _, rfl, rfl, lc_put hD s2 e2 (small_line ?_) (iL_take_snoc (z := o + z1) ?_)⟩
          · rw [iL_len, List.length_take, List.length_map]; omega
          · rw [List.getElem?_map, hz1]; rfl
        · refine kQ _ pj H1 D s2 hD ?_
          rw [e2]
          show some (HO.lst (iL (((c :: r).map fun x => o + x).take (iL (c :: r)).length))) = _
          rw [iL_len, List.take_of_length_le (by rw [List.length_map]; exact Nat.le_refl _)]
theorem scPiJ : FnScope ["self", "own", "inner", "different", "number", "above", "at"] ["self", "own", "inner"] (defScope (cJ 4)) := ⟨rfl, rfl, rfl, by decide +kernel, rfl, by decide +kernel, by decide +kernel⟩
theorem ok_piJ {f : Addr} {fd : FuncData} (F : Fun K "joined" "Pick.joined" (cJ 4) f fd) (T : ErrB K mg A.CB) (B : Bl mg) (L : Fx P w K mg base 1 "refuse_long" (spLong A)) (C : Fx P w K mg base 1 "counted_cells" (spCells K A)) :
    FnOk P w K mg base (L2.CX P w) 2 f fd ["self", "own", "inner"] (spJn K A .pi) := by
  refine F.okX scPiJ (fun vs H Q E h => ?_) (fun cdv Ar outer s H vs Q E hr h => ?_)
  · obtain ⟨v, a, b, own, inner, rfl, _⟩ := h
    rfl
  · obtain ⟨v, a, b, own, inner, rfl, hA, hB, hl1, hl2, kQ, kE⟩ := h
    have nd := scPiJ.nd
    refine ⟨_, pss_cons (ps_set (i := 3) nd rfl (Or.inr rfl) (pcx C hr (takes_of rfl rfl rfl rfl) (pa_cons (pv 1) pa_nil)))
      (pss_cons (ps_if (pt_val (pe_callB (cr_any rfl) (by rfl) B.any (by decide +kernel) (pa_cons (pe_lc (own := [("number", 4), ("above", 5)]) (g := gP K 4 5) rfl nd
            (pi_zip (by rfl) B.zip (pa_cons (pv 3) (pa_cons (pe_slice sl_list (pv 3) (po_some pe_int) po_none) pa_nil)))
            (blkOk_by (N := ["self", "own", "inner", "different", "number", "above", "at"]) (sc := defScope (cJ 4)) (by decide +kernel))
            (fun _ _ _ _ _ => by exact pg_tup rfl (pgs_cons (pg_name (i := 4) nd rfl (Or.inl rfl)) (pgs_cons (pg_name (i := 5) nd rfl (Or.inl rfl)) pgs_nil)))
            (fun _ _ _ _ _ => pts_nil) (fun _ _ _ _ _ => pe_cmpR op_ge (pv 4) (pv 5) (nomark _))) pa_nil)))
        (pss_one (ps_raise rfl (takes_of rfl rfl rfl rfl) (pmk_bare PySem.F.excBase_ValueError T.x T.g T.k T.r))) pss_nil)
      (pss_cons (ps_if (pt_cmpR (op_neI hr.units) (pe_callB (cr_sortedSet rfl) (by rfl) B.sorted (by decide +kernel) (pa_cons (pe_callTy (cr_setI rfl) (by rfl) B.set (by decide +kernel) (pa_cons (pv 2) pa_nil)) pa_nil))
            (pe_listRg rfl (by rfl) B.list (prg_1 (by rfl) B.range (pe_callB call_len_seq (by rfl) B.len PySem.boot_len (pa_cons (pv 3) pa_nil)))) (nomark _))
        (pss_one (ps_raise rfl (takes_of rfl rfl rfl rfl) (pmk_bare PySem.F.excBase_ValueError T.x T.g T.k T.r))) pss_nil)
      (pss_cons (ps_expr (pcx L hr (takes_of rfl rfl rfl rfl) (pa_cons (pe_callB call_len_seq (by rfl) B.len PySem.boot_len (pa_cons (pv 2) pa_nil)) pa_nil)))
      (pss_one (ps_ret (pe_lc (own := [("at", 6)]) (g := gName 6) rfl nd (pi_list (pv 2)) (blkOk_by (N := ["self", "own", "inner", "different", "number", "above", "at"]) (sc := defScope (cJ 4)) (by decide +kernel))
        (fun _ _ _ _ _ => pg_name (i := 6) nd rfl (Or.inl rfl)) (fun _ _ _ _ _ => pts_nil) (fun _ _ _ _ _ => pe_ix (r := rIxL K) ix_list (pv 3) (pv 6) (fun _ _ => rfl)))))))), ?_⟩
    refine ⟨_, rfl, a, own, rfl, hA, fun ds el H1 p s1 np ep => ?_, fun e => kE (pj_pi_n e) _ (Same.refl _)⟩
    have pj := pj_pi_s (inner := inner) el
    obtain ⟨eo, l1⟩ := cells_some el
    have dl : ds.length ≤ 60 := by rw [eo, List.length_cons] at hl1; omega
    have hB1 := s1.seq hB
    obtain ⟨d0, dr, rfl⟩ : ∃ i0 ir, ds = i0 :: ir := by
      cases ds with
      | nil => simp at l1
      | cons x y => exact ⟨x, y, rfl⟩
    refine ⟨_, rfl, _, rfl, _, rfl, p, _, rfl, SqL.of ep, fun q hq => ?_⟩
    rw [cut_from1]
    have s2 : Same H1 (upd H1 q (.lst (iL dr))) := same_new hq
    refine ⟨p, q, _, _, rfl, SqL.of (s2 _ _ ep), SqL.of upd_same, fun G hG => lc_z (fun i => ((ges (d0 :: dr)).take i).map V.bl) hG (SqL.of (s2 _ _ ep)) (SqL.of upd_same) rfl (fun i x y Tt H3 hx hy s4 e4 hT => ?_) fun H3 s4 e4 => ?_⟩
    · obtain ⟨z1, hz1, rfl⟩ := iL_at hx
      obtain ⟨z2, hz2, rfl⟩ := iL_at hy
      refine ⟨Tt, _, rfl, SqT.of upd_same, rfl, _, _, rfl, _, _, rfl, rfl, rfl, _, rfl, _, rfl, _, _, rfl, rfl, lc_put hG (Same.new s4 hT) (new_ne e4 hT) (small_line ?_) (bl_put ?_)⟩
      · have := lt_of_get hz1
        rw [List.length_map, List.length_take]; omega
      · unfold ges
        rw [List.getElem?_zipWith, hz1, List.tail_cons, hz2]
    have el2 : (ges (d0 :: dr)).length = dr.length := by
      unfold ges
      rw [List.length_zipWith, List.tail_cons, List.length_cons]; omega
    have e4' : H3 G = some (.lst ((ges (d0 :: dr)).map V.bl)) := by
      rw [e4]
      show some (HO.lst (((ges (d0 :: dr)).take (min (iL (d0 :: dr)).length (iL dr).length)).map V.bl)) = _
      rw [iL_len, iL_len, List.length_cons, List.take_of_length_le (by rw [el2]; omega)]
    have s5 := Same.trans (Same.trans s1 s2) s4
    have s45 := Same.trans s2 s4
    refine ⟨G, _, rfl, SqL.of e4', _, rfl, ?_⟩
    by_cases c3 : adjGe (d0 :: dr) = true
    · exact if_t c3 (kE (by rw [pj]; exact if_pos c3) _ s5)
    refine if_f (Bool.eq_false_iff.mpr c3) ?_
    rw [if_neg c3] at pj
    have ep3 := s45 _ _ ep
    have hB3 := s45.seq hB1
    -- sorted(set(inner)), list(range(len(different)))
    refine ⟨_, rfl, b, inner, rfl, hB3, by omega, fun p0 c0 hp0 hc0 => ⟨p0, _, c0, rfl, upd_same, by omega, fun us D up mem hl hD => ?_⟩⟩
    have ed : us = dist inner := dist_of up fun z => by rw [mem z]; simp
    subst ed
    have s6 := Same.new (o := .lst (iL (dist inner))) (Same.new (o := SetO w p0 (fun j => decide (j ∈ inner)) c0) s5 hp0) hD
    refine ⟨_, rfl, p, _, rfl, .inl (SqL.of (new_ne (new_ne ep3 hp0) hD)), _, rfl, RgOk.of_le (by omega) (by rw [iL_len]; omega) (by omega) (by omega), fun R hR => ?_⟩
    rw [rgV_rng, iL_len]
    refine ⟨D, R, _, _, rfl, rfl, SqL.of (new_ne upd_same hR), SqL.of upd_same, _, rfl, ?_⟩
    have s7 := Same.new (o := .lst (iL (rng (d0 :: dr).length))) s6 hR
    by_cases c4 : dist inner = rng (d0 :: dr).length
    case neg => exact if_t (by rw [decide_eq_false c4]; rfl) (kE (by rw [pj]; exact if_pos c4) _ s7)
    refine if_f (by rw [decide_eq_true c4]; rfl) ?_
    rw [if_neg (by simp [c4])] at pj
    refine ⟨_, rfl, b, _, rfl, .inl (s7.seq hB), _, rfl, fun hgt => ?_, fun hgt => ?_⟩
    · rw [iL_len] at hgt; omega
    · rw [if_neg (by omega)] at pj
      have ep7 := new_ne (o := .lst (iL (rng (d0 :: dr).length))) (new_ne (o := .lst (iL (dist inner))) (new_ne (o := SetO w p0 (fun j => decide (j ∈ inner)) c0) ep3 hp0) hD) hR
      refine ⟨_, rfl, b, rfl, ⟨_, s7.seq hB⟩, fun G2 hG2 => lc_l (fun i => iL ((inner.map fun (x : Int) => (d0 :: dr).getD x.toNat 0).take i)) hG2 (s7.seq hB) rfl (fun i x H8 hx s8 e8 => ?_) fun H8 s8 e8 => ?_⟩
      · obtain ⟨z1, hz1, rfl⟩ := iL_at hx
        have lt := lt_of_get hz1
        have mz : 0 ≤ z1 ∧ z1 < (d0 :: dr).length := mem_rng.mp (by rw [← c4]; exact mem_dist.mpr (List.mem_of_getElem? hz1))
        refine ⟨rfl, _, rfl, _, rfl, p, _, _, V.int ((d0 :: dr).getD z1.toNat 0), rfl, rfl, SqL.of (s8 _ _ ep7), at_of (j := z1.toNat) (by omega) (iL_get ?_), lc_put hG2 s8 e8 (small_line ?_) (iL_take_snoc ?_)⟩
        · rw [List.getD_eq_getElem?_getD, List.getElem?_eq_getElem (show z1.toNat < (d0 :: dr).length by omega)]; rfl
        · rw [iL_len, List.length_take, List.length_map]; omega
        · rw [List.getElem?_map, hz1]; rfl
      · refine kQ _ pj H8 G2 (Same.trans s7 s8) (s7.free hG2) ?_
        rw [e8]
        show some (HO.lst (iL ((inner.map fun (x : Int) => (d0 :: dr).getD x.toNat 0).take (iL inner).length))) = _
        rw [iL_len, List.take_of_length_le (by rw [List.length_map]; exact Nat.le_refl _)]
end
end K3
namespace K3
open PySem PySem.Spec PyProof.Rows L2
def spChain (CT : Addr) : Sp := fun vs H Q _ => ∃ (a : Addr) (v : V), vs = [.ref a, v] ∧ H a = some (exo a CT none) ∧ ∀ dx, H dx = none → dx ≠ a → Q .non (upd (upd H dx (exd dx [("text", v)])) a (exo a CT (some dx)))
/-- BadChain -/
structure ErrT (P : Program) (w : World) (K : PySem.W.Frag) (mg : Str → Option Value) (base : Heap) (CT : Addr) : Prop where
  o : OexC K CT
  g : mg "BadChain" = some (.ref CT)
  i : ∃ f fd, PySem.W.findIn K (.ref CT) "__init__" = some (some (.ref f)) ∧ PySem.W.typeIn K (.ref f) = some (.type "function") ∧ Binds K fd ["self", "text"] [] ∧ FnOk P w K mg base CX0 1 f fd ["self", "text"] (spChain CT)
section
variable {P : Program} {w : World} {K : PySem.W.Frag} {mg : Str → Option Value} {base : Heap} {A : Ad}
theorem scChain : FnScope ["self", "text"] ["self", "text"] (defScope sChain) := ⟨rfl, rfl, rfl, by decide +kernel, rfl, by decide +kernel, by decide +kernel⟩
theorem ok_chain {f CT : Addr} {fd : FuncData} (F : Fun K "__init__" "BadChain.__init__" sChain f fd) (T : OexC K CT) (hn : PySem.W.findIn K (.ref CT) "text" = some none) : FnOk P w K mg base CX0 1 f fd ["self", "text"] (spChain CT) := by
  refine F.ok scChain (fun vs H Q E h => ?_) (fun cdv Ar outer s H vs Q E hr h => ?_)
  · obtain ⟨a, v, rfl, _⟩ := h
    rfl
  · obtain ⟨a, v, rfl, ha, k⟩ := h
    refine ⟨_, pss_one (ps_ost (pv 0) (pv 1)), ?_⟩
    exact ⟨_, rfl, _, rfl, a, CT, rfl, T, hn, .inl ⟨ha, fun dx h1 h2 => k dx h1 h2⟩⟩
theorem scNamed : FnScope ["name"] ["name"] (defScope sNamed) := ⟨rfl, rfl, rfl, by decide +kernel, rfl, by decide +kernel, by decide +kernel⟩
theorem ok_named {f : Addr} {fd : FuncData} (F : Fun K "link_named" "link_named" sNamed f fd) (M : ∀ k, Mk0 K (A.C k)) (g : ∀ k, mg (cn k) = some (.ref (A.C k))) (T : ErrT P w K mg base A.CT) : FnOk P w K mg base (L2.CX P w) 3 f fd ["name"] (spNamed A) := by
  refine F.okX scNamed (fun vs H Q E h => ?_) (fun cdv Ar outer s H vs Q E hr h => ?_)
  · obtain ⟨z, rfl, _⟩ := h
    rfl
  · obtain ⟨z, rfl, h⟩ := h
    obtain ⟨fI, fdI, iC, tI, bI, FI⟩ := T.i
    refine ⟨_, pss_cons (ps_if (pt_cmpR op_eq (pv 0) pe_str (nomark _)) (pss_one (ps_ret (pe_new (M .ru) (g .ru)))) pss_nil)
      (pss_cons (ps_if (pt_cmpR op_eq (pv 0) pe_str (nomark _)) (pss_one (ps_ret (pe_new (M .st) (g .st)))) pss_nil)
      (pss_cons (ps_if (pt_cmpR op_eq (pv 0) pe_str (nomark _)) (pss_one (ps_ret (pe_new (M .ba) (g .ba)))) pss_nil)
      (pss_cons (ps_if (pt_cmpR op_eq (pv 0) pe_str (nomark _)) (pss_one (ps_ret (pe_new (M .pi) (g .pi)))) pss_nil)
      (pss_one (ps_raise rfl (takes_of rfl rfl rfl rfl) (pmk_oex T.o iC tI FI hr bI .nil pass0 rfl T.g (pa_cons (pv 0) pa_nil))))))), ?_⟩
    rcases h with ⟨k, hk, rfl, q⟩ | ⟨hn, q⟩
    · refine ⟨_, rfl, rfl, _, rfl, ?_⟩
      cases k with
      | li => exact absurd rfl hk
      | ru => exact if_t (nm_dec .ru .ru) q
      | st => exact if_f (nm_dec .st .ru) ⟨_, rfl, rfl, _, rfl, if_t (nm_dec .st .st) q⟩
      | ba => exact if_f (nm_dec .ba .ru) ⟨_, rfl, rfl, _, rfl, if_f (nm_dec .ba .st) ⟨_, rfl, rfl, _, rfl, if_t (nm_dec .ba .ba) q⟩⟩
      | pi => exact if_f (nm_dec .pi .ru) ⟨_, rfl, rfl, _, rfl, if_f (nm_dec .pi .st) ⟨_, rfl, rfl, _, rfl, if_f (nm_dec .pi .ba) ⟨_, rfl, rfl, _, rfl, if_t (nm_dec .pi .pi) q⟩⟩⟩
    · have no : ∀ k, k ≠ .li → decide (V.str z = V.str (nm k)) = false := fun k hk => decide_eq_false fun e => hn k hk (V.str.inj e)
      refine ⟨_, rfl, rfl, _, rfl, if_f (no .ru (by decide)) ⟨_, rfl, rfl, _, rfl, if_f (no .st (by decide)) ⟨_, rfl, rfl, _, rfl, if_f (no .ba (by decide)) ⟨_, rfl, rfl, _, rfl, if_f (no .pi (by decide)) ?_⟩⟩⟩⟩
      refine ⟨_, rfl, by show 1 ≤ 1000; decide, fun a ha => ⟨a, _, rfl, upd_same, fun dx h1 h2 => ⟨rfl, dx, [("text", V.str z)], upd_same, ?_, ?_, ?_⟩⟩⟩
      · rw [upd_ne h2, upd_same]
      · exact (none_ne h1).1
      · refine q _ dx (fun b o e => ?_) (none_ne h1).1 upd_same
        have n1 : b ≠ dx := ne_of_none e (none_ne h1).1
        have n2 : b ≠ a := ne_of_none e ha
        rw [upd_ne n1, del_ne n2, upd_ne n2, upd_ne n1, upd_ne n2]
        exact e
end
end K3
namespace K3
open PySem PySem.Spec PyProof.Rows L2
theorem all_eqs : ∀ {ns ms : List Int}, ns.length = ms.length → (List.zipWith (fun a b => decide (a = b)) ns ms).all id = decide (ns = ms)
  | [], [], _ => by simp
  | n :: ns, m :: ms, h => by
    have ih := all_eqs (ns := ns) (ms := ms) (by simpa using h)
    rw [List.zipWith_cons_cons, List.all_cons, ih]
    by_cases e : n = m
    · subst e; simp
    · simp [e]
theorem cut_to {row : List Int} {i : Nat} : cutV (iL row) none (some (i : Int)) = iL (row.take i) := by
  unfold cutV
  rw [HT.sIx_nat, HT.sIx_none, List.drop_zero, Nat.sub_zero, iL_len, ← List.map_take]
  congr 1
  rw [← List.take_eq_take_min]
theorem cut_from {row : List Int} {i : Nat} : cutV (iL row) (some (i : Int)) none = iL (row.drop i) := by
  unfold cutV
  rw [HT.sIx_nat, HT.sIx_none, iL_len, ← List.map_drop]
  have e : row.drop (min i row.length) = row.drop i := by
    by_cases h : i ≤ row.length
    · rw [Nat.min_eq_left h]
    · rw [Nat.min_eq_right (by omega), List.drop_length, List.drop_of_length_le (by omega)]
  rw [e]
  exact List.take_of_length_le (by rw [List.length_map, List.length_drop]; omega)
section
variable {P : Program} {w : World} {K : PySem.W.Frag} {mg : Str → Option Value} {base : Heap} {A : Ad}
theorem scOwn : FnScope ["_law_name", "_law_cells"] ["_law_name", "_law_cells"] (defScope sOwn) := ⟨rfl, rfl, rfl, by decide +kernel, rfl, by decide +kernel, by decide +kernel⟩
theorem ok_own {f : Addr} {fd : FuncData} (F : Fun K "_law_own" "_law_own" sOwn f fd) (B : Bl mg) : FnOk P w K mg base CX0 1 f fd ["_law_name", "_law_cells"] (spOwn K) := by
  refine F.ok scOwn (fun vs H Q E h => ?_) (fun cdv Ar outer s H vs Q E hr h => ?_)
  · obtain ⟨k, a, cs, rfl, _⟩ := h
    rfl
  · obtain ⟨k, a, cs, rfl, hS, q⟩ := h
    refine ⟨_, pss_cons (ps_if (pt_cmpR op_eq (pv 0) pe_str (nomark _)) (pss_one (ps_ret (pe_ifExp (pt_cmpR (op_eqI hr.units) (pv 1) (pe_lst pa_nil) (nomark _)) (pe_un un_neg pe_int) pe_int))) pss_nil)
      (pss_cons (ps_if (PW.pt (pw_or (pt_cmpR op_eq (pv 0) pe_str (nomark _)) (pw_or1 (pt_cmpR op_eq (pv 0) pe_str (nomark _)))))
        (pss_cons (ps_if (PW.pt (pw_or (pt_cmpR (op_eqI hr.units) (pv 1) (pe_lst pa_nil) (nomark _)) (pw_or (pt_cmpR op_lt (pe_ix ix_list (pv 1) pe_int (fun _ _ => rfl)) pe_int (nomark _))
            (pw_or1 (pt_cmpR op_ge (pe_ix ix_list (pv 1) pe_int (fun _ _ => rfl)) (pe_callB call_len_seq (by rfl) B.len PySem.boot_len (pa_cons (pv 1) pa_nil)) (nomark _))))))
          (pss_one (ps_ret (pe_un un_neg pe_int))) pss_nil)
        (pss_one (ps_ret (pe_op op_add pe_int (pe_ix ix_list (pv 1) pe_int (fun _ _ => rfl)))))) pss_nil)
      (pss_one (ps_ret pe_int))), ?_⟩
    have two : ∀ (kk : Lk), pcount kk cs = pcount .ru cs → (∀ H', Same H H' → Q (.int (lcount kk cs)) H') →
        ∀ (N : L2.St → Hp → Prop), (tSeq (tIfS (tOr (tTest (tOp (rEqI K) (tVar 1) (tLst tNil))) (tOr (tTest (tOp (rI0 fun i j => V.bl (decide (i < j))) (tOp (rIxL K) (tVar 1) (tC (V.int 0))) (tC (V.int 1))))
            (tTest (tOp (rI0 fun i j => V.bl (decide (j ≤ i))) (tOp (rIxL K) (tVar 1) (tC (V.int 0))) (tCB (fun xs H Q => ∃ p ys, xs = [V.ref p] ∧ (SqL K H p ys ∨ SqT K H p ys) ∧ Q (V.int (ys.length : Nat)) H) (tCons (tVar 1) tNil))))))
          (tRet (tUn (rU fun i => V.int (-i)) (tC (V.int 1)))) tNext) (tRet (tOp (rI0 fun i j => V.int (i + j)) (tC (V.int 1)) (tOp (rIxL K) (tVar 1) (tC (V.int 0)))))
          { nx := N, rt := Q }) [some (V.str (nm k)), some (V.ref a)] H := by
      intro kk e q N
      refine ⟨_, rfl, Nat.zero_le _, fun p hp => ⟨a, p, cs, [], rfl, rfl, (same_new hp).seq hS, SqL.of upd_same, _, rfl, ?_⟩⟩
      have s1 := same_new (o := .lst []) hp
      cases cs with
      | nil =>
        refine if_t rfl (iteT ⟨1, rfl, ?_⟩)
        have := q _ s1
        unfold lcount at this
        rw [e] at this
        exact this
      | cons c r =>
        have hS1 := s1.seq hS
        refine if_f rfl ⟨_, rfl, a, _, 0, _, rfl, rfl, hS1, atI_nat (j := 0) rfl, _, _, rfl, rfl, _, rfl, ?_⟩
        have q1 := q _ s1
        unfold lcount at q1
        rw [e, pcount_ru] at q1
        by_cases h1 : c < 1
        · refine if_t (decide_eq_true h1) (iteT ⟨1, rfl, ?_⟩)
          simp only [h1, true_or, if_true] at q1
          exact q1
        · refine if_f (decide_eq_false h1) ⟨_, rfl, a, _, 0, _, rfl, rfl, hS1, atI_nat (j := 0) rfl, _, rfl, a, _, rfl, .inl hS1, _, _, rfl, rfl, _, rfl, ?_⟩
          have el : ((iL (c :: r)).length : Int) = (r.length : Int) + 1 := by rw [List.length_map, List.length_cons]; omega
          by_cases h2 : (r.length : Int) + 1 ≤ c
          · refine if_t (decide_eq_true (by rw [el]; exact h2)) ⟨1, rfl, ?_⟩
            simp only [h2, or_true, if_true] at q1
            exact q1
          · refine if_f (decide_eq_false (by rw [el]; exact h2)) ⟨_, rfl, a, _, 0, _, rfl, rfl, hS1, atI_nat (j := 0) rfl, _, _, rfl, rfl, ?_⟩
            simp only [h1, h2, or_self, if_false] at q1
            show Q (.int (1 + c)) _
            rw [Int.add_comm]
            exact q1
    refine ⟨_, rfl, rfl, _, rfl, ?_⟩
    cases k with
    | ba =>
      refine if_t (nm_dec .ba .ba) ⟨_, rfl, Nat.zero_le _, fun p hp => ⟨a, p, cs, [], rfl, rfl, (same_new hp).seq hS, SqL.of upd_same, _, rfl, ?_⟩⟩
      have := q _ (same_new (o := .lst []) hp)
      by_cases h : cs = []
      · subst h
        exact if_t rfl ⟨1, rfl, this⟩
      · have e : lcount .ba cs = 1 := by
          show (if cs = [] then none else some (1 : Int)).getD (-1) = 1
          rw [if_neg h]; rfl
        rw [e] at this
        exact if_f (decide_eq_false h) this
    | li => exact if_f (nm_dec .li .ba) ⟨_, rfl, rfl, _, rfl, if_f (nm_dec .li .ru) ⟨_, rfl, rfl, _, rfl, if_f (nm_dec .li .pi) (q _ (Same.refl _))⟩⟩
    | st => exact if_f (nm_dec .st .ba) ⟨_, rfl, rfl, _, rfl, if_f (nm_dec .st .ru) ⟨_, rfl, rfl, _, rfl, if_f (nm_dec .st .pi) (q _ (Same.refl _))⟩⟩
    | ru => exact if_f (nm_dec .ru .ba) ⟨_, rfl, rfl, _, rfl, if_t (nm_dec .ru .ru) (iteT (two .ru rfl q _))⟩
    | pi => exact if_f (nm_dec .pi .ba) ⟨_, rfl, rfl, _, rfl, if_f (nm_dec .pi .ru) ⟨_, rfl, rfl, _, rfl, if_t (nm_dec .pi .pi) (two .pi (by cases cs <;> rfl) q _)⟩⟩
theorem scInt : FnScope ["_law_told", "_law_due"] ["_law_told", "_law_due"] (defScope sInt) := ⟨rfl, rfl, rfl, by decide +kernel, rfl, by decide +kernel, by decide +kernel⟩
theorem ok_int {f : Addr} {fd : FuncData} (F : Fun K "_law_int" "_law_int" sInt f fd) (B : Bl mg) : FnOk P w K mg base CX0 1 f fd ["_law_told", "_law_due"] spInt := by
  refine F.ok scInt (fun vs H Q E h => ?_) (fun cdv Ar outer s H vs Q E hr h => ?_)
  · obtain ⟨a, b, rfl, _⟩ := h
    rfl
  · obtain ⟨a, b, rfl, q⟩ := h
    refine ⟨_, pss_one (ps_ret (pe_and (pe_callB call_isi (by rfl) B.isinstance (by decide +kernel) (pa_cons (pv 0) (pa_cons (pe_bltn (v := .ty "int") (by rfl) B.int (by decide +kernel) rfl) pa_nil)))
      (pe_and (pe_not (pe_callB call_isi (by rfl) B.isinstance (by decide +kernel) (pa_cons (pv 0) (pa_cons (pe_bltn (v := .ty "bool") (by rfl) B.bool (by decide +kernel) rfl) pa_nil))))
      (pe_one (pe_cmpR op_eq (pv 0) (pv 1) (nomark _)))))), ?_⟩
    refine ⟨_, rfl, _, _, _, _, true, rfl, .ty "int", .base (.int a), kit_ty (by decide +kernel), true, rfl, iteT ⟨_, rfl, _, _, _, _, false, rfl, .ty "bool", .base (.int a), kit_ty (by decide +kernel), false, rfl, true, rfl, iteT ⟨_, rfl, _, rfl, rfl, ?_⟩⟩⟩
    have e : decide (V.int a = V.int b) = decide (a = b) := by
      by_cases h : a = b
      · subst h; simp
      · rw [decide_eq_false h, decide_eq_false fun q => h (V.int.inj q)]
    rw [e]
    exact q
theorem scInts : FnScope ["_law_told", "_law_due", "_law_k"] ["_law_told", "_law_due"] (defScope sInts) := ⟨rfl, rfl, rfl, by decide +kernel, rfl, by decide +kernel, by decide +kernel⟩
theorem ok_ints {f : Addr} {fd : FuncData} (F : Fun K "_law_ints" "_law_ints" sInts f fd) (B : Bl mg) (G : Fc P w K mg base 1 "_law_int" spInt) : FnOk P w K mg base CX0 2 f fd ["_law_told", "_law_due"] (spInts K) := by
  refine F.ok scInts (fun vs H Q E h => ?_) (fun cdv Ar outer s H vs Q E hr h => ?_)
  · obtain ⟨a, b, ns, ms, rfl, _⟩ := h
    rfl
  · obtain ⟨a, b, ns, ms, rfl, hA, hB, hz, q⟩ := h
    have nd := scInts.nd
    refine ⟨_, pss_cons (ps_if (PW.pt (pw_or (pt_not (pt_val (pe_callB call_isi (by rfl) B.isinstance (by decide +kernel) (pa_cons (pv 0) (pa_cons (pe_bltn (v := .ty "list") (by rfl) B.list (by decide +kernel) rfl) pa_nil)))))
        (pw_or1 (pt_cmpR op_ne (pe_callB call_len_seq (by rfl) B.len PySem.boot_len (pa_cons (pv 0) pa_nil)) (pe_callB call_len_seq (by rfl) B.len PySem.boot_len (pa_cons (pv 1) pa_nil)) (nomark _)))))
        (pss_one (ps_ret pe_bl)) pss_nil)
      (pss_one (ps_ret (pe_callB (cr_all rfl) (by rfl) B.all (by decide +kernel) (pa_cons (pe_lc (own := [("_law_k", 2)]) (g := gName 2) rfl nd
          (pi_range1 (by rfl) B.range (pa_cons (pe_callB call_len_seq (by rfl) B.len PySem.boot_len (pa_cons (pv 1) pa_nil)) pa_nil))
          (blkOk_by (N := ["_law_told", "_law_due", "_law_k"]) (sc := defScope sInts) (by decide +kernel))
          (fun _ _ _ _ _ => pg_name (i := 2) nd rfl (Or.inl rfl)) (fun _ _ _ _ _ => pts_nil)
          (fun _ _ _ _ _ => by exact pc G hr (pa_cons (pe_ix (r := rIxL K) ix_list (pv 0) (pv 2) (fun _ _ => rfl)) (pa_cons (pe_ix (r := rIxL K) ix_list (pv 1) (pv 2) (fun _ _ => rfl)) pa_nil)))) pa_nil)))), ?_⟩
    refine ⟨_, rfl, _, _, _, _, true, rfl, .ty "list", .base (.lst hA), kit_ty (by decide +kernel), true, rfl, iteF ⟨_, rfl, a, _, rfl, .inl (SqL.of hA), _, rfl, b, _, rfl, .inl hB, rfl, _, rfl, ?_⟩⟩
    by_cases c : ns.length = ms.length
    case neg =>
      have e : decide (ns = ms) = false := decide_eq_false fun e => c (by rw [e])
      refine if_t (by rw [decide_eq_false (fun q => c (by have := V.int.inj q; rw [iL_len, iL_len] at this; omega))]; rfl) ?_
      have := q _ (Same.refl _)
      rw [e] at this
      exact this
    refine if_f (by rw [iL_len, iL_len, c]; simp) ?_
    refine ⟨_, rfl, b, _, rfl, .inl hB, _, rfl, by omega, by rw [iL_len]; omega, fun D hD => ?_⟩
    have en : (((iL ms).length : Nat) : Int).toNat = ms.length := by rw [iL_len]; omega
    rw [en]
    refine lc_r (fun i => ((List.zipWith (fun a b => decide (a = b)) ns ms).take i).map V.bl) hD rfl (fun i H1 hi s1 e1 => ?_) fun H1 s1 e1 => ?_
    · obtain ⟨x, hx⟩ := get_of_lt (l := ns) (i := i) (by omega)
      obtain ⟨y, hy⟩ := get_of_lt (l := ms) (i := i) hi
      refine ⟨rfl, _, rfl, _, rfl, a, _, _, _, rfl, rfl, SqL.of (s1 _ _ hA), at_of (j := i) (by omega) (iL_get hx), _, rfl, _, rfl, b, _, _, _, rfl, rfl, s1.seq hB, at_of (j := i) (by omega) (iL_get hy), x, y, rfl, lc_put hD s1 e1 (small_line ?_) (bl_put ?_)⟩
      · rw [List.length_map, List.length_take]; omega
      · rw [List.getElem?_zipWith, hx, hy]
    · refine ⟨D, _, rfl, SqL.of e1, ?_⟩
      have := q H1 s1
      rw [← all_eqs c] at this
      have et : (List.zipWith (fun a b => decide (a = b)) ns ms).take ms.length = List.zipWith (fun a b => decide (a = b)) ns ms := List.take_of_length_le (by rw [List.length_zipWith]; omega)
      rw [et]
      exact this
theorem scBent : FnScope ["_law_bend", "_law_row_here", "_law_at"] ["_law_bend", "_law_row_here"] (defScope sBent) := ⟨rfl, rfl, rfl, by decide +kernel, rfl, by decide +kernel, by decide +kernel⟩
theorem ok_bent {f : Addr} {fd : FuncData} (F : Fun K "_law_bent" "_law_bent" sBent f fd) (B : Bl mg) : FnOk P w K mg base CX0 1 f fd ["_law_bend", "_law_row_here"] (spBent K) := by
  refine F.ok scBent (fun vs H Q E h => ?_) (fun cdv Ar outer s H vs Q E hr h => ?_)
  · obtain ⟨b, a, kind, at_, step, row, rfl, _⟩ := h
    rfl
  · obtain ⟨b, a, kind, at_, step, row, rfl, hB, hA, hz, q⟩ := h
    have nd := scBent.nd
    refine ⟨_, pss_cons (ps_set (i := 2) nd rfl (Or.inl rfl) (pe_op op_mod (pe_callTy call_int1 (by rfl) B.int (by decide +kernel) (pa_cons (pe_ix ix_list (pv 0) pe_int (fun _ _ => rfl)) pa_nil))
        (pe_op op_add (pe_callB call_len_seq (by rfl) B.len PySem.boot_len (pa_cons (pv 1) pa_nil)) pe_int)))
      (pss_cons (ps_if (pt_cmpR op_eq (pe_ix ix_list (pv 0) pe_int (fun _ _ => rfl)) pe_int (nomark _))
        (pss_one (ps_ret (pe_op op_cat (pe_op op_cat (pe_slice sl_list (pv 1) po_none (po_some (pv 2))) (pe_lst (pa_cons (pe_ix ix_list (pv 0) pe_int (fun _ _ => rfl)) pa_nil))) (pe_slice sl_list (pv 1) (po_some (pv 2)) po_none)))) pss_nil)
      (pss_cons (ps_if (PW.pt (pw_or (pt_cmpR op_eq (pe_ix ix_list (pv 0) pe_int (fun _ _ => rfl)) pe_int (nomark _)) (pw_or1 (pt_cmpR op_eq (pv 2) (pe_callB call_len_seq (by rfl) B.len PySem.boot_len (pa_cons (pv 1) pa_nil)) (nomark _)))))
        (pss_one (ps_ret (pe_op op_cat (pe_slice sl_list (pv 1) po_none (po_some (pv 2))) (pe_slice sl_list (pv 1) (po_some (pe_op op_add (pv 2) pe_int)) po_none)))) pss_nil)
      (pss_one (ps_ret (pe_op op_cat (pe_op op_cat (pe_slice sl_list (pv 1) po_none (po_some (pv 2))) (pe_lst (pa_cons (pe_op op_add (pe_ix ix_list (pv 1) (pv 2) (fun _ _ => rfl)) (pe_ix ix_list (pv 0) pe_int (fun _ _ => rfl))) pa_nil)))
        (pe_slice sl_list (pv 1) (po_some (pe_op op_add (pv 2) pe_int)) po_none)))))), ?_⟩
    have B0 : atI (iL [kind, at_, step]) 0 = some (.int kind) := atI_nat (j := 0) rfl
    have B1 : atI (iL [kind, at_, step]) 1 = some (.int at_) := atI_nat (j := 1) rfl
    have B2 : atI (iL [kind, at_, step]) 2 = some (.int step) := atI_nat (j := 2) rfl
    refine ⟨_, rfl, b, _, 1, _, rfl, rfl, hB, B1, .inl ⟨_, rfl, _, rfl, a, _, rfl, .inl hA, _, _, rfl, rfl, _, _, rfl, rfl, by omega, ?_⟩⟩
    rw [iL_len]
    obtain ⟨i, ei⟩ : ∃ i : Nat, at_ % ((row.length : Int) + 1) = (i : Int) := ⟨(at_ % ((row.length : Int) + 1)).toNat, by
      have := Int.emod_nonneg at_ (show (row.length : Int) + 1 ≠ 0 by omega)
      omega⟩
    have hi : i ≤ row.length := by
      have := Int.emod_lt_of_pos at_ (show (0 : Int) < (row.length : Int) + 1 by omega)
      omega
    have eb : bent kind at_ step row = if kind = 0 then row.take i ++ [step] ++ row.drop i else if kind = 1 ∨ i = row.length then row.take i ++ row.drop (i + 1) else row.take i ++ [row.getD i 0 + step] ++ row.drop (i + 1) := by
      unfold bent
      rw [ei, Int.toNat_natCast]
    show gName 2 (V.int (at_ % ((row.length : Int) + 1))) _ _ _
    rw [ei]
    have line : ∀ n, n ≤ 5000 → n ≤ sizeLine := fun n hn => Nat.le_of_lt (small_line (by omega))
    refine ⟨_, rfl, b, _, 0, _, rfl, rfl, hB, B0, rfl, _, rfl, ?_⟩
    by_cases c0 : kind = 0
    · rw [if_pos c0] at eb
      refine if_t (by rw [c0]; rfl) ⟨_, rfl, _, rfl, _, rfl, a, _, rfl, hA, fun p hp => ?_⟩
      rw [cut_to]
      have s1 := same_new (o := .lst (iL (row.take i))) hp
      refine ⟨_, rfl, b, _, 2, _, rfl, rfl, s1.seq hB, B2, by show 1 ≤ sizeLine; decide, fun q2 hq2 => ?_⟩
      have s2 := Same.new (o := .lst [V.int step]) s1 hq2
      refine ⟨p, q2, _, _, rfl, rfl, new_ne upd_same hq2, upd_same, line _ (by simp; omega), fun r hr2 => ?_⟩
      have s3 := Same.new (o := .lst (iL (row.take i) ++ [V.int step])) s2 hr2
      refine ⟨_, rfl, _, rfl, _, rfl, a, _, rfl, s3.seq hA, fun t ht => ?_⟩
      rw [cut_from]
      have s4 := Same.new (o := .lst (iL (row.drop i))) s3 ht
      refine ⟨r, t, _, _, rfl, rfl, new_ne upd_same ht, upd_same, line _ (by simp; omega), fun u hu => q _ u (Same.new s4 hu) (s4.free hu) ?_⟩
      rw [upd_same, eb, iL_app, iL_app]; rfl
    · rw [if_neg c0] at eb
      refine if_f (decide_eq_false fun e => c0 (V.int.inj e)) ⟨_, rfl, b, _, 0, _, rfl, rfl, hB, B0, rfl, _, rfl, ?_⟩
      have del : ((kind = 1 ∨ i = row.length) → tRet (tOp rCat (tSl (rSlL K) (tVar 1) tNoPart (tPart (tVar 2))) (tSl (rSlL K) (tVar 1) (tPart (tOp (rI0 fun i j => V.int (i + j)) (tVar 2) (tC (V.int 1)))) tNoPart))
          { nx := fun _ H' => Q .non H', rt := Q } [some (V.ref b), some (V.ref a), some (V.int (i : Int))] H) := by
        intro c1
        rw [if_pos c1] at eb
        refine ⟨_, rfl, _, rfl, _, rfl, a, _, rfl, hA, fun p hp => ?_⟩
        rw [cut_to]
        have s1 := same_new (o := .lst (iL (row.take i))) hp
        refine ⟨_, rfl, _, rfl, _, _, rfl, rfl, _, rfl, a, _, rfl, s1.seq hA, fun t ht => ?_⟩
        have ec : cutV (iL row) (some ((i : Int) + 1)) none = iL (row.drop (i + 1)) := cut_from (i := i + 1)
        rw [ec]
        have s2 := Same.new (o := .lst (iL (row.drop (i + 1)))) s1 ht
        refine ⟨p, t, _, _, rfl, rfl, new_ne upd_same ht, upd_same, line _ (by simp; omega), fun u hu => q _ u (Same.new s2 hu) (s2.free hu) ?_⟩
        rw [upd_same, eb, iL_app]
      by_cases c1 : kind = 1
      · exact if_t (by rw [c1]; rfl) (iteT (del (.inl c1)))
      · refine if_f (decide_eq_false fun e => c1 (V.int.inj e)) ⟨_, rfl, _, rfl, a, _, rfl, .inl hA, rfl, _, rfl, ?_⟩
        by_cases c2 : i = row.length
        · exact if_t (by rw [iL_len, c2]; simp) (del (.inr c2))
        · rw [if_neg (by rintro (h | h); exact c1 h; exact c2 h)] at eb
          refine if_f (by rw [iL_len]; exact decide_eq_false fun e => c2 (by have := V.int.inj e; omega)) ⟨_, rfl, _, rfl, _, rfl, a, _, rfl, hA, fun p hp => ?_⟩
          rw [cut_to]
          have s1 := same_new (o := .lst (iL (row.take i))) hp
          obtain ⟨z, hz'⟩ := get_of_lt (l := row) (i := i) (by omega)
          have ez : row.getD i 0 = z := by rw [List.getD_eq_getElem?_getD, hz']; rfl
          refine ⟨_, rfl, _, rfl, a, _, _, _, rfl, rfl, s1.seq hA, at_of (j := i) rfl (iL_get hz'), _, rfl, b, _, 2, _, rfl, rfl, s1.seq hB, B2, _, _, rfl, rfl, by show 1 ≤ sizeLine; decide, fun q2 hq2 => ?_⟩
          have s2 := Same.new (o := .lst [V.int (z + step)]) s1 hq2
          refine ⟨p, q2, _, _, rfl, rfl, new_ne upd_same hq2, upd_same, line _ (by simp; omega), fun r hr2 => ?_⟩
          have s3 := Same.new (o := .lst (iL (row.take i) ++ [V.int (z + step)])) s2 hr2
          refine ⟨_, rfl, _, rfl, _, _, rfl, rfl, _, rfl, a, _, rfl, s3.seq hA, fun t ht => ?_⟩
          have ec : cutV (iL row) (some ((i : Int) + 1)) none = iL (row.drop (i + 1)) := cut_from (i := i + 1)
          rw [ec]
          have s4 := Same.new (o := .lst (iL (row.drop (i + 1)))) s3 ht
          refine ⟨r, t, _, _, rfl, rfl, new_ne upd_same ht, upd_same, line _ (by simp; omega), fun u hu => q _ u (Same.new s4 hu) (s4.free hu) ?_⟩
          rw [upd_same, eb, iL_app, iL_app, ez]; rfl
end
end K3
namespace K3
open PySem PySem.Spec PyProof.Rows L2
/-- at R: a list of lists, one for each run; all of them are new -/
structure RA (H0 H : Hp) (R : Addr) (rs : List (Int × Int)) (as : List Addr) : Prop where
  rlen : as.length = rs.length
  rlst : H R = some (.lst (as.map V.ref))
  rnd : as.Nodup
  rit : ∀ (j : Nat) a p, as[j]? = some a → rs[j]? = some p → H0 a = none ∧ H a = some (.lst (iL [p.1, p.2]))
theorem ra_some {H0 H : Hp} {R : Addr} {rs : List (Int × Int)} {as : List Addr} (r : RA H0 H R rs as) {j : Nat} {a : Addr} (h : as[j]? = some a) : ∃ p, rs[j]? = some p ∧ H0 a = none ∧ H a = some (.lst (iL [p.1, p.2])) := by
  have hj : j < rs.length := by rw [← r.rlen]; exact (List.getElem?_eq_some_iff.mp h).1
  exact ⟨rs[j], List.getElem?_eq_getElem hj, r.rit j a _ h (List.getElem?_eq_getElem hj)⟩
theorem ra_mem {H0 H : Hp} {R : Addr} {rs : List (Int × Int)} {as : List Addr} (r : RA H0 H R rs as) {a : Addr} (h : a ∈ as) : H0 a = none ∧ ∃ ns, H a = some (.lst (iL ns)) := by
  obtain ⟨j, hj⟩ := List.getElem?_of_mem h
  obtain ⟨p, _, h1, h2⟩ := ra_some r hj
  exact ⟨h1, _, h2⟩
theorem ra_notR {H0 H : Hp} {R : Addr} {rs : List (Int × Int)} {as : List Addr} (r : RA H0 H R rs as) : R ∉ as := fun h => by
  obtain ⟨j, hj⟩ := List.getElem?_of_mem h
  obtain ⟨p, _, _, h2⟩ := ra_some r hj
  rw [r.rlst] at h2
  have e := HO.lst.inj (Option.some.inj h2)
  cases as with
  | nil => simp at hj
  | cons x y => cases e
theorem ra_same {H0 H H' : Hp} {R : Addr} {rs : List (Int × Int)} {as : List Addr} (r : RA H0 H R rs as) (s : Same H H') : RA H0 H' R rs as :=
  ⟨r.rlen, s _ _ r.rlst, r.rnd, fun j a p h1 h2 => ⟨(r.rit j a p h1 h2).1, s _ _ (r.rit j a p h1 h2).2⟩⟩
theorem ra_push {H0 H : Hp} {R p : Addr} {rs : List (Int × Int)} {as : List Addr} {x : Int} (r : RA H0 H R rs as) (s : Same H0 H) (hp : H p = none) :
    RA H0 (upd (upd H p (.lst (iL [x, 1]))) R (.lst (as.map V.ref ++ [.ref p]))) R (rs ++ [(x, 1)]) (as ++ [p]) := by
  have pR : p ≠ R := fun e => by rw [e, r.rlst] at hp; cases hp
  have pas : p ∉ as := fun h => by obtain ⟨_, ns, e⟩ := ra_mem r h; rw [e] at hp; cases hp
  refine ⟨by simp [r.rlen], by rw [upd_same, List.map_append]; rfl, ?_, fun j a q h1 h2 => ?_⟩
  · rw [List.nodup_append]
    exact ⟨r.rnd, by simp, fun a ha b hb => by
      have : b = p := by simpa using hb
      subst this
      exact fun e => pas (by rw [← e]; exact ha)⟩
  · by_cases hj : j < as.length
    · rw [List.getElem?_append_left hj] at h1
      rw [List.getElem?_append_left (by rw [← r.rlen]; exact hj)] at h2
      obtain ⟨g1, g2⟩ := r.rit j a q h1 h2
      have m := List.mem_of_getElem? h1
      exact ⟨g1, by rw [upd_ne (fun e => ra_notR r (by rw [← e]; exact m)), upd_ne (fun e => pas (by rw [← e]; exact m))]; exact g2⟩
    · have hl := (List.getElem?_eq_some_iff.mp h1).1
      rw [List.length_append, List.length_singleton] at hl
      have ej : j = as.length := by omega
      subst ej
      rw [List.getElem?_append_right (Nat.le_refl _), Nat.sub_self] at h1
      rw [List.getElem?_append_right (by rw [r.rlen]; exact Nat.le_refl _), r.rlen, Nat.sub_self] at h2
      have e1 : p = a := Option.some.inj h1
      have e2 : (x, (1 : Int)) = q := Option.some.inj h2
      subst e1
      subst e2
      exact ⟨s.free hp, by rw [upd_ne pR, upd_same]⟩
theorem ra_bump {H0 H : Hp} {R a : Addr} {rs : List (Int × Int)} {as : List Addr} {x c d : Int} (r : RA H0 H R (rs ++ [(x, c)]) (as ++ [a])) : RA H0 (upd H a (.lst (iL [x, d]))) R (rs ++ [(x, d)]) (as ++ [a]) := by
  have hl : as.length = rs.length := by have := r.rlen; simpa using this
  have nR : R ≠ a := fun e => ra_notR r (by rw [e]; simp)
  refine ⟨by simp [hl], by rw [upd_ne nR]; exact r.rlst, r.rnd, fun j b q h1 h2 => ?_⟩
  have nd := List.nodup_append.mp r.rnd
  by_cases hj : j < as.length
  · have m : b ∈ as := by
      rw [List.getElem?_append_left hj] at h1
      exact List.mem_of_getElem? h1
    have nb : b ≠ a := nd.2.2 b m a (by simp)
    have h2' : (rs ++ [(x, c)])[j]? = some q := by
      rw [List.getElem?_append_left (by rw [← hl]; exact hj)] at h2 ⊢
      exact h2
    obtain ⟨g1, g2⟩ := r.rit j b q h1 h2'
    exact ⟨g1, by rw [upd_ne nb]; exact g2⟩
  · have hl2 := (List.getElem?_eq_some_iff.mp h1).1
    rw [List.length_append, List.length_singleton] at hl2
    have ej : j = as.length := by omega
    subst ej
    have ea : (rs ++ [(x, c)])[as.length]? = some (x, c) := by rw [List.getElem?_append_right (by omega), hl, Nat.sub_self]; rfl
    rw [List.getElem?_append_right (by omega), hl, Nat.sub_self] at h2
    have h1' := h1
    rw [List.getElem?_append_right (Nat.le_refl _), Nat.sub_self] at h1
    have e1 : a = b := Option.some.inj h1
    have e2 : (x, d) = q := Option.some.inj h2
    subst e1
    subst e2
    exact ⟨(r.rit _ a _ h1' ea).1, upd_same⟩
/-- the last one of it -/
theorem ra_last {H0 H : Hp} {R : Addr} {rs : List (Int × Int)} {as : List Addr} (r : RA H0 H R rs as) (h : rs ≠ []) : ∃ r' x c as' a, rs = r' ++ [(x, c)] ∧ as = as' ++ [a] ∧ H0 a = none ∧ H a = some (.lst (iL [x, c])) := by
  obtain ⟨r', ⟨x, c⟩, rfl⟩ := lastD rs h
  have hn : as ≠ [] := fun e => by have := r.rlen; rw [e] at this; simp at this
  obtain ⟨as', a, rfl⟩ := lastD as hn
  have hl : as'.length = r'.length := by have := r.rlen; simpa using this
  have := r.rit as'.length a (x, c) (by rw [List.getElem?_append_right (Nat.le_refl _), Nat.sub_self]; rfl) (by rw [List.getElem?_append_right (by omega), hl, Nat.sub_self]; rfl)
  exact ⟨r', x, c, as', a, rfl, rfl, this.1, this.2⟩
theorem atI_lastR {as : List Addr} {a : Addr} : atI ((as ++ [a]).map V.ref) (-1) = some (.ref a) := by rw [List.map_append]; exact atI_last _ _
section
variable {P : Program} {w : World} {K : PySem.W.Frag} {mg : Str → Option Value} {base : Heap} {A : Ad}
theorem scParted : FnScope ["_law_name", "_law_row_here", "_law_runs", "_law_number_here", "_law_sizes", "_law_rest", "_law_least", "_law_values", "_law_ranks", "_law_run", "_law_k"] ["_law_name", "_law_row_here"] (defScope sParted) := ⟨rfl, rfl, rfl, by decide +kernel, rfl, by decide +kernel, by decide +kernel⟩
theorem ok_parted {f : Addr} {fd : FuncData} (F : Fun K "_law_parted" "_law_parted" sParted f fd) (B : Bl mg) : FnOk P w K mg base CX0 1 f fd ["_law_name", "_law_row_here"] (spParted K) := by
  refine F.ok scParted (fun vs H Q E h => ?_) (fun cdv Ar outer s H vs Q E hr h => ?_)
  · obtain ⟨k, a, row, rfl, _⟩ := h
    rfl
  · obtain ⟨k, a, row, rfl, hS, hne, hz, hz2, q⟩ := h
    have nd := scParted.nd
    have pl : ∀ e : Expr, PlainIx e → PlainIx e := fun _ h => h
    refine ⟨_, pss_cons (ps_if (pt_cmpR op_eq (pv 0) pe_str (nomark _))
        (pss_cons (ps_set (i := 2) nd rfl (Or.inl rfl) (pe_lst pa_nil))
        (pss_cons (ps_for PassesOwn.never rfl (pi_list (pv 1)) (pg_name (i := 3) nd rfl (Or.inl rfl))
          (pss_one (ps_if (PW.pt (pw_and (pt_cmpR (op_neN hr.units) (pv 2) (pe_lst pa_nil) (nomark _)) (pw_and1 (pt_cmpR op_eq (pe_ix ix_list (pe_ix ix_list (pv 2) (pe_un un_neg pe_int) (fun _ _ => rfl)) pe_int (fun _ _ => rfl)) (pv 3) (nomark _)))))
            (pss_one (ps_asg (pe_op op_add (pe_ix ix_list (pe_ix ix_list (pv 2) (pe_un un_neg pe_int) (fun _ _ => rfl)) pe_int (fun _ _ => rfl)) pe_int) (pg_sub (pe_ix ix_list (pv 2) (pe_un un_neg pe_int) (fun _ _ => rfl)) pe_int set_list)))
            (pss_one (ps_expr (pe_bm PySem.F.plainAttrs_list PySem.F.slot_list_append PySem.F.type_list_append mt_append (pv 2) (pa_cons (pe_lst (pa_cons (pv 3) (pa_cons pe_int pa_nil))) pa_nil)))))))
        (pss_cons (ps_setLc (i := 4) (own := [("_law_run", 9)]) (g := gName 9) rfl nd rfl rfl (sw_true rfl rfl rfl (by decide +kernel)) (pi_list (pv 2))
          (blkOk_by (N := ["_law_name", "_law_row_here", "_law_runs", "_law_number_here", "_law_sizes", "_law_rest", "_law_least", "_law_values", "_law_ranks", "_law_run", "_law_k"]) (sc := defScope sParted) (by decide +kernel))
          (fun _ _ _ _ _ => pg_name (i := 9) nd rfl (Or.inl rfl)) (fun _ _ _ _ _ => pts_nil) (fun _ _ _ _ _ => pe_ix (r := rIxL K) ix_list (pv 9) pe_int (fun _ _ => rfl)))
        (pss_one (ps_ret (pe_tup (pa_cons (pe_op op_cat (pe_lst (pa_cons (pe_callB call_len_seq (by rfl) B.len PySem.boot_len (pa_cons (pv 2) pa_nil)) pa_nil)) (pv 4))
          (pa_cons (pe_lc (own := [("_law_run", 9)]) (g := gName 9) rfl nd (pi_list (pv 2))
            (blkOk_by (N := ["_law_name", "_law_row_here", "_law_runs", "_law_number_here", "_law_sizes", "_law_rest", "_law_least", "_law_values", "_law_ranks", "_law_run", "_law_k"]) (sc := defScope sParted) (by decide +kernel))
            (fun _ _ _ _ _ => pg_name (i := 9) nd rfl (Or.inl rfl)) (fun _ _ _ _ _ => pts_nil) (fun _ _ _ _ _ => pe_ix (r := rIxL K) ix_list (pv 9) pe_int (fun _ _ => rfl))) pa_nil)))))))) pss_nil)
      (pss_cons (ps_if (pt_cmpR op_eq (pv 0) pe_str (nomark _))
        (pss_cons (ps_setLc (i := 5) (own := [("_law_k", 10)]) (g := gName 10) rfl nd rfl rfl (sw_true rfl rfl rfl (by decide +kernel))
          (pi_range2 (by rfl) B.range (pa_cons pe_int (pa_cons (pe_callB call_len_seq (by rfl) B.len PySem.boot_len (pa_cons (pv 1) pa_nil)) pa_nil)))
          (blkOk_by (N := ["_law_name", "_law_row_here", "_law_runs", "_law_number_here", "_law_sizes", "_law_rest", "_law_least", "_law_values", "_law_ranks", "_law_run", "_law_k"]) (sc := defScope sParted) (by decide +kernel))
          (fun _ _ _ _ _ => pg_name (i := 10) nd rfl (Or.inl rfl)) (fun _ _ _ _ _ => pts_nil)
          (fun _ _ _ _ _ => pe_op op_sub (pe_ix (r := rIxL K) ix_list (pv 1) (pv 10) (fun _ _ => rfl)) (pe_ix (r := rIxL K) ix_list (pv 1) (pe_op op_sub (pv 10) pe_int) (fun _ _ => rfl))))
        (pss_one (ps_ret (pe_tup (pa_cons (pe_lst pa_nil) (pa_cons (pe_op op_cat (pe_slice sl_list (pv 1) po_none (po_some pe_int)) (pv 5)) pa_nil)))))) pss_nil)
      (pss_cons (ps_if (pt_cmpR op_eq (pv 0) pe_str (nomark _))
        (pss_cons (ps_set (i := 6) nd rfl (Or.inr rfl) (pe_callB (cr_min rfl) (by rfl) B.min (by decide +kernel) (pa_cons (pv 1) pa_nil)))
        (pss_one (ps_ret (pe_tup (pa_cons (pe_lst (pa_cons (pv 6) pa_nil)) (pa_cons (pe_lc (own := [("_law_number_here", 3)]) (g := gName 3) rfl nd (pi_list (pv 1))
            (blkOk_by (N := ["_law_name", "_law_row_here", "_law_runs", "_law_number_here", "_law_sizes", "_law_rest", "_law_least", "_law_values", "_law_ranks", "_law_run", "_law_k"]) (sc := defScope sParted) (by decide +kernel))
            (fun _ _ _ _ _ => pg_name (i := 3) nd rfl (Or.inl rfl)) (fun _ _ _ _ _ => pts_nil) (fun _ _ _ _ _ => pe_op op_sub (pv 3) (pv 6))) pa_nil)))))) pss_nil)
      (pss_cons (ps_if (pt_cmpR op_eq (pv 0) pe_str (nomark _))
        (pss_cons (ps_set (i := 7) nd rfl (Or.inr rfl) (pe_callB (cr_sortedSet rfl) (by rfl) B.sorted (by decide +kernel) (pa_cons (pe_callTy (cr_setI rfl) (by rfl) B.set (by decide +kernel) (pa_cons (pv 1) pa_nil)) pa_nil)))
        (pss_cons (ps_setLc (i := 8) (own := [("_law_number_here", 3)]) (g := gName 3) (te := tBM K "list" (rIndex K) (tVar 7) (tCons (tVar 3) tNil)) rfl nd rfl rfl (sw_true rfl rfl rfl (by decide +kernel)) (pi_list (pv 1))
          (blkOk_by (N := ["_law_name", "_law_row_here", "_law_runs", "_law_number_here", "_law_sizes", "_law_rest", "_law_least", "_law_values", "_law_ranks", "_law_run", "_law_k"]) (sc := defScope sParted) (by decide +kernel))
          (fun _ _ _ _ _ => pg_name (i := 3) nd rfl (Or.inl rfl)) (fun _ _ _ _ _ => pts_nil)
          (fun _ _ _ _ _ => by exact pe_bm PySem.F.plainAttrs_list PySem.F.slot_list_index PySem.F.type_list_index mt_index (pv 7) (pa_cons (pv 3) pa_nil)))
        (pss_one (ps_ret (pe_tup (pa_cons (pe_op op_cat (pe_lst (pa_cons (pe_callB call_len_seq (by rfl) B.len PySem.boot_len (pa_cons (pv 7) pa_nil)) pa_nil)) (pv 7)) (pa_cons (pv 8) pa_nil))))))) pss_nil)
      (pss_one (ps_ret (pe_tup (pa_cons (pe_lst pa_nil) (pa_cons (pe_callTy call_list_of (by rfl) B.list (by decide +kernel) (pa_cons (pv 1) pa_nil)) pa_nil)))))))), ?_⟩
    have line : ∀ n, n ≤ 5000 → n ≤ sizeLine := fun n hn => Nat.le_of_lt (small_line (by omega))
    refine ⟨_, rfl, rfl, _, rfl, ?_⟩
    cases k with
    | li =>
      refine if_f (nm_dec .li .ru) ⟨_, rfl, rfl, _, rfl, if_f (nm_dec .li .st) ⟨_, rfl, rfl, _, rfl, if_f (nm_dec .li .ba) ⟨_, rfl, rfl, _, rfl, if_f (nm_dec .li .pi) ?_⟩⟩⟩
      refine ⟨Nat.zero_le _, fun p hp => ⟨_, rfl, a, _, rfl, .inl ((same_new hp).seq hS), fun q2 hq => ⟨by show 2 ≤ sizeLine; decide, fun t ht => ?_⟩⟩⟩
      have nq := none_ne hq
      exact rPair_use q (Same.new (same_new hp) hq) hp nq.1 nq.2.symm (new_ne upd_same hq) upd_same ht
    | st =>
      refine if_f (nm_dec .st .ru) ⟨_, rfl, rfl, _, rfl, if_t (nm_dec .st .st) ?_⟩
      cases row with
      | nil => exact absurd rfl hne
      | cons c r =>
      have dl : (diffs (c :: r)).length = r.length := by
        unfold diffs
        rw [List.length_zipWith, List.tail_cons, List.length_cons]; omega
      have hl : ((iL (c :: r)).length : Int) - 1 = (r.length : Int) := by rw [iL_len, List.length_cons]; omega
      refine ⟨_, rfl, a, _, rfl, .inl hS, 1, _, rfl, ⟨by omega, by omega, by omega, by rw [iL_len]; omega⟩, fun D hD => ?_⟩
      rw [hl, Int.toNat_natCast]
      refine lc_r (fun i => iL ((diffs (c :: r)).take i)) hD rfl (fun i H1 hi s1 e1 => ?_) fun H1 s1 e1 => ?_
      · obtain ⟨x, hx⟩ := get_of_lt (l := c :: r) (i := i) (by rw [List.length_cons]; omega)
        obtain ⟨y, hy⟩ := get_of_lt (l := c :: r) (i := i + 1) (by rw [List.length_cons]; omega)
        refine ⟨rfl, _, rfl, _, rfl, a, _, _, _, rfl, rfl, s1.seq hS, at_of (j := i + 1) (by omega) (iL_get hy), _, rfl, _, rfl, _, _, rfl, rfl, a, _, _, _, rfl, rfl, s1.seq hS, at_of (j := i) (by omega) (iL_get hx), y, x, rfl, rfl, lc_put hD s1 e1 (small_line ?_) (iL_take_snoc (z := y - x) ?_)⟩
        · rw [iL_len, List.length_take]; simp only [List.length_cons] at hz; omega
        · unfold diffs
          rw [List.getElem?_zipWith, hx, List.getElem?_tail, hy]
      · have e1' : H1 D = some (.lst (iL (diffs (c :: r)))) := by
          rw [e1, ← dl, List.take_length]
        refine ⟨Nat.zero_le _, fun p hp => ⟨_, rfl, _, rfl, a, _, rfl, (Same.new s1 hp).seq hS, fun p2 hp2 => ?_⟩⟩
        have ec : cutV (iL (c :: r)) none (some 1) = iL [c] := cut_to (i := 1)
        rw [ec]
        have s2 := Same.new (o := .lst (iL [c])) (Same.new (o := .lst []) s1 hp) hp2
        refine ⟨_, rfl, p2, D, _, _, rfl, rfl, upd_same, new_ne (new_ne e1' hp) hp2, line _ (by simp [dl] at hz ⊢; omega), fun u hu => ⟨by show 2 ≤ sizeLine; decide, fun t ht => ?_⟩⟩
        have s3 := Same.new (o := .lst (iL [c] ++ iL (diffs (c :: r)))) s2 hu
        have nu := none_ne hu
        have nu2 := none_ne nu.1
        refine rPair_use q s3 (s1.free hp) (s1.free nu2.1) nu2.2.symm (new_ne (new_ne upd_same hp2) hu) ?_ ht
        rw [upd_same]
        show some (HO.lst (iL [c] ++ iL (diffs (c :: r)))) = some (HO.lst (iL ([c] ++ diffs (c :: r))))
        rw [iL_app]
    | ba =>
      refine if_f (nm_dec .ba .ru) ⟨_, rfl, rfl, _, rfl, if_f (nm_dec .ba .st) ⟨_, rfl, rfl, _, rfl, if_t (nm_dec .ba .ba) ?_⟩⟩
      refine ⟨_, rfl, a, row, rfl, hS, List.length_pos_iff.mpr hne, fun m hm hle => ?_⟩
      have em := mn_of hm hle
      subst em
      refine ⟨_, rfl, by show 1 ≤ sizeLine; decide, fun p hp => ⟨_, rfl, a, rfl, ⟨_, (same_new hp).seq hS⟩, fun G hG => lc_l (fun i => iL ((row.map fun x => x - mn row).take i)) hG ((same_new hp).seq hS) rfl (fun i x H1 hx s2 e2 => ?_) fun H1 s2 e2 => ?_⟩⟩
      · obtain ⟨z1, hz1, rfl⟩ := iL_at hx
        have := lt_of_get hz1
        refine ⟨rfl, _, rfl, _, rfl, _, _, rfl, rfl, lc_put hG s2 e2 (small_line ?_) (iL_take_snoc (z := z1 - mn row) ?_)⟩
        · rw [iL_len, List.length_take]; omega
        · rw [List.getElem?_map, hz1]; rfl
      · have e2' : H1 G = some (.lst (iL (row.map fun x => x - mn row))) := by
          rw [e2]
          show some (HO.lst (iL ((row.map fun x => x - mn row).take (iL row).length))) = _
          rw [iL_len, List.take_of_length_le (by rw [List.length_map]; exact Nat.le_refl _)]
        have nG := none_ne hG
        exact ⟨by show 2 ≤ sizeLine; decide, fun t ht => rPair_use q (Same.trans (same_new hp) s2) hp nG.1 nG.2.symm (s2 _ _ upd_same) e2' ht⟩
    | pi =>
      have hz3 := hz2 rfl
      refine if_f (nm_dec .pi .ru) ⟨_, rfl, rfl, _, rfl, if_f (nm_dec .pi .st) ⟨_, rfl, rfl, _, rfl, if_f (nm_dec .pi .ba) ⟨_, rfl, rfl, _, rfl, if_t (nm_dec .pi .pi) ?_⟩⟩⟩
      refine ⟨_, rfl, a, row, rfl, hS, by omega, fun p0 c0 hp0 hc0 => ⟨p0, _, c0, rfl, upd_same, by omega, fun ds D up mem hl hD => ?_⟩⟩
      have ed : ds = dist row := dist_of up fun z => by rw [mem z]; simp
      have dl := dist_len row
      subst ed
      have s2 := Same.new (o := .lst (iL (dist row))) (Same.new (o := SetO w p0 (fun j => decide (j ∈ row)) c0) (Same.refl H) hp0) hD
      refine ⟨_, rfl, a, rfl, ⟨_, s2.seq hS⟩, fun G hG => lc_l (fun i => iL ((row.map fun x => ((ix (dist row) x : Nat) : Int)).take i)) hG (s2.seq hS) rfl (fun i x H4 hx s6 e6 => ?_) fun H4 s6 e6 => ?_⟩
      · obtain ⟨z1, hz1, rfl⟩ := iL_at hx
        have lt := lt_of_get hz1
        have hm : z1 ∈ dist row := mem_dist.mpr (List.mem_of_getElem? hz1)
        have hD4 := s6 _ _ (show _ = some (HO.lst (iL (dist row))) from upd_same)
        refine ⟨rfl, _, rfl, .inl ⟨rfl, _, SqL.of hD4⟩, _, rfl, D, iL (dist row), V.int z1, ix (dist row) z1, V.int z1, rfl, rfl, SqL.of hD4, rfl, ?_, iL_get (ix_at hm), ?_, fun m z' hm1 hm2 => ?_, lc_put hG s6 e6 (small_line ?_) (iL_take_snoc ?_)⟩
        · exact List.all_eq_true.mpr fun v hv => by
            obtain ⟨y, _, rfl⟩ := List.mem_map.mp hv
            rfl
        · show (z1 == z1) = true
          exact beq_self_eq_true _
        · obtain ⟨y, hy, rfl⟩ := iL_at hm2
          have := ix_first hm1 hy
          show (y == z1) = false
          exact beq_eq_false_iff_ne.mpr this
        · rw [iL_len, List.length_take]; omega
        · rw [List.getElem?_map, hz1]; rfl
      · have e6' : H4 G = some (.lst (iL (row.map fun x => ((ix (dist row) x : Nat) : Int)))) := by
          rw [e6]
          show some (HO.lst (iL ((row.map fun x => ((ix (dist row) x : Nat) : Int)).take (iL row).length))) = _
          rw [iL_len, List.take_of_length_le (by rw [List.length_map]; exact Nat.le_refl _)]
        have hD4 := s6 _ _ (show _ = some (HO.lst (iL (dist row))) from upd_same)
        refine ⟨_, rfl, D, _, rfl, .inl (SqL.of hD4), by show 1 ≤ sizeLine; decide, fun p1 hp1 => ⟨_, rfl, p1, D, _, _, rfl, rfl, upd_same, new_ne hD4 hp1, line _ (by simp; omega), fun u hu => ⟨_, rfl, by show 2 ≤ sizeLine; decide, fun t ht => ?_⟩⟩⟩
        have s7 := Same.trans s2 s6
        have nu := none_ne hu
        refine rPair_use q (Same.new (Same.new s7 hp1) hu) (s7.free nu.1) (s2.free hG) (fun e => ?_) ?_ (new_ne (new_ne e6' hp1) hu) ht
        · rw [e] at nu
          rw [e6'] at nu
          cases nu.1
        · rw [upd_same]
          show some (HO.lst ([V.int ((iL (dist row)).length : Nat)] ++ iL (dist row))) = some (HO.lst (iL (((dist row).length : Int) :: dist row)))
          rw [iL_len]; rfl
    | ru =>
      refine if_t (nm_dec .ru .ru) ⟨Nat.zero_le _, fun R hR => ?_⟩
      have ref_at : ∀ {as : List Addr} {i : Nat} {x : V}, (as.map V.ref)[i]? = some x → ∃ b, as[i]? = some b ∧ x = .ref b := fun {as i x} h => by
        rw [List.getElem?_map] at h
        cases e : as[i]? with
        | none => rw [e] at h; cases h
        | some b => rw [e] at h; exact ⟨b, rfl, (Option.some.inj h).symm⟩
      refine ⟨_, rfl, a, rfl, ⟨_, (same_new hR).seq hS⟩, for_list (K := K) (a := a) (xs := iL row) (fun i σ H' => ∃ (t : Option V) (as : List Addr), σ = [some (.str (nm .ru)), some (.ref a), some (.ref R), t, none, none, none, none, none, none, none] ∧ Same H H' ∧ RA H H' R (runs (row.take i)) as)
        ⟨none, [], rfl, same_new hR, ⟨rfl, upd_same, List.nodup_nil, fun j a p h => by simp at h⟩⟩ (fun i σ H' _ ⟨_, _, _, s1, _⟩ => s1.seq hS) ?_ ?_⟩
      · rintro i y σ H' hi ⟨t, as, rfl, s1, r1⟩
        obtain ⟨z, hz', rfl⟩ := iL_at hi
        have lt := lt_of_get hz'
        have er : runs (row.take (i + 1)) = stepR (runs (row.take i)) z := by rw [take_snoc hz', runs_snoc]
        have rl : (runs (row.take i)).length ≤ 1000 := by have := runs_len (row.take i); rw [List.length_take] at this; omega
        generalize runs (row.take i) = rs at er r1 rl
        refine ⟨_, rfl, Nat.zero_le _, fun q1 hq1 => ?_⟩
        have r2 := ra_same r1 (same_new (o := .lst []) hq1)
        have s2 := Same.new (o := .lst []) s1 hq1
        have push : ∀ (rs' : List (Int × Int)), rs' = rs → stepR rs z = rs' ++ [(z, 1)] → ∀ D : Ends, D.nx = (fun σ H' => ∃ (t : Option V) (as : List Addr), σ = [some (.str (nm .ru)), some (.ref a), some (.ref R), t, none, none, none, none, none, none, none] ∧ Same H H' ∧ RA H H' R (runs (row.take (i + 1))) as) →
            tDrop (tBM K "list" rAppend (tVar 2) (tCons (tLst (tCons (tVar 3) (tCons (tC (V.int 1)) tNil))) tNil)) D [some (.str (nm .ru)), some (.ref a), some (.ref R), some (.int z), none, none, none, none, none, none, none] (upd H' q1 (.lst [])) := by
          intro rs' e1 e2 D hD
          subst e1
          refine ⟨_, rfl, .inl ⟨rfl, _, SqL.of r2.rlst⟩, _, rfl, by show 2 ≤ sizeLine; decide, fun p hp => ⟨R, as.map V.ref, .ref p, rfl, rfl, new_ne r2.rlst hp, small_line (by rw [List.length_map, r1.rlen]; omega), ?_⟩⟩
          rw [hD]
          refine ⟨_, as ++ [p], rfl, fun b o e => ?_, ?_⟩
          · rw [upd_ne (ne_of_none e hR)]; exact Same.new s2 hp b o e
          · rw [er, e2]
            exact ra_push r2 s2 hp
        refine ⟨R, q1, as.map V.ref, rfl, rfl, SqL.of r2.rlst, SqL.of upd_same, fun v hv => ?_, _, rfl, ?_⟩
        · obtain ⟨b, hb, rfl⟩ := List.mem_map.mp hv
          obtain ⟨_, ns, e⟩ := ra_mem r2 hb
          exact ⟨b, ns, rfl, SqL.of e⟩
        by_cases hn : rs = []
        · have ha : as = [] := List.length_eq_zero_iff.mp (by rw [r1.rlen, hn]; rfl)
          exact if_f (by rw [ha]; rfl) (iteF (push rs rfl (by rw [hn]; rfl) _ rfl))
        · obtain ⟨r', x, c, as', b, e1, e2, hb0, hb⟩ := ra_last r2 hn
          subst e1
          subst e2
          refine if_t (by simp) ⟨_, rfl, 1, rfl, R, _, -1, .ref b, rfl, rfl, SqL.of r2.rlst, atI_lastR, b, _, 0, _, rfl, rfl, SqL.of hb, atI_nat (j := 0) rfl, _, rfl, rfl, _, rfl, ?_⟩
          by_cases hx : x = z
          · subst hx
            refine if_t (by simp) ⟨_, rfl, 1, rfl, R, _, -1, .ref b, rfl, rfl, SqL.of r2.rlst, atI_lastR, b, _, 1, _, rfl, rfl, SqL.of hb, atI_nat (j := 1) rfl, c, 1, rfl, rfl, _, rfl, 1, rfl, R, _, -1, .ref b, rfl, rfl, SqL.of r2.rlst, atI_lastR, b, _, 1, 1, rfl, rfl, hb, rfl, _, as' ++ [b], rfl, fun b' o e => ?_, ?_⟩
            · rw [upd_ne (ne_of_none e hb0)]; exact s2 b' o e
            · rw [er, stepR_same]
              exact ra_bump r2
          · exact if_f (decide_eq_false fun e => hx (V.int.inj e)) (push _ rfl (stepR_other r' hx) _ rfl)
      · rintro σ H' ⟨t, as, rfl, s1, r1⟩
        rw [iL_len, List.take_length] at r1
        have rl : (runs row).length ≤ 1000 := by have := runs_len row; omega
        have hA := r1.rlst
        refine ⟨_, rfl, R, rfl, ⟨_, SqL.of hA⟩, fun G hG => lc_l (fun i => iL (((runs row).map (·.2)).take i)) hG (SqL.of hA) rfl (fun i x H1 hx s2 e2 => ?_) fun H1 s2 e2 => ?_⟩
        · obtain ⟨b, hb, rfl⟩ := ref_at hx
          obtain ⟨p, hp, _, hc⟩ := ra_some r1 hb
          refine ⟨rfl, _, rfl, b, _, 1, _, rfl, rfl, SqL.of (s2 _ _ hc), atI_nat (j := 1) rfl, lc_put hG s2 e2 (small_line ?_) (iL_take_snoc (z := p.2) ?_)⟩
          · rw [iL_len, List.length_take, List.length_map]; omega
          · rw [List.getElem?_map, hp]; rfl
        · have e2' : H1 G = some (.lst (iL ((runs row).map (·.2)))) := by
            rw [e2]
            show some (HO.lst (iL (((runs row).map (·.2)).take (as.map V.ref).length))) = _
            rw [List.length_map, r1.rlen, List.take_of_length_le (by rw [List.length_map]; exact Nat.le_refl _)]
          have hA2 := s2 _ _ hA
          have s3 := Same.trans s1 s2
          refine ⟨_, rfl, R, _, rfl, .inl (SqL.of hA2), by show 1 ≤ sizeLine; decide, fun p hp => ⟨_, rfl, p, G, _, _, rfl, rfl, upd_same, new_ne e2' hp, line _ (by simp; omega), fun u hu => ?_⟩⟩
          have s4 := Same.new (o := .lst ([V.int ((as.map V.ref).length : Nat)] ++ iL ((runs row).map (·.2)))) (Same.new (o := .lst [V.int ((as.map V.ref).length : Nat)]) s3 hp) hu
          have nu := none_ne hu
          have s5 : Same H1 (upd (upd H1 p (.lst [V.int ((as.map V.ref).length : Nat)])) u (.lst ([V.int ((as.map V.ref).length : Nat)] ++ iL ((runs row).map (·.2))))) := Same.new (same_new hp) hu
          have r5 := ra_same (ra_same r1 s2) s5
          refine ⟨_, rfl, R, rfl, ⟨_, SqL.of (s5 _ _ hA2)⟩, fun G2 hG2 => lc_l (fun i => iL (((runs row).map (·.1)).take i)) hG2 (SqL.of (s5 _ _ hA2)) rfl (fun i x H4 hx s6 e6 => ?_) fun H4 s6 e6 => ?_⟩
          · obtain ⟨b, hb, rfl⟩ := ref_at hx
            obtain ⟨p', hp', _, hc⟩ := ra_some r5 hb
            refine ⟨rfl, _, rfl, b, _, 0, _, rfl, rfl, SqL.of (s6 _ _ hc), atI_nat (j := 0) rfl, lc_put hG2 s6 e6 (small_line ?_) (iL_take_snoc (z := p'.1) ?_)⟩
            · rw [iL_len, List.length_take, List.length_map]; omega
            · rw [List.getElem?_map, hp']; rfl
          · have e6' : H4 G2 = some (.lst (iL ((runs row).map (·.1)))) := by
              rw [e6]
              show some (HO.lst (iL (((runs row).map (·.1)).take (as.map V.ref).length))) = _
              rw [List.length_map, r1.rlen, List.take_of_length_le (by rw [List.length_map]; exact Nat.le_refl _)]
            have nG := none_ne hG2
            refine ⟨by show 2 ≤ sizeLine; decide, fun t ht => rPair_use q (Same.trans s4 s6) (s3.free nu.1) (s4.free hG2) nG.2.symm ?_ e6' ht⟩
            refine s6 _ _ (upd_same.trans ?_)
            show some (HO.lst ([V.int ((as.map V.ref).length : Nat)] ++ iL ((runs row).map (·.2)))) = some (HO.lst (iL (((runs row).length : Int) :: (runs row).map (·.2))))
            rw [List.length_map, r1.rlen]; rfl
end
end K3
namespace K3
open PySem PySem.Spec PyProof.Rows L2
def rLen (K : PySem.W.Frag) : List V → Hp → VK → Prop := fun xs H Q => ∃ p ys, xs = [.ref p] ∧ (SqL K H p ys ∨ SqT K H p ys) ∧ Q (.int ys.length) H
theorem rep_flat (x : Int) : ∀ n : Nat, (List.replicate n [V.int x]).flatten = iL (List.replicate n x)
  | 0 => rfl
  | n + 1 => by
    rw [List.replicate_succ, List.flatten_cons, rep_flat x n, List.replicate_succ]
    rfl
theorem iL_set {l : List Int} {i : Nat} {x : Int} : (iL l).set i (.int x) = iL (l.set i x) := List.map_set.symm
theorem psums_len (l : List Int) : (psums l).length = l.length := psF_len 0 l
/-- the list while it is summed up: behind i steps -/
def half (l : List Int) (i : Nat) : List Int := (psums l).take (i + 1) ++ l.drop (i + 1)
theorem half_zero : ∀ l : List Int, half l 0 = l
  | [] => rfl
  | s :: t => by
    show [0 + s] ++ t = s :: t
    rw [Int.zero_add]; rfl
theorem half_end {l : List Int} {i : Nat} (h : l.length ≤ i + 1) : half l i = psums l := by
  unfold half
  rw [List.take_of_length_le (by rw [psums_len]; exact h), List.drop_of_length_le h, List.append_nil]
theorem half_len (l : List Int) (i : Nat) : (half l i).length = l.length := by
  unfold half
  rw [List.length_append, List.length_take, List.length_drop, psums_len]; omega
theorem half_lo {l : List Int} {i : Nat} {z : Int} (hz : l[i]? = some z) : (half l i)[i]? = some ((l.take i).sum + z) := by
  have := lt_of_get hz
  unfold half
  rw [List.getElem?_append_left (by rw [List.length_take, psums_len]; omega), List.getElem?_take, if_pos (by omega), psums_get hz]
theorem half_hi {l : List Int} {i : Nat} (h : i + 1 < l.length) : (half l i)[i + 1]? = l[i + 1]? := by
  unfold half
  rw [List.getElem?_append_right (by rw [List.length_take]; omega), List.length_take, psums_len, Nat.min_eq_left (by omega), Nat.sub_self, List.getElem?_drop]
theorem half_step {l : List Int} {i : Nat} {y z : Int} (hz : l[i]? = some z) (hy : l[i + 1]? = some y) : (half l i).set (i + 1) ((l.take i).sum + z + y) = half l (i + 1) := by
  have hl := lt_of_get hy
  have e1 : (psums l).take (i + 1 + 1) = (psums l).take (i + 1) ++ [(l.take i).sum + z + y] := by
    have := psums_get hy
    rw [take_snoc hz, List.sum_append] at this
    rw [take_snoc this]
    simp
  unfold half
  rw [e1, List.set_append_right _ _ (by rw [List.length_take]; omega), List.length_take, psums_len, Nat.min_eq_left (by omega), Nat.sub_self, List.append_assoc]
  congr 1
  rw [List.drop_eq_getElem_cons hl]
  rfl
section
variable {P : Program} {w : World} {K : PySem.W.Frag} {mg : Str → Option Value} {base : Heap} {A : Ad}
/-- what is so between two of the ifs: the new list p holds r -/
def JMid (H : Hp) (k : Lk) (a b : Addr) (r : List Int) : L2.St → Hp → Prop := fun σ H' => ∃ (p : Addr) (t4 t5 : Option V), σ = [some (.str (nm k)), some (.ref a), some (.ref b), some (.ref p), t4, t5, none, none] ∧ Same H H' ∧ H p = none ∧ H' p = some (.lst (iL r))
theorem scJoined : FnScope ["_law_name", "_law_own_here", "_law_inner", "_law_row_here", "_law_k", "_law_values", "_law_number_here", "_law_at"] ["_law_name", "_law_own_here", "_law_inner"] (defScope sJoined) := ⟨rfl, rfl, rfl, by decide +kernel, rfl, by decide +kernel, by decide +kernel⟩
theorem ok_joined {f : Addr} {fd : FuncData} (F : Fun K "_law_joined" "_law_joined" sJoined f fd) (B : Bl mg) (G : Fc P w K mg base 1 "_law_parted" (spParted K)) : FnOk P w K mg base CX0 2 f fd ["_law_name", "_law_own_here", "_law_inner"] (spJoined K) := by
  refine F.ok scJoined (fun vs H Q E h => ?_) (fun cdv Ar outer s H vs Q E hr h => ?_)
  · obtain ⟨k, a, b, own, inner, rfl, _⟩ := h
    rfl
  · obtain ⟨k, a, b, own, inner, rfl, hA, hB, hsm, q⟩ := h
    obtain ⟨hl1, hl2, hru⟩ := hsm
    have nd := scJoined.nd
    refine ⟨_, pss_cons (ps_set (i := 3) nd rfl (Or.inl rfl) (pe_callTy call_list_of (by rfl) B.list (by decide +kernel) (pa_cons (pv 2) pa_nil)))
      (C8.pss_cut (ps_if (pt_cmpR op_eq (pv 0) pe_str (nomark _))
        (pss_cons (ps_set (i := 3) nd rfl (Or.inl rfl) (pe_lst pa_nil))
        (pss_one (ps_for PassesOwn.never rfl (pi_range1 (by rfl) B.range (pa_cons (pe_callB (call_min2 rfl) (by rfl) B.min (by decide +kernel) (pa_cons (pe_callB call_len_seq (by rfl) B.len PySem.boot_len (pa_cons (pv 2) pa_nil))
              (pa_cons (pe_op op_sub (pe_callB call_len_seq (by rfl) B.len PySem.boot_len (pa_cons (pv 1) pa_nil)) pe_int) pa_nil))) pa_nil)) (pg_name (i := 4) nd rfl (Or.inl rfl))
          (pss_one (ps_set (i := 3) nd rfl (Or.inl rfl) (pe_op op_cat (pv 3) (pe_op op_rep (pe_lst (pa_cons (pe_ix ix_list (pv 2) (pv 4) (fun _ _ => rfl)) pa_nil)) (pe_ix ix_list (pv 1) (pe_op op_add (pv 4) pe_int) (fun _ _ => rfl)))))))))
        pss_nil)
      (C8.pss_cut (ps_if (pt_cmpR op_eq (pv 0) pe_str (nomark _))
        (pss_one (ps_for PassesOwn.never rfl (pi_range2 (by rfl) B.range (pa_cons pe_int (pa_cons (pe_callB call_len_seq (by rfl) B.len PySem.boot_len (pa_cons (pv 3) pa_nil)) pa_nil))) (pg_name (i := 4) nd rfl (Or.inl rfl))
          (pss_one (ps_asg (pe_op op_add (pe_ix ix_list (pv 3) (pe_op op_sub (pv 4) pe_int) (fun _ _ => rfl)) (pe_ix ix_list (pv 3) (pv 4) (fun _ _ => rfl))) (pg_sub (pv 3) (pv 4) set_list)))))
        pss_nil)
      (C8.pss_cut (ps_if (PW.pt (pw_and (pt_cmpR op_eq (pv 0) pe_str (nomark _)) (pw_and1 (pt_cmpR (op_neI hr.units) (pv 1) (pe_lst pa_nil) (nomark _)))))
        (pss_one (ps_setLc (i := 3) (own := [("_law_number_here", 6)]) (g := gName 6) rfl nd rfl rfl (sw_true rfl rfl rfl (by decide +kernel)) (pi_list (pv 2))
          (blkOk_by (N := ["_law_name", "_law_own_here", "_law_inner", "_law_row_here", "_law_k", "_law_values", "_law_number_here", "_law_at"]) (sc := defScope sJoined) (by decide +kernel))
          (fun _ _ _ _ _ => pg_name (i := 6) nd rfl (Or.inl rfl)) (fun _ _ _ _ _ => pts_nil) (fun _ _ _ _ _ => pe_op op_add (pv 6) (pe_ix (r := rIxL K) ix_list (pv 1) pe_int (fun _ _ => rfl)))))
        pss_nil)
      (C8.pss_cut (ps_if (pt_cmpR op_eq (pv 0) pe_str (nomark _))
        (pss_cons (ps_set (i := 5) nd rfl (Or.inr rfl) (pe_slice sl_list (pv 1) (po_some pe_int) po_none))
        (pss_one (ps_setLc (i := 3) (own := [("_law_at", 7)]) (g := gName 7) rfl nd rfl rfl (sw_true rfl rfl rfl (by decide +kernel)) (pi_list (pv 2))
          (blkOk_by (N := ["_law_name", "_law_own_here", "_law_inner", "_law_row_here", "_law_k", "_law_values", "_law_number_here", "_law_at"]) (sc := defScope sJoined) (by decide +kernel))
          (fun _ _ _ _ _ => pg_name (i := 7) nd rfl (Or.inl rfl))
          (fun _ _ _ _ _ => pts_one (pt_chain op_le op_lt pe_int (pv 7) (pe_callB (r := rLen K) call_len_seq (by rfl) B.len PySem.boot_len (pa_cons (pv 5) pa_nil))))
          (fun _ _ _ _ _ => pe_ix (r := rIxL K) ix_list (pv 5) (pv 7) (fun _ _ => rfl)))))
        pss_nil)
      (pss_cons (ps_if (PW.pt (pw_or (pt_cmpR (op_eqI hr.units) (pv 3) (pe_lst pa_nil) (nomark _)) (pw_or1 (pt_cmpR op_gt (pe_callB call_len_seq (by rfl) B.len PySem.boot_len (pa_cons (pv 3) pa_nil)) pe_int (nomark _)))))
        (pss_one (ps_ret (pe_lst pa_nil))) pss_nil)
      (pss_one (ps_ret (pe_ifExp (pt_cmpR (op_eqP hr.units) (pc G hr (pa_cons (pv 0) (pa_cons (pv 3) pa_nil))) (pe_tup (pa_cons (pv 1) (pa_cons (pv 2) pa_nil))) (nomark _)) (pv 3) (pe_lst pa_nil))))))))), ?_⟩
    have line : ∀ n, n ≤ 1000000 → n ≤ sizeLine := fun n hn => by rw [sizeLine_eq]; omega
    refine ⟨_, rfl, b, _, rfl, .inl hB, fun p0 hp0 => ?_⟩
    -- runs
    refine ⟨JMid H k a b (if k = .ru then cand k own inner else inner), ?_, ?_⟩
    · refine ⟨_, rfl, rfl, _, rfl, ?_⟩
      by_cases hk : k = .ru
      case neg =>
        refine if_f ((nm_dec k .ru).trans (decide_eq_false hk)) ⟨p0, none, none, rfl, same_new hp0, hp0, ?_⟩
        rw [if_neg hk]; exact upd_same
      subst hk
      have hb := hru rfl
      refine if_t (nm_dec .ru .ru) ⟨Nat.zero_le _, fun p1 hp1 => ?_⟩
      have n1 := none_ne hp1
      have s1 := Same.new (o := .lst []) (same_new (o := .lst (iL inner)) hp0) hp1
      rw [if_pos rfl]
      have zl : (inner.zip own.tail).length = min inner.length (own.length - 1) := by rw [List.length_zip, List.length_tail]
      have en : (if ((iL own).length : Int) - 1 < ((iL inner).length : Int) then ((iL own).length : Int) - 1 else ((iL inner).length : Int)).toNat = (inner.zip own.tail).length := by
        rw [zl, iL_len, iL_len]
        split <;> omega
      have bnd : ∀ i, i ≤ (inner.zip own.tail).length → (expand ((inner.zip own.tail).take i)).length ≤ 2000 * i := by
        intro i
        induction i with
        | zero => intro _; simp [expand]
        | succ i ih =>
          intro hi
          have := ih (by omega)
          obtain ⟨z, hz⟩ : ∃ z, (inner.zip own.tail)[i]? = some z := ⟨_, List.getElem?_eq_getElem (by omega)⟩
          rw [take_snoc hz, show [z] = [(z.1, z.2)] from rfl, expand_snoc, List.length_append, List.length_replicate]
          have hm := hb _ (List.mem_of_mem_tail (List.of_mem_zip (List.mem_of_getElem? hz)).2)
          omega
      refine ⟨_, rfl, b, _, rfl, .inl (s1.seq hB), _, rfl, a, _, rfl, .inl (s1.seq hA), _, _, rfl, rfl, _, _, rfl, _, rfl, ?_, ?_, ?_⟩
      · rw [iL_len, iL_len]; split <;> omega
      · rw [iL_len, iL_len]; split <;> omega
      · rw [en]
        refine for_range (lo := 0) (n := (inner.zip own.tail).length) (fun i σ H' => JMid H .ru a b (expand ((inner.zip own.tail).take i)) σ H') ⟨p1, none, none, rfl, s1, n1.1, upd_same⟩ ?_ ?_
        · rintro i σ H' hi ⟨p, t4, t5, rfl, s2, np, ep⟩
          obtain ⟨⟨x, y⟩, hz⟩ : ∃ z, (inner.zip own.tail)[i]? = some z := ⟨_, List.getElem?_eq_getElem hi⟩
          have hxy := List.getElem?_zip_eq_some.mp hz
          have hy : own[i + 1]? = some y := by rw [← List.getElem?_tail]; exact hxy.2
          have by2 := hb y (List.mem_of_getElem? hy)
          refine ⟨_, rfl, _, rfl, _, rfl, b, _, _, _, rfl, rfl, s2.seq hB, at_of (j := i) (by omega) (iL_get hxy.1), by show 1 ≤ sizeLine; decide, fun q1 hq1 => ⟨_, rfl, _, rfl, _, _, rfl, rfl, a, _, _, _, rfl, rfl, (Same.new s2 hq1).seq hA, at_of (j := i + 1) (by omega) (iL_get hy), q1, y, _, rfl, rfl, upd_same, by omega, by omega, line _ (by simp; omega), fun q2 hq2 => ?_⟩⟩
          rw [rep_flat]
          have s3 := Same.new (o := .lst (iL (List.replicate y.toNat x))) (Same.new (o := .lst [V.int x]) s2 hq1) hq2
          refine ⟨p, q2, _, _, rfl, rfl, new_ne (new_ne ep hq1) hq2, upd_same, line _ ?_, fun u hu => ⟨u, _, t5, rfl, Same.new s3 hu, s3.free hu, ?_⟩⟩
          · have := bnd i (by omega)
            rw [iL_len, iL_len, List.length_replicate]
            omega
          · rw [upd_same, take_snoc hz, expand_snoc, iL_app]
        · rintro σ H' ⟨p, t4, t5, rfl, s2, np, ep⟩
          rw [List.take_length] at ep
          exact ⟨p, t4, t5, rfl, s2, np, ep⟩
    rintro σ H1 ⟨p1, t4, t5, rfl, s1, np1, ep1⟩
    -- steps
    refine ⟨JMid H k a b (if k = .ru ∨ k = .st then cand k own inner else inner), ?_, ?_⟩
    · refine ⟨_, rfl, rfl, _, rfl, ?_⟩
      by_cases hk : k = .st
      case neg =>
        refine if_f ((nm_dec k .st).trans (decide_eq_false hk)) ⟨p1, t4, t5, rfl, s1, np1, ?_⟩
        rw [ep1]
        by_cases h2 : k = .ru
        · rw [if_pos h2, if_pos (.inl h2)]
        · rw [if_neg h2, if_neg (by rintro (h | h); exact h2 h; exact hk h)]
      subst hk
      rw [if_neg (by decide)] at ep1
      rw [if_pos (show Lk.st = Lk.ru ∨ Lk.st = Lk.st from .inr rfl)]
      refine if_t (nm_dec .st .st) ⟨_, rfl, p1, _, rfl, .inl (SqL.of ep1), 1, _, rfl, ⟨by omega, by omega, by omega, by rw [iL_len]; omega⟩, ?_⟩
      refine for_range (lo := 1) (n := (((iL inner).length : Int) - 1).toNat) (fun i σ H' => JMid H .st a b (half inner i) σ H') ⟨p1, t4, t5, rfl, s1, np1, by rw [half_zero]; exact ep1⟩ ?_ ?_
      · rintro i σ H' hi ⟨p, u4, u5, rfl, s2, np, ep⟩
        rw [iL_len] at hi
        obtain ⟨z, hz⟩ := get_of_lt (l := inner) (i := i) (by omega)
        obtain ⟨y, hy⟩ := get_of_lt (l := inner) (i := i + 1) (by omega)
        have hy2 : (half inner i)[i + 1]? = some y := by rw [half_hi (by omega), hy]
        refine ⟨_, rfl, _, rfl, _, _, rfl, rfl, p, _, _, _, rfl, rfl, SqL.of ep, at_of (j := i) (by omega) (iL_get (half_lo hz)), _, rfl, _, rfl, p, _, _, _, rfl, rfl, SqL.of ep, at_of (j := i + 1) (by omega) (iL_get hy2), _, _, rfl, rfl, _, rfl, _, rfl, p, _, _, i + 1, rfl, rfl, ep, ?_, p, _, u5, rfl, fun b' o e => ?_, np, ?_⟩
        · rw [iL_len, half_len]
          unfold ixN
          rw [if_pos (by omega), if_pos (by omega)]
          congr 1
          omega
        · rw [upd_ne (ne_of_none e np)]; exact s2 b' o e
        · rw [upd_same, ← half_step hz hy]
          exact congrArg (fun l => some (HO.lst l)) iL_set
      · rintro σ H' ⟨p, u4, u5, rfl, s2, np, ep⟩
        refine ⟨p, u4, u5, rfl, s2, np, ?_⟩
        rw [ep, half_end (by rw [iL_len]; omega)]; rfl
    clear s1 np1 ep1
    rintro σ H1 ⟨p1, t4, t5, rfl, s1, np1, ep1⟩
    -- base
    refine ⟨JMid H k a b (if k = .ru ∨ k = .st ∨ k = .ba then cand k own inner else inner), ?_, ?_⟩
    · refine ⟨_, rfl, rfl, _, rfl, ?_⟩
      by_cases hk : k = .ba
      case neg =>
        refine if_f ((nm_dec k .ba).trans (decide_eq_false hk)) (iteF ⟨p1, t4, t5, rfl, s1, np1, ?_⟩)
        rw [ep1]
        by_cases h2 : k = .ru ∨ k = .st
        · rw [if_pos h2, if_pos (by rcases h2 with h | h; exact .inl h; exact .inr (.inl h))]
        · rw [if_neg h2, if_neg (by rintro (h | h | h); exact h2 (.inl h); exact h2 (.inr h); exact hk h)]
      subst hk
      rw [if_neg (by decide)] at ep1
      rw [if_pos (show Lk.ba = Lk.ru ∨ Lk.ba = Lk.st ∨ Lk.ba = Lk.ba from .inr (.inr rfl))]
      refine if_t (nm_dec .ba .ba) ⟨_, rfl, Nat.zero_le _, fun q1 hq1 => ⟨a, q1, own, [], rfl, rfl, (Same.new s1 hq1).seq hA, SqL.of upd_same, _, rfl, ?_⟩⟩
      have s2 := Same.new (o := .lst []) s1 hq1
      cases own with
      | nil => exact if_f rfl ⟨p1, t4, t5, rfl, s2, np1, new_ne ep1 hq1⟩
      | cons o r =>
        refine if_t rfl ⟨_, rfl, b, rfl, ⟨_, s2.seq hB⟩, fun D hD => lc_l (fun i => iL ((inner.map fun x => x + o).take i)) hD (s2.seq hB) rfl (fun i x H3 hx s3 e3 => ?_) fun H3 s3 e3 => ⟨D, t4, t5, rfl, Same.trans s2 s3, s2.free hD, ?_⟩⟩
        · obtain ⟨z1, hz1, rfl⟩ := iL_at hx
          have := lt_of_get hz1
          refine ⟨rfl, _, rfl, _, rfl, a, _, 0, _, rfl, rfl, (Same.trans s2 s3).seq hA, atI_nat (j := 0) rfl, _, _, rfl, rfl, lc_put hD s3 e3 (small_line ?_) (iL_take_snoc (z := z1 + o) ?_)⟩
          · rw [iL_len, List.length_take]; omega
          · rw [List.getElem?_map, hz1]; rfl
        · rw [e3]
          show some (HO.lst (iL ((inner.map fun x => x + o).take (iL inner).length))) = some (HO.lst (iL (inner.map fun x => x + o)))
          rw [iL_len, List.take_of_length_le (by rw [List.length_map]; exact Nat.le_refl _)]
    clear s1 np1 ep1
    rintro σ H1 ⟨p1, t4, t5, rfl, s1, np1, ep1⟩
    -- pick
    refine ⟨JMid H k a b (cand k own inner), ?_, ?_⟩
    · refine ⟨_, rfl, rfl, _, rfl, ?_⟩
      by_cases hk : k = .pi
      case neg =>
        refine if_f ((nm_dec k .pi).trans (decide_eq_false hk)) ⟨p1, t4, t5, rfl, s1, np1, ?_⟩
        rw [ep1]
        cases k <;> first | rfl | exact absurd rfl hk
      subst hk
      refine if_t (nm_dec .pi .pi) ⟨_, rfl, _, rfl, a, _, rfl, s1.seq hA, fun q1 hq1 => ?_⟩
      have ec : cutV (iL own) (some 1) none = iL own.tail := by
        have := cut_from (row := own) (i := 1)
        rw [List.drop_one] at this
        exact this
      rw [ec]
      have s2 := Same.new (o := .lst (iL own.tail)) s1 hq1
      have tl : own.tail.length ≤ 60 := by rw [List.length_tail]; omega
      refine ⟨_, rfl, b, rfl, ⟨_, s2.seq hB⟩, fun D hD => lc_l (fun i => iL ((inner.take i).filterMap fun (x : Int) => if 0 ≤ x ∧ x < (own.tail.length : Int) then own.tail[x.toNat]? else none)) hD (s2.seq hB) rfl (fun i x H3 hx s3 e3 => ?_) fun H3 s3 e3 => ⟨D, t4, _, rfl, Same.trans s2 s3, s2.free hD, ?_⟩⟩
      · obtain ⟨z1, hz1, rfl⟩ := iL_at hx
        have lt := lt_of_get hz1
        have fl : ((inner.take i).filterMap fun (x : Int) => if 0 ≤ x ∧ x < (own.tail.length : Int) then own.tail[x.toNat]? else none).length ≤ 100000 := by
          have := List.length_filterMap_le (fun (x : Int) => if 0 ≤ x ∧ x < (own.tail.length : Int) then own.tail[x.toNat]? else none) (inner.take i)
          rw [List.length_take] at this
          omega
        have hv := s3 _ _ (show _ = some (HO.lst (iL own.tail)) from upd_same)
        have snoc : (inner.take (i + 1)).filterMap (fun (x : Int) => if 0 ≤ x ∧ x < (own.tail.length : Int) then own.tail[x.toNat]? else none) = (inner.take i).filterMap (fun (x : Int) => if 0 ≤ x ∧ x < (own.tail.length : Int) then own.tail[x.toNat]? else none) ++ (if 0 ≤ z1 ∧ z1 < (own.tail.length : Int) then own.tail[z1.toNat]? else none).toList := by
          rw [take_snoc hz1, List.filterMap_append]
          congr 1
        have skip : ¬ (0 ≤ z1 ∧ z1 < (own.tail.length : Int)) → LcP (upd H1 q1 (.lst (iL own.tail))) D (fun i => iL ((inner.take i).filterMap fun (x : Int) => if 0 ≤ x ∧ x < (own.tail.length : Int) then own.tail[x.toNat]? else none)) (i + 1) H3 := by
          intro hn
          refine ⟨s3, ?_⟩
          show H3 D = some (.lst (iL ((inner.take (i + 1)).filterMap fun (x : Int) => if 0 ≤ x ∧ x < (own.tail.length : Int) then own.tail[x.toNat]? else none)))
          rw [snoc, if_neg hn, e3]
          simp
        refine ⟨rfl, _, rfl, _, _, rfl, rfl, _, rfl, ?_⟩
        by_cases c1 : 0 ≤ z1
        case neg => exact if_f (decide_eq_false c1) ⟨_, rfl, iteF (skip (fun h => c1 h.1))⟩
        refine if_t (decide_eq_true c1) ⟨_, rfl, q1, _, rfl, .inl (SqL.of hv), _, _, rfl, rfl, _, rfl, ?_⟩
        by_cases c2 : z1 < (own.tail.length : Int)
        case neg => exact if_f (decide_eq_false (by rw [iL_len]; exact c2)) (skip (fun h => c2 h.2))
        obtain ⟨y, hy⟩ := get_of_lt (l := own.tail) (i := z1.toNat) (by omega)
        refine if_t (decide_eq_true (by rw [iL_len]; exact c2)) ⟨_, rfl, _, rfl, q1, _, _, _, rfl, rfl, SqL.of hv, at_of (j := z1.toNat) (by omega) (iL_get hy), lc_put hD s3 e3 (small_line (by rw [iL_len]; exact fl)) ?_⟩
        show iL ((inner.take (i + 1)).filterMap fun (x : Int) => if 0 ≤ x ∧ x < (own.tail.length : Int) then own.tail[x.toNat]? else none) = _
        rw [snoc, if_pos ⟨c1, c2⟩, hy, iL_app]; rfl
      · rw [e3]
        show some (HO.lst (iL ((inner.take (iL inner).length).filterMap fun (x : Int) => if 0 ≤ x ∧ x < (own.tail.length : Int) then own.tail[x.toNat]? else none))) = some (HO.lst (iL (cand .pi own inner)))
        rw [iL_len, List.take_length]; rfl
    clear s1 np1 ep1
    rintro σ H1 ⟨p1, t4, t5, rfl, s1, np1, ep1⟩
    -- the look back
    have el : ljoin k own inner = (if cand k own inner = [] ∨ (cand k own inner).length > 999 then [] else if parted k (cand k own inner) = (own, inner) then cand k own inner else []) := rfl
    have pil : k = .pi → (cand k own inner).length ≤ 60 := fun e => by
      subst e
      have := List.length_filterMap_le (fun (x : Int) => if 0 ≤ x ∧ x < (own.tail.length : Int) then own.tail[x.toNat]? else none) inner
      show (inner.filterMap _).length ≤ 60
      omega
    generalize cand k own inner = row at el pil ep1
    refine ⟨_, rfl, Nat.zero_le _, fun q1 hq1 => ⟨p1, q1, row, [], rfl, rfl, SqL.of (new_ne ep1 hq1), SqL.of upd_same, _, rfl, ?_⟩⟩
    have s2 := Same.new (o := .lst []) s1 hq1
    by_cases c1 : row = []
    · rw [if_pos (.inl c1)] at el
      refine if_t (decide_eq_true c1) (iteT ⟨Nat.zero_le _, fun u hu => q _ u (Same.new s2 hu) (s2.free hu) ?_⟩)
      rw [upd_same, el]; rfl
    refine if_f (decide_eq_false c1) ⟨_, rfl, p1, _, rfl, .inl (SqL.of (new_ne ep1 hq1)), _, _, rfl, rfl, _, rfl, ?_⟩
    by_cases c2 : row.length > 999
    · rw [if_pos (.inr c2)] at el
      refine if_t (decide_eq_true (by rw [iL_len]; omega)) ⟨Nat.zero_le _, fun u hu => q _ u (Same.new s2 hu) (s2.free hu) ?_⟩
      rw [upd_same, el]; rfl
    rw [if_neg (by rintro (h | h); exact c1 h; exact c2 h)] at el
    refine if_f (decide_eq_false (by rw [iL_len]; omega)) ⟨_, rfl, _, rfl, k, p1, row, rfl, SqL.of (new_ne ep1 hq1), c1, by omega, pil, fun H3 t c d s3 nt nc ndd ncd et ec ed => ?_⟩
    have s4 := Same.trans s2 s3
    refine ⟨_, rfl, _, rfl, by show 2 ≤ sizeLine; decide, fun u hu => ⟨t, u, c, d, a, b, (parted k row).1, (parted k row).2, own, inner, rfl, rfl, SqT.of (new_ne et hu), SqT.of upd_same, SqL.of (new_ne ec hu), SqL.of (new_ne ed hu), (Same.new s4 hu).seq hA, (Same.new s4 hu).seq hB, _, rfl, ?_⟩⟩
    have s5 := Same.new (o := .tup [V.ref a, V.ref b]) s4 hu
    have ep5 := new_ne (o := .tup [V.ref a, V.ref b]) (s3 _ _ (new_ne ep1 hq1)) hu
    by_cases c3 : parted k row = (own, inner)
    · rw [if_pos c3] at el
      refine if_t (decide_eq_true c3) ⟨_, rfl, q _ p1 s5 np1 ?_⟩
      rw [el]; exact ep5
    · rw [if_neg c3] at el
      refine if_f (decide_eq_false c3) ⟨Nat.zero_le _, fun v hv => q _ v (Same.new s5 hv) (s5.free hv) ?_⟩
      rw [upd_same, el]; rfl
end
end K3
namespace K3
open PySem PySem.Spec PyProof.Rows L2
/-- the errors' classes, one to another -/
structure ErrK (K : PySem.W.Frag) (mg : Str → Option Value) (A : Ad) : Prop where
  gE : mg "ColonnadeError" = some (.ref A.CE)
  gU : mg "Unfit" = some (.ref A.CU)
  gB : mg "BadCells" = some (.ref A.CB)
  gT : mg "BadChain" = some (.ref A.CT)
  dB : ExcD K A.CB
  dT : ExcD K A.CT
  mB : PySem.W.exmOne K (.ref A.CB) (.ref A.CB) = some true
  mT : PySem.W.exmOne K (.ref A.CT) (.ref A.CT) = some true
  kBE : PySem.W.kitOne K (.ref A.CB) (.ref A.CE) = some true
  kBU : PySem.W.kitOne K (.ref A.CB) (.ref A.CU) = some false
  kTE : PySem.W.kitOne K (.ref A.CT) (.ref A.CE) = some true
  kTB : PySem.W.kitOne K (.ref A.CT) (.ref A.CB) = some false
  xT : XfC K A.CT
  nT : PySem.W.findIn K (.ref A.CT) "text" = some none
/-- isinstance of what the suite holds -/
def rIsW (K : PySem.W.Frag) (D : Addr) (d : Option Addr) (cls : Value) (a : Addr) : List V → Hp → VK → Prop := fun xs H Q => cls = .ref D ∧ rIsD K D d a xs H Q
theorem call_isW {X : Cx} {a D : Addr} {d : Option Addr} {oe : Obj} {cls : Value} {pn : List (Addr × Obj)} (C : ExcD X.K D) (hz : Zc cls d oe) (hf : ∃ vs, oe.data = .fields vs) : CallR (X.suite a ((a, oe) :: pn)) (.builtin "isinstance") (rIsW X.K D d cls a) := fun pins s σ H xs us Q I r ⟨e, h⟩ => by
  subst e
  exact call_isD C hz hf pins s σ H xs us Q I r h
def tIs (K : PySem.W.Frag) (D : Addr) (d : Option Addr) (cls : Value) (a : Addr) (i : Nat) (C : Addr) : TE := tCB (rIsW K D d cls a) (tCons (tVar i) (tCons (tC (.ref C)) tNil))
section
variable {P : Program} {w : World} {K : PySem.W.Frag} {mg : Str → Option Value} {base : Heap} {A : Ad}
def tsJoin (K : PySem.W.Frag) (A : Ad) : Addr → Value → Option Addr → TS := fun a cls d =>
  tSeq (tAsg (tAndV (tIs K A.CB d cls a 8 A.CE) (tNotV (tIs K A.CB d cls a 8 A.CU))) (gName 9))
    (tRet (tAndV (tVar 9) (tAndV (tOp (rEqI K) (tVar 4) (tLst tNil)) (tAndV (tOp (rEqI K) (tVar 5) (tVar 2)) (tOp (rEqI K) (tVar 6) (tVar 3))))))
theorem scJoin : FnScope ["_law_link_here", "_law_name", "_law_own_here", "_law_inner", "_law_due", "_law_first", "_law_second", "_law_told", "e", "_law_kin"] ["_law_link_here", "_law_name", "_law_own_here", "_law_inner"] (defScope sJoin) := ⟨rfl, rfl, rfl, by decide +kernel, rfl, by decide +kernel, by decide +kernel⟩
theorem ok_join {f : Addr} {fd : FuncData} (F : Fun K "_law_join" "_law_join" sJoin f fd) (B : Bl mg) (T : ErrK K mg A) (cl : ∀ k, Cls K (A.C k)) (M : ∀ k, Mx P w K mg base 2 (A.C k) "joined" (spJn K A k))
    (G1 : Fc P w K mg base 2 "_law_joined" (spJoined K)) (G2 : Fc P w K mg base 2 "_law_ints" (spInts K)) :
    FnOk P w K mg base CX0 3 f fd ["_law_link_here", "_law_name", "_law_own_here", "_law_inner"] (spJoin K A) := by
  refine F.ok scJoin (fun vs H Q E h => ?_) (fun cdv Ar outer s H vs Q E hr h => ?_)
  · obtain ⟨k, x, dx, a, b, own, inner, rfl, _⟩ := h
    rfl
  · obtain ⟨k, x, dx, a, b, own, inner, rfl, hX, hA, hB, hsm, q⟩ := h
    have nd := scJoin.nd
    refine ⟨_, pss_cons (ps_set (i := 4) nd rfl (Or.inl rfl) (pc G1 hr (pa_cons (pv 1) (pa_cons (pv 2) (pa_cons (pv 3) pa_nil)))))
      (pss_cons (ps_set (i := 5) nd rfl (Or.inl rfl) (pe_callTy call_list_of (by rfl) B.list (by decide +kernel) (pa_cons (pv 2) pa_nil)))
      (pss_cons (ps_set (i := 6) nd rfl (Or.inl rfl) (pe_callTy call_list_of (by rfl) B.list (by decide +kernel) (pa_cons (pv 3) pa_nil)))
      (pss_cons (ps_try_as (i := 8) (tb := fun W => tAsg (tMethW (A.C k) "joined" (spJn K A k) (WE W) (tVar 0) (tCons (tVar 5) (tCons (tVar 6) tNil))) (gName 7)) (ts := tsJoin K A) (Wout := fun _ _ _ _ => False)
          rfl rfl nd rfl rfl ⟨rfl, by decide, .inl T.gB⟩ takes0
          (fun W pn xe tk _ => pss_one (ps_set (i := 7) nd rfl (Or.inl rfl) (by exact pmx (M k) (cl k) hr tk (pv 0) (pa_cons (pv 5) (pa_cons (pv 6) pa_nil)))))
          (fun a oe cls d pn hz hf => pss_cons (ps_set (i := 9) nd rfl (Or.inl rfl) (pe_and (pe_callB (call_isW T.dB hz hf) (by rfl) B.isinstance (by decide +kernel) (pa_cons (pv 8) (pa_cons (pe_glob (by rfl) T.gE rfl) pa_nil)))
              (pe_one (pe_not (pe_callB (call_isW T.dB hz hf) (by rfl) B.isinstance (by decide +kernel) (pa_cons (pv 8) (pa_cons (pe_glob (by rfl) T.gU rfl) pa_nil)))))))
            (pss_one (ps_ret (pe_and (pv 9) (pe_and (pe_cmpR (op_eqI hr.units) (pv 4) (pe_lst pa_nil) (nomark _)) (pe_and (pe_cmpR (op_eqI hr.units) (pv 5) (pv 2) (nomark _)) (pe_one (pe_cmpR (op_eqI hr.units) (pv 6) (pv 3) (nomark _))))))))))
      (pss_cons (ps_if (PW.pt (pw_or (pt_cmpR (op_eqI hr.units) (pv 4) (pe_lst pa_nil) (nomark _)) (pw_or1 (pt_not (pt_val (pc G2 hr (pa_cons (pv 7) (pa_cons (pv 4) pa_nil))))))))
        (pss_one (ps_ret pe_bl)) pss_nil)
      (pss_cons (ps_expr (pe_bm PySem.F.plainAttrs_list PySem.F.slot_list_append PySem.F.type_list_append mt_append (pv 7) (pa_cons pe_int pa_nil)))
      (pss_cons (ps_if (PW.pt (pw_or (pt_cmpR (op_neI hr.units) (pv 5) (pv 2) (nomark _)) (pw_or1 (pt_cmpR (op_neI hr.units) (pv 6) (pv 3) (nomark _)))))
        (pss_one (ps_ret pe_bl)) pss_nil)
      (pss_one (ps_ret (pc G2 hr (pa_cons (pmx (M k) (cl k) hr takes0 (pv 0) (pa_cons (pv 5) (pa_cons (pv 6) pa_nil))) (pa_cons (pv 4) pa_nil))))))))))), ?_⟩
    obtain ⟨hl1, hl2, hru⟩ := hsm
    refine ⟨_, rfl, _, rfl, _, rfl, k, a, b, own, inner, rfl, hA, hB, ⟨hl1, hl2, hru⟩, fun H1 pd s1 nd1 ed => ?_⟩
    refine ⟨_, rfl, a, _, rfl, .inl (s1.seq hA), fun f1 hf1 => ⟨_, rfl, b, _, rfl, .inl ((Same.new s1 hf1).seq hB), fun f2 hf2 => ?_⟩⟩
    have s3 := Same.new (o := .lst (iL inner)) (Same.new (o := .lst (iL own)) s1 hf1) hf2
    have nf2 := none_ne hf2
    generalize hH3 : upd (upd H1 f1 (.lst (iL own))) f2 (.lst (iL inner)) = H3 at s3
    have ed3 : H3 pd = some (.lst (iL (ljoin k own inner))) := by rw [← hH3]; exact new_ne (new_ne ed hf1) hf2
    have e1 : H3 f1 = some (.lst (iL own)) := by rw [← hH3]; exact new_ne upd_same hf2
    have e2 : H3 f2 = some (.lst (iL inner)) := by rw [← hH3]; exact upd_same
    refine ⟨_, rfl, x, dx, [], rfl, s3 _ _ hX, rfl, _, rfl, _, rfl, _, f1, f2, own, inner, rfl, SqL.of e1, SqL.of e2, hl1, hl2, fun r hr' H4 p s4 np ep => ?_, fun hn H4 s4 => ?_⟩
    · obtain ⟨el, hne⟩ := ljoin_some hr'
      have hlen := (pjoin_sound k hr').2.1
      rw [el] at ed3
      refine ⟨_, rfl, Nat.zero_le _, fun u hu => ⟨pd, u, r, [], rfl, rfl, SqL.of (new_ne (s4 _ _ ed3) hu), SqL.of upd_same, _, rfl, if_f (decide_eq_false hne) ?_⟩⟩
      have s5 := Same.new (o := .lst []) s4 hu
      refine ⟨_, rfl, _, rfl, p, pd, r, r, rfl, new_ne ep hu, s5.seq (SqL.of ed3), by omega, fun H5 s6 => ⟨_, rfl, if_f (by simp) ?_⟩⟩
      have ep5 := s6 _ _ (new_ne (o := .lst []) ep hu)
      have s7 := Same.trans s5 s6
      refine ⟨_, rfl, .inl ⟨rfl, _, SqL.of ep5⟩, p, iL r, .int 0, rfl, rfl, ep5, small_line (by rw [iL_len]; omega), ?_⟩
      have s8 : Same H3 (upd H5 p (.lst (iL r ++ [.int 0]))) := fun b' o e => by
        rw [upd_ne (ne_of_none e np)]; exact s7 b' o e
      refine ⟨_, rfl, _, rfl, f1, a, own, own, rfl, rfl, s8.seq (SqL.of e1), (Same.trans s3 s8).seq hA, _, rfl, if_f (by simp) ⟨_, rfl, _, rfl, f2, b, inner, inner, rfl, rfl, s8.seq (SqL.of e2), (Same.trans s3 s8).seq hB, _, rfl, if_f (by simp) ?_⟩⟩
      refine ⟨_, rfl, x, dx, [], rfl, s8 _ _ (s3 _ _ hX), rfl, _, rfl, _, rfl, _, f1, f2, own, inner, rfl, s8.seq (SqL.of e1), s8.seq (SqL.of e2), hl1, hl2, fun r2 hr2 H6 p2 s9 np2 ep2 => ?_, fun hn => by rw [hr'] at hn; cases hn⟩
      have er : r2 = r := by rw [hr'] at hr2; exact (Option.some.inj hr2).symm
      subst er
      refine ⟨_, rfl, p2, pd, r2, r2, rfl, ep2, s9.seq (s8.seq (SqL.of ed3)), by omega, fun H7 s10 => ?_⟩
      have := q H7 (Same.trans (Same.trans (Same.trans s3 s8) s9) s10)
      rw [decide_eq_true rfl]
      exact this
    · have el := ljoin_none hn
      rw [el] at ed3
      refine ⟨true, T.mB, fun _ ea hea => ?_, fun z => Bool.noConfusion z⟩
      refine ⟨_, rfl, rfl, A.CE, true, rfl, trivial, T.kBE, true, rfl, iteT ⟨_, rfl, rfl, A.CU, false, rfl, trivial, T.kBU, false, rfl, ?_⟩⟩
      refine ⟨_, rfl, true, rfl, iteT ⟨_, rfl, Nat.zero_le _, fun u hu => ⟨pd, u, [], [], rfl, rfl, SqL.of (new_ne (s4 _ _ ed3) hu), SqL.of upd_same, _, rfl, ?_⟩⟩⟩
      have s5 := Same.new (o := .lst []) s4 hu
      refine if_t rfl ⟨_, rfl, _, rfl, f1, a, own, own, rfl, rfl, s5.seq (SqL.of e1), (Same.trans s3 s5).seq hA, _, rfl, if_t (by simp) ⟨_, rfl, _, rfl, f2, b, inner, inner, rfl, rfl, s5.seq (SqL.of e2), (Same.trans s3 s5).seq hB, ?_⟩⟩
      have := q _ (Same.trans s3 s5)
      rw [decide_eq_true rfl]
      exact this
end
end K3
namespace K3
open PySem PySem.Spec PyProof.Rows L2
theorem dec_i {a b : Int} : decide (V.int a = V.int b) = decide (a = b) := by
  by_cases h : a = b
  · subst h; simp
  · rw [decide_eq_false h, decide_eq_false fun q => h (V.int.inj q)]
section
variable {P : Program} {w : World} {K : PySem.W.Frag} {mg : Str → Option Value} {base : Heap} {A : Ad}
def tsCount (K : PySem.W.Frag) (A : Ad) : Addr → Value → Option Addr → TS := fun a cls d =>
  tRet (tAndV (tIs K A.CB d cls a 6 A.CE) (tAndV (tOp rEq (tVar 3) (tUn (fun x H Q => ∃ i, x = .int i ∧ Q (.int (-i)) H) (tC (.int 1)))) (tOp (rEqI K) (tVar 4) (tVar 2))))
theorem scCount : FnScope ["_law_link_here", "_law_name", "_law_cells", "_law_due", "_law_handed", "_law_told", "e"] ["_law_link_here", "_law_name", "_law_cells"] (defScope sCount) := ⟨rfl, rfl, rfl, by decide +kernel, rfl, by decide +kernel, by decide +kernel⟩
theorem ok_count {f : Addr} {fd : FuncData} (F : Fun K "_law_count" "_law_count" sCount f fd) (B : Bl mg) (T : ErrK K mg A) (cl : ∀ k, Cls K (A.C k)) (M : ∀ k, Mx P w K mg base 2 (A.C k) "own_count" (spCnt K A k))
    (G1 : Fc P w K mg base 2 "_law_own" (spOwn K)) (G2 : Fc P w K mg base 2 "_law_int" spInt) :
    FnOk P w K mg base CX0 3 f fd ["_law_link_here", "_law_name", "_law_cells"] (spCount K A) := by
  refine F.ok scCount (fun vs H Q E h => ?_) (fun cdv Ar outer s H vs Q E hr h => ?_)
  · obtain ⟨k, x, dx, a, cs, rfl, _⟩ := h
    rfl
  · obtain ⟨k, x, dx, a, cs, rfl, hX, hA, q⟩ := h
    have nd := scCount.nd
    refine ⟨_, pss_cons (ps_set (i := 3) nd rfl (Or.inl rfl) (pc G1 hr (pa_cons (pv 1) (pa_cons (pv 2) pa_nil))))
      (pss_cons (ps_set (i := 4) nd rfl (Or.inl rfl) (pe_callTy call_list_of (by rfl) B.list (by decide +kernel) (pa_cons (pv 2) pa_nil)))
      (pss_cons (ps_try_as (i := 6) (tb := fun W => tAsg (tMethW (A.C k) "own_count" (spCnt K A k) (WE W) (tVar 0) (tCons (tVar 4) tNil)) (gName 5)) (ts := tsCount K A) (Wout := fun _ _ _ _ => False)
          rfl rfl nd rfl rfl ⟨rfl, by decide, .inl T.gB⟩ takes0
          (fun W pn xe tk _ => pss_one (ps_set (i := 5) nd rfl (Or.inl rfl) (by exact pmx (M k) (cl k) hr tk (pv 0) (pa_cons (pv 4) pa_nil))))
          (fun a oe cls d pn hz hf => pss_one (ps_ret (pe_and (pe_callB (call_isW T.dB hz hf) (by rfl) B.isinstance (by decide +kernel) (pa_cons (pv 6) (pa_cons (pe_glob (by rfl) T.gE rfl) pa_nil)))
              (pe_and (pe_cmpR op_eq (pv 3) (pe_un un_neg pe_int) (nomark _)) (pe_one (pe_cmpR (op_eqI hr.units) (pv 4) (pv 2) (nomark _))))))))
      (pss_one (ps_ret (pe_and (pe_cmpR op_ge (pv 3) pe_int (nomark _)) (pe_and (pc G2 hr (pa_cons (pv 5) (pa_cons (pv 3) pa_nil))) (pe_one (pe_cmpR (op_eqI hr.units) (pv 4) (pv 2) (nomark _))))))))), ?_⟩
    refine ⟨_, rfl, _, rfl, k, a, cs, rfl, hA, fun H1 s1 => ?_⟩
    refine ⟨_, rfl, a, _, rfl, .inl (s1.seq hA), fun f1 hf1 => ?_⟩
    have s2 := Same.new (o := .lst (iL cs)) s1 hf1
    refine ⟨_, rfl, x, dx, [], rfl, s2 _ _ hX, rfl, _, rfl, _, f1, cs, rfl, SqL.of upd_same, fun n hn => ?_, fun hn => ?_⟩
    · have en : lcount k cs = n := by unfold lcount; rw [hn]; rfl
      have hp := pcount_pos hn
      refine ⟨_, rfl, _, _, rfl, rfl, _, rfl, ?_⟩
      rw [en]
      refine if_t (decide_eq_true hp) ⟨_, rfl, _, rfl, n, n, rfl, _, rfl, if_t (by simp) ⟨_, rfl, _, rfl, f1, a, cs, cs, rfl, rfl, SqL.of upd_same, s2.seq hA, ?_⟩⟩
      have := q _ s2
      rw [decide_eq_true rfl]
      exact this
    · have en : lcount k cs = -1 := by unfold lcount; rw [hn]; rfl
      refine ⟨true, T.mB, fun _ ea hea => ?_, fun z => Bool.noConfusion z⟩
      refine ⟨_, rfl, rfl, A.CE, true, rfl, trivial, T.kBE, true, rfl, iteT ⟨_, rfl, 1, rfl, rfl, ?_⟩⟩
      rw [en]
      refine ⟨_, rfl, if_t (by decide) ⟨_, rfl, _, rfl, f1, a, cs, cs, rfl, rfl, SqL.of upd_same, s2.seq hA, ?_⟩⟩
      have := q _ s2
      rw [decide_eq_true rfl]
      exact this

def tsRefused (K : PySem.W.Frag) (A : Ad) : Addr → Value → Option Addr → TS := fun a cls d =>
  tSeq (tAsg (tAndV (tIs K A.CT d cls a 1 A.CE) (tNotV (tIs K A.CT d cls a 1 A.CB))) (gName 2))
    (tRet (tAndV (tVar 2) (tOp rEq (tXf a cls d A.CT "text" (tVar 1)) (tVar 0))))
theorem scRefused : FnScope ["_law_name", "e", "_law_kin"] ["_law_name"] (defScope sRefused) := ⟨rfl, rfl, rfl, by decide +kernel, rfl, by decide +kernel, by decide +kernel⟩
theorem ok_refused {f : Addr} {fd : FuncData} (F : Fun K "_law_refused" "_law_refused" sRefused f fd) (B : Bl mg) (T : ErrK K mg A)
    (G : Fx P w K mg base 3 "link_named" (spNamed A)) :
    FnOk P w K mg base CX0 4 f fd ["_law_name"] (spRefused) := by
  refine F.ok scRefused (fun vs H Q E h => ?_) (fun cdv Ar outer s H vs Q E hr h => ?_)
  · obtain ⟨z, rfl, _⟩ := h
    rfl
  · obtain ⟨z, rfl, hz, q⟩ := h
    have nd := scRefused.nd
    refine ⟨_, pss_cons (ps_try_as (i := 1) (tb := fun W => tDrop (tCallS (spNamed A) (WE W) (tCons (tVar 0) tNil))) (ts := tsRefused K A) (Wout := fun _ _ _ _ => False)
          rfl rfl nd rfl rfl ⟨rfl, by decide, .inl T.gT⟩ takes0
          (fun W pn xe tk _ => pss_one (ps_expr (by exact pcx G hr tk (pa_cons (pv 0) pa_nil))))
          (fun a oe cls d pn hz hf => pss_cons (ps_set (i := 2) nd rfl (Or.inl rfl) (pe_and (pe_callB (call_isW T.dT hz hf) (by rfl) B.isinstance (by decide +kernel) (pa_cons (pv 1) (pa_cons (pe_glob (by rfl) T.gE rfl) pa_nil)))
              (pe_one (pe_not (pe_callB (call_isW T.dT hz hf) (by rfl) B.isinstance (by decide +kernel) (pa_cons (pv 1) (pa_cons (pe_glob (by rfl) T.gB rfl) pa_nil)))))))
            (pss_one (ps_ret (pe_and (pv 2) (pe_one (pe_cmpR op_eq (pe_xf T.xT T.nT hz hf (pv 1)) (pv 0) (nomark _))))))))
      (pss_one (ps_ret pe_bl)), ?_⟩
    refine ⟨_, rfl, z, rfl, .inr ⟨hz, fun H1 d s1 hd ed => ?_⟩⟩
    refine ⟨true, T.mT, fun _ ea hea => ?_, fun z => Bool.noConfusion z⟩
    refine ⟨_, rfl, rfl, A.CE, true, rfl, ⟨_, ed⟩, T.kTE, true, rfl, iteT ⟨_, rfl, rfl, A.CB, false, rfl, ⟨_, ed⟩, T.kTB, false, rfl, ?_⟩⟩
    refine ⟨_, rfl, true, rfl, iteT ⟨_, rfl, rfl, rfl, d, _, .str z, rfl, ed, rfl, _, rfl, rfl, ?_⟩⟩
    have := q _ s1
    rw [decide_eq_true rfl]
    exact this
end
end K3
namespace K3
open PySem PySem.Spec PyProof.Rows L2
theorem parted_len (k : Lk) {row : List Int} (h : row ≠ []) : (parted k row).1.length ≤ row.length + 1 ∧ (parted k row).2.length ≤ row.length := by
  cases k with
  | li => exact ⟨Nat.zero_le _, Nat.le_refl _⟩
  | ru =>
    have := runs_len row
    unfold parted
    simp only [List.length_cons, List.length_map]
    omega
  | st =>
    refine ⟨Nat.zero_le _, ?_⟩
    cases row with
    | nil => exact absurd rfl h
    | cons c r =>
      unfold parted diffs
      simp only [List.length_append, List.length_take, List.length_zipWith, List.tail_cons, List.length_cons]
      omega
  | ba => exact ⟨by unfold parted; simp, by unfold parted; simp⟩
  | pi =>
    have := dist_len row
    unfold parted
    simp only [List.length_cons, List.length_map]
    omega
section
variable {P : Program} {w : World} {K : PySem.W.Frag} {mg : Str → Option Value} {base : Heap} {A : Ad}
theorem scParts : FnScope ["_law_link_here", "_law_name", "_law_row_here", "_law_due", "_law_handed", "_law_k", "_law_told", "_law_many", "_law_inner"] ["_law_link_here", "_law_name", "_law_row_here"] (defScope sParts) := ⟨rfl, rfl, rfl, by decide +kernel, rfl, by decide +kernel, by decide +kernel⟩
theorem ok_parts {f : Addr} {fd : FuncData} (F : Fun K "_law_parts" "_law_parts" sParts f fd) (B : Bl mg) (cl : ∀ k, Cls K (A.C k)) (M : ∀ k, Mx P w K mg base 2 (A.C k) "parted" (spPart K k)) (MI : ∀ k, Mx P w K mg base 2 (A.C k) "inner_count" (spInn K k))
    (G1 : Fc P w K mg base 2 "_law_parted" (spParted K)) (G2 : Fc P w K mg base 2 "_law_ints" (spInts K)) (G3 : Fc P w K mg base 2 "_law_int" spInt) :
    FnOk P w K mg base CX0 3 f fd ["_law_link_here", "_law_name", "_law_row_here"] (spParts K A) := by
  refine F.ok scParts (fun vs H Q E h => ?_) (fun cdv Ar outer s H vs Q E hr h => ?_)
  · obtain ⟨k, x, dx, a, row, rfl, _⟩ := h
    rfl
  · obtain ⟨k, x, dx, a, row, rfl, hX, hA, hne, hz, q⟩ := h
    have nd := scParts.nd
    refine ⟨_, pss_cons (ps_set (i := 3) nd rfl (Or.inl rfl) (pc G1 hr (pa_cons (pv 1) (pa_cons (pv 2) pa_nil))))
      (pss_cons (ps_set (i := 4) nd rfl (Or.inl rfl) (pe_callTy call_list_of (by rfl) B.list (by decide +kernel) (pa_cons (pv 2) pa_nil)))
      (pss_cons (ps_for PassesOwn.never rfl (pi_range1 (by rfl) B.range (pa_cons pe_int pa_nil)) (pg_name (i := 5) nd rfl (Or.inl rfl))
        (pss_cons (ps_set (i := 6) nd rfl (Or.inl rfl) (pmx (M k) (cl k) hr takes0 (pv 0) (pa_cons (pv 4) pa_nil)))
        (pss_cons (ps_if (PW.pt (pw_or (pt_not (pt_val (pe_callB call_isi (by rfl) B.isinstance (by decide +kernel) (pa_cons (pv 6) (pa_cons (pe_bltn (v := .ty "tuple") (by rfl) B.tuple (by decide +kernel) rfl) pa_nil)))))
            (pw_or (pt_cmpR op_ne (pe_callB call_len_seq (by rfl) B.len PySem.boot_len (pa_cons (pv 6) pa_nil)) pe_int (nomark _)) (pw_or1 (pt_cmpR (op_neI hr.units) (pv 4) (pv 2) (nomark _))))))
          (pss_one (ps_ret pe_bl)) pss_nil)
        (pss_cons (ps_if (PW.pt (pw_or (pt_not (pt_val (pc G2 hr (pa_cons (pe_ix ix_tup (pv 6) pe_int (fun _ _ => rfl)) (pa_cons (pe_ix ix_tup (pv 3) pe_int (fun _ _ => rfl)) pa_nil)))))
            (pw_or1 (pt_not (pt_val (pc G2 hr (pa_cons (pe_ix ix_tup (pv 6) pe_int (fun _ _ => rfl)) (pa_cons (pe_ix ix_tup (pv 3) pe_int (fun _ _ => rfl)) pa_nil))))))))
          (pss_one (ps_ret pe_bl)) pss_nil)
        (pss_cons (ps_expr (pe_bm PySem.F.plainAttrs_list PySem.F.slot_list_append PySem.F.type_list_append mt_append (pe_ix ix_tup (pv 6) pe_int (fun _ _ => rfl)) (pa_cons (pv 5) pa_nil)))
        (pss_one (ps_expr (pe_bm PySem.F.plainAttrs_list PySem.F.slot_list_append PySem.F.type_list_append mt_append (pe_ix ix_tup (pv 6) pe_int (fun _ _ => rfl)) (pa_cons (pv 5) pa_nil)))))))))
      (pss_cons (ps_if (pt_cmpR (op_neI hr.units) (pv 4) (pv 2) (nomark _)) (pss_one (ps_ret pe_bl)) pss_nil)
      (pss_cons (ps_for PassesOwn.never rfl (pi_list (pe_lst (pa_cons (pe_callB call_len_seq (by rfl) B.len PySem.boot_len (pa_cons (pv 2) pa_nil)) (pa_cons (pe_op op_add (pe_callB call_len_seq (by rfl) B.len PySem.boot_len (pa_cons (pv 2) pa_nil)) pe_int) pa_nil)))) (pg_name (i := 7) nd rfl (Or.inl rfl))
        (pss_cons (ps_set (i := 8) nd rfl (Or.inl rfl) (pe_ifExp (pt_cmpR op_eq (pv 1) pe_str (nomark _)) (pe_ix ix_list (pe_ix ix_tup (pv 3) pe_int (fun _ _ => rfl)) pe_int (fun _ _ => rfl)) (pv 7)))
        (pss_one (ps_if (pt_not (pt_val (pc G3 hr (pa_cons (pmx (MI k) (cl k) hr takes0 (pv 0) (pa_cons (pe_callTy call_list_of (by rfl) B.list (by decide +kernel) (pa_cons (pe_ix ix_tup (pv 3) pe_int (fun _ _ => rfl)) pa_nil)) (pa_cons (pv 7) pa_nil))) (pa_cons (pv 8) pa_nil)))))
          (pss_one (ps_ret pe_bl)) pss_nil))))
      (pss_one (ps_ret pe_bl)))))), ?_⟩
    obtain ⟨pl1, pl2⟩ := parted_len k hne
    refine ⟨_, rfl, _, rfl, k, a, row, rfl, hA, hne, by omega, fun _ => by omega, fun H1 t p p' s1 nt np np' npp et ep ep' => ?_⟩
    refine ⟨_, rfl, a, _, rfl, .inl (s1.seq hA), fun f1 hf1 => ?_⟩
    have s2 := Same.new (o := .lst (iL row)) s1 hf1
    have et2 := new_ne (o := .lst (iL row)) et hf1
    have ep2 := new_ne (o := .lst (iL row)) ep hf1
    have ep2' := new_ne (o := .lst (iL row)) ep' hf1
    have ef : upd H1 f1 (.lst (iL row)) f1 = some (.lst (iL row)) := upd_same
    generalize upd H1 f1 (.lst (iL row)) = H2 at s2 et2 ep2 ep2' ef
    clear hf1 s1 et ep ep'
    refine ⟨2, rfl, by decide, by decide, for_range (lo := 0) (n := 2) (fun i σ H' => ∃ t5 t6 : Option V, σ = [some (.ref x), some (.str (nm k)), some (.ref a), some (.ref t), some (.ref f1), t5, t6, none, none] ∧ Same H2 H') ⟨none, none, rfl, Same.refl _⟩ ?_ ?_⟩
    · rintro i σ H3 hi ⟨t5, t6, rfl, s3⟩
      have s4 := Same.trans s2 s3
      refine ⟨_, rfl, x, dx, [], rfl, s4 _ _ hX, rfl, _, rfl, _, f1, row, rfl, s3.seq (SqL.of ef), hne, by omega, fun H4 u y y' s5 nu ny ny' nyy eu ey ey' => ?_⟩
      have s6 := Same.trans s4 s5
      refine ⟨_, rfl, _, _, _, _, true, rfl, .ty "tuple", .base (.tup eu), kit_ty (by decide +kernel), true, rfl, iteF ⟨_, rfl, u, _, rfl, .inr (SqT.of eu), rfl, _, rfl, if_f rfl ⟨_, rfl, _, rfl, f1, a, row, row, rfl, rfl, s5.seq (s3.seq (SqL.of ef)), s6.seq hA, _, rfl, if_f (by simp) ?_⟩⟩⟩
      refine ⟨_, rfl, u, _, 0, .ref y, rfl, rfl, SqT.of eu, rfl, _, rfl, t, _, 0, .ref p, rfl, rfl, SqT.of (s5 _ _ (s3 _ _ et2)), rfl, y, p, _, _, rfl, ey, SqL.of (s5 _ _ (s3 _ _ ep2)), by omega, fun H5 s7 => ⟨_, rfl, if_f (by simp) ?_⟩⟩
      refine ⟨_, rfl, u, _, 1, .ref y', rfl, rfl, SqT.of (s7 _ _ eu), rfl, _, rfl, t, _, 1, .ref p', rfl, rfl, SqT.of (s7 _ _ (s5 _ _ (s3 _ _ et2))), rfl, y', p', _, _, rfl, s7 _ _ ey', SqL.of (s7 _ _ (s5 _ _ (s3 _ _ ep2'))), by omega, fun H6 s8 => ⟨_, rfl, if_f (by simp) ?_⟩⟩
      have s9 := Same.trans s7 s8
      have eu6 := s9 _ _ eu
      have ey6 := s9 _ _ ey
      have ey6' := s9 _ _ ey'
      have uy : u ≠ y := ne_of eu6 ey6 (by intro z; cases z)
      refine ⟨_, rfl, u, _, 0, .ref y, rfl, rfl, SqT.of eu6, rfl, .inl ⟨rfl, _, SqL.of ey6⟩, _, rfl, y, _, _, rfl, rfl, ey6, small_line (by rw [iL_len]; omega), ?_⟩
      have ey7' : (upd H6 y (.lst (iL (parted k row).1 ++ [.int (0 + (i : Nat))]))) y' = some (.lst (iL (parted k row).2)) := by rw [upd_ne nyy.symm]; exact ey6'
      refine ⟨_, rfl, u, _, 1, .ref y', rfl, rfl, SqT.of (by rw [upd_ne uy]; exact eu6), rfl, .inl ⟨rfl, _, SqL.of ey7'⟩, _, rfl, y', _, _, rfl, rfl, ey7', small_line (by rw [iL_len]; omega), _, _, rfl, fun b o e => ?_⟩
      have e3 := s3 b o e
      rw [upd_ne (ne_of_none e3 ny'), upd_ne (ne_of_none e3 ny)]
      exact s9 _ _ (s5 _ _ e3)
    · rintro σ H3 ⟨t5, t6, rfl, s3⟩
      have s4 := Same.trans s2 s3
      refine ⟨_, rfl, _, rfl, f1, a, row, row, rfl, rfl, s3.seq (SqL.of ef), s4.seq hA, _, rfl, if_f (by simp) ?_⟩
      refine ⟨_, rfl, a, _, rfl, .inl (s4.seq hA), _, rfl, a, _, rfl, .inl (s4.seq hA), _, _, rfl, rfl, by show 2 ≤ sizeLine; decide, fun L hL => ⟨L, rfl, ⟨_, SqL.of upd_same⟩, ?_⟩⟩
      have s5 := Same.new (o := .lst [V.int ((iL row).length : Nat), V.int (((iL row).length : Nat) + 3)]) s3 hL
      have s6 := Same.trans s2 s5
      have eL : upd H3 L (.lst [V.int ((iL row).length : Nat), V.int (((iL row).length : Nat) + 3)]) L = some (.lst [V.int ((iL row).length : Nat), V.int (((iL row).length : Nat) + 3)]) := upd_same
      generalize upd H3 L (.lst [V.int ((iL row).length : Nat), V.int (((iL row).length : Nat) + 3)]) = H5 at s5 s6 eL
      refine for_list (K := K) (a := L) (xs := [V.int ((iL row).length : Nat), V.int (((iL row).length : Nat) + 3)]) (fun i σ H' => ∃ t7 t8 : Option V, σ = [some (.ref x), some (.str (nm k)), some (.ref a), some (.ref t), some (.ref f1), t5, t6, t7, t8] ∧ Same H5 H') ⟨none, none, rfl, Same.refl _⟩ (fun i σ H' _ ⟨t7, t8, e, s7⟩ => s7.seq (SqL.of eL)) ?_ ?_
      · rintro i v σ H6 hv ⟨t7, t8, rfl, s7⟩
        obtain ⟨m, rfl⟩ : ∃ m : Int, v = .int m := by
          have := List.mem_of_getElem? hv
          simp only [List.mem_cons, List.not_mem_nil, or_false] at this
          rcases this with h | h
          · exact ⟨_, h⟩
          · exact ⟨_, h⟩
        have s8 := Same.trans s5 s7
        have s9 := Same.trans s6 s7
        refine ⟨_, rfl, rfl, _, rfl, ?_⟩
        have own_ne : k = .ru → (parted k row).1 ≠ [] := fun e => by subst e; exact List.cons_ne_nil _ _
        have et6 := s8 _ _ et2
        have ep6 := s8 _ _ ep2
        by_cases hk : k = .ru
        · subst hk
          refine if_t (nm_dec .ru .ru) ⟨_, rfl, t, _, 0, .ref p, rfl, rfl, SqT.of et6, rfl, p, _, 0, _, rfl, rfl, SqL.of ep6, atI_nat (j := 0) rfl, ?_⟩
          refine ⟨_, rfl, x, dx, [], rfl, s9 _ _ hX, rfl, _, rfl, t, _, 0, .ref p, rfl, rfl, SqT.of et6, rfl, p, _, rfl, .inl (SqL.of ep6), fun g hg => ⟨_, rfl, _, g, _, m, rfl, SqL.of upd_same, own_ne, _, rfl, _, _, rfl, _, rfl, if_f ?_ ⟨_, _, rfl, Same.new s7 hg⟩⟩⟩
          rw [decide_eq_true (show icount .ru (parted .ru row).1 m = ((runs row).length : Int) from rfl)]; rfl
        · refine if_f ((nm_dec k .ru).trans (decide_eq_false hk)) ⟨_, rfl, ?_⟩
          refine ⟨_, rfl, x, dx, [], rfl, s9 _ _ hX, rfl, _, rfl, t, _, 0, .ref p, rfl, rfl, SqT.of et6, rfl, p, _, rfl, .inl (SqL.of ep6), fun g hg => ⟨_, rfl, _, g, _, m, rfl, SqL.of upd_same, own_ne, _, rfl, _, _, rfl, _, rfl, if_f ?_ ⟨_, _, rfl, Same.new s7 hg⟩⟩⟩
          have e : icount k (parted k row).1 m = m := by cases k <;> first | rfl | exact absurd rfl hk
          rw [decide_eq_true e]; rfl
      · rintro σ H6 ⟨t7, t8, rfl, s7⟩
        have := q _ (Same.trans s6 s7)
        exact this
end
end K3
namespace K3
open PySem PySem.Spec PyProof.Rows L2
/-- the five classes -/
structure ClsK (K : PySem.W.Frag) (mg : Str → Option Value) (A : Ad) : Prop where
  cl : ∀ k, Cls K (A.C k)
  g : ∀ k, mg (cn k) = some (.ref (A.C k))
  mk0 : ∀ k, Mk0 K (A.C k)
  rd : ∀ k, ClX.CRead K (A.C k) (.type "type")
  nam : ∀ k, ∃ u, ClX.CVal K (A.C k) (.type "type") "NAME" (.str (nm k)) u
  kpv : ∀ k, ∃ u, ClX.CVal K (A.C k) (.type "type") "KEEPS" (.str (kps k)) u
  cnm : ∀ k, ∃ u, Con K (A.C k) "NAME" (.str (nm k)) u
  ckp : ∀ k, ∃ u, Con K (A.C k) "KEEPS" (.str (kps k)) u
  ha : ∀ k, PySem.W.findIn K (.ref (A.C k)) "__class__" = some (some (.builtin "object.__class__"))
  hn : PySem.W.specialIn K (.builtin "object.__class__") "__get__" = some (some (.builtin "getset_descriptor.__get__"))
  ht : PySem.W.takesIn K (.builtin "object.__class__") = some true
  hm : ∀ k, PySem.W.mroIn K (A.C k) (.type "object") = some true
  kS : ∀ k, PySem.W.kitOne K (.ref (A.C k)) (.ref (A.C k)) = some true
  kL : ∀ k, PySem.W.kitOne K (.ref (A.C k)) (.ref (A.C .li)) = some true
  kRS : PySem.W.kitOne K (.ref (A.C .ru)) (.ref (A.C .st)) = some false
  kPB : PySem.W.kitOne K (.ref (A.C .pi)) (.ref (A.C .ba)) = some false
theorem ClsK.ty {K : PySem.W.Frag} {mg : Str → Option Value} {A : Ad} (T : ClsK K mg A) {H : Hp} {k : Lk} {x dx : Addr} {fs : List (Str × V)} (e : H x = some (.ins (A.C k) dx fs)) : TyX K H (.ref x) (.ref (A.C k)) := .base (.ins e (T.cl k) (T.ha k) T.hn T.ht (T.hm k))
abbrev sL (zs : List Str) : List V := zs.map V.str
def dS (zs : List Str) : PyData := .list (zs.map PyData.str)
theorem dp_strs {K : PySem.W.Frag} {H : Hp} : ∀ zs : List Str, DpAll K H (sL zs) (zs.map PyData.str)
  | [] => .nil
  | z :: zs => .cons (.str z) (dp_strs zs)
theorem dp_dS {K : PySem.W.Frag} {H : Hp} {a : Addr} {zs : List Str} (h : SqL K H a (sL zs)) : Dp K H (.ref a) (dS zs) := .lst h (dp_strs zs)
theorem same_ins {H H0 : Hp} {x dx C : Addr} (s : Same H0 H) (hx : H x = none) (hd : H dx = none) (hne : dx ≠ x) : Same H0 (upd (upd H dx (.own x)) x (.ins C dx [])) :=
  Same.new (Same.new s hd) (by rw [upd_ne hne.symm]; exact hx)
@[elab_as_elim] theorem Gen.gen {H H1 : Hp} {G : Hp → Prop} (h : ∀ H', Same H H' → G H') (s : Same H H1) : G H1 := h H1 s
section
variable {P : Program} {w : World} {K : PySem.W.Frag} {mg : Str → Option Value} {base : Heap} {A : Ad}
theorem scClasses : FnScope ["_law_names", "_law_keeps", "_law_runs", "_law_steps", "_law_base", "_law_pick", "_law_one"] [] (defScope sClasses) := ⟨rfl, rfl, rfl, by decide +kernel, rfl, by decide +kernel, by decide +kernel⟩
theorem ok_classes {f : Addr} {fd : FuncData} (F : Fun K "_law_classes" "_law_classes" sClasses f fd) (B : Bl mg) (T : ClsK K mg A) (G : Fx P w K mg base 3 "link_named" (spNamed A)) :
    FnOk P w K mg base CX0 4 f fd [] spClasses := by
  refine F.ok scClasses (fun vs H Q E h => ?_) (fun cdv Ar outer s H vs Q E hr h => ?_)
  · obtain ⟨rfl, _⟩ := h
    rfl
  · obtain ⟨rfl, q⟩ := h
    have nd := scClasses.nd
    refine ⟨_, pss_cons (ps_set (i := 0) nd rfl (Or.inl rfl) (pe_lst (pa_cons (ClX.pe_cval (pe_glob (v := .ref _) (by rfl) (T.g .li) rfl)) (pa_cons (ClX.pe_cval (pe_glob (v := .ref _) (by rfl) (T.g .ru) rfl)) (pa_cons (ClX.pe_cval (pe_glob (v := .ref _) (by rfl) (T.g .st) rfl)) (pa_cons (ClX.pe_cval (pe_glob (v := .ref _) (by rfl) (T.g .ba) rfl)) (pa_cons (ClX.pe_cval (pe_glob (v := .ref _) (by rfl) (T.g .pi) rfl)) pa_nil)))))))
      (pss_cons (ps_set (i := 1) nd rfl (Or.inl rfl) (pe_lst (pa_cons (ClX.pe_cval (pe_glob (v := .ref _) (by rfl) (T.g .li) rfl)) (pa_cons (ClX.pe_cval (pe_glob (v := .ref _) (by rfl) (T.g .ru) rfl)) (pa_cons (ClX.pe_cval (pe_glob (v := .ref _) (by rfl) (T.g .st) rfl)) (pa_cons (ClX.pe_cval (pe_glob (v := .ref _) (by rfl) (T.g .ba) rfl)) (pa_cons (ClX.pe_cval (pe_glob (v := .ref _) (by rfl) (T.g .pi) rfl)) pa_nil)))))))
      (pss_cons (ps_if (pt_cmpR (op_neD hr.units) (pv 0) (pe_lst (pa_cons pe_str (pa_cons pe_str (pa_cons pe_str (pa_cons pe_str (pa_cons pe_str pa_nil)))))) (nomark _)) (pss_one (ps_ret pe_bl)) pss_nil)
      (pss_cons (ps_if (pt_cmpR (op_neD hr.units) (pv 1) (pe_lst (pa_cons pe_str (pa_cons pe_str (pa_cons pe_str (pa_cons pe_str (pa_cons pe_str pa_nil)))))) (nomark _)) (pss_one (ps_ret pe_bl)) pss_nil)
      (pss_cons (ps_set (i := 2) nd rfl (Or.inl rfl) (pcx G hr takes0 (pa_cons pe_str pa_nil)))
      (pss_cons (ps_set (i := 3) nd rfl (Or.inl rfl) (pcx G hr takes0 (pa_cons pe_str pa_nil)))
      (pss_cons (ps_set (i := 4) nd rfl (Or.inl rfl) (pcx G hr takes0 (pa_cons pe_str pa_nil)))
      (pss_cons (ps_set (i := 5) nd rfl (Or.inl rfl) (pcx G hr takes0 (pa_cons pe_str pa_nil)))
      (pss_cons (ps_if (PW.pt (pw_or (pt_not (pt_val (pe_callB call_isi (by rfl) B.isinstance (by decide +kernel) (pa_cons (pv 2) (pa_cons (pe_glob (v := .ref _) (by rfl) (T.g .ru) rfl) pa_nil)))))
          (pw_or (pt_not (pt_val (pe_callB call_isi (by rfl) B.isinstance (by decide +kernel) (pa_cons (pv 3) (pa_cons (pe_glob (v := .ref _) (by rfl) (T.g .st) rfl) pa_nil)))))
          (pw_or1 (pt_val (pe_callB call_isi (by rfl) B.isinstance (by decide +kernel) (pa_cons (pv 2) (pa_cons (pe_glob (v := .ref _) (by rfl) (T.g .st) rfl) pa_nil)))))))) (pss_one (ps_ret pe_bl)) pss_nil)
      (pss_cons (ps_if (PW.pt (pw_or (pt_not (pt_val (pe_callB call_isi (by rfl) B.isinstance (by decide +kernel) (pa_cons (pv 4) (pa_cons (pe_glob (v := .ref _) (by rfl) (T.g .ba) rfl) pa_nil)))))
          (pw_or (pt_not (pt_val (pe_callB call_isi (by rfl) B.isinstance (by decide +kernel) (pa_cons (pv 5) (pa_cons (pe_glob (v := .ref _) (by rfl) (T.g .pi) rfl) pa_nil)))))
          (pw_or1 (pt_val (pe_callB call_isi (by rfl) B.isinstance (by decide +kernel) (pa_cons (pv 5) (pa_cons (pe_glob (v := .ref _) (by rfl) (T.g .ba) rfl) pa_nil)))))))) (pss_one (ps_ret pe_bl)) pss_nil)
      (pss_one (ps_ret (pe_callB (cr_all rfl) (by rfl) B.all (by decide +kernel) (pa_cons (pe_lc (own := [("_law_one", 6)]) (g := gName 6) (tt := tYes) (te := tCB (rIsi K) (tCons (tVar 6) (tCons (tC (.ref (A.C .li))) tNil))) rfl nd
          (pi_list (pe_lst (pa_cons (pv 2) (pa_cons (pv 3) (pa_cons (pv 4) (pa_cons (pv 5) pa_nil))))))
          (blkOk_by (N := ["_law_names", "_law_keeps", "_law_runs", "_law_steps", "_law_base", "_law_pick", "_law_one"]) (sc := defScope sClasses) (by decide +kernel))
          (fun _ _ _ _ _ => pg_name (i := 6) nd rfl (Or.inl rfl)) (fun _ _ _ _ _ => pts_nil)
          (fun _ _ _ _ _ => by exact pe_callB call_isi (by rfl) B.isinstance (by decide +kernel) (pa_cons (pv 6) (pa_cons (pe_glob (v := .ref _) (by rfl) (T.g .li) rfl) pa_nil)))) pa_nil))))))))))))), ?_⟩
    obtain ⟨un0, n0⟩ := T.nam .li
    obtain ⟨un1, n1⟩ := T.nam .ru
    obtain ⟨un2, n2⟩ := T.nam .st
    obtain ⟨un3, n3⟩ := T.nam .ba
    obtain ⟨un4, n4⟩ := T.nam .pi
    obtain ⟨uk0, k0⟩ := T.kpv .li
    obtain ⟨uk1, k1⟩ := T.kpv .ru
    obtain ⟨uk2, k2⟩ := T.kpv .st
    obtain ⟨uk3, k3⟩ := T.kpv .ba
    obtain ⟨uk4, k4⟩ := T.kpv .pi
    refine ⟨_, _, _, _, rfl, T.rd _, n0, _, _, _, _, rfl, T.rd _, n1, _, _, _, _, rfl, T.rd _, n2, _, _, _, _, rfl, T.rd _, n3, _, _, _, _, rfl, T.rd _, n4, by show 5 ≤ sizeLine; decide, fun p0 hp0 => ?_⟩
    refine ⟨_, _, _, _, rfl, T.rd _, k0, _, _, _, _, rfl, T.rd _, k1, _, _, _, _, rfl, T.rd _, k2, _, _, _, _, rfl, T.rd _, k3, _, _, _, _, rfl, T.rd _, k4, by show 5 ≤ sizeLine; decide, fun p1 hp1 => ?_⟩
    have s1 := Same.new (o := .lst [.str (kps .li), .str (kps .ru), .str (kps .st), .str (kps .ba), .str (kps .pi)]) (same_new (o := .lst [.str (nm .li), .str (nm .ru), .str (nm .st), .str (nm .ba), .str (nm .pi)]) hp0) hp1
    refine ⟨_, rfl, by show 5 ≤ sizeLine; decide, fun p2 hp2 => ⟨dS [nm .li, nm .ru, nm .st, nm .ba, nm .pi], dS ["", "runs", "steps", "base", "pick"], dp_dS (SqL.of (new_ne (new_ne upd_same hp1) hp2)), dp_dS (SqL.of upd_same), by decide +kernel, by decide +kernel, _, rfl, if_f (by decide +kernel) ?_⟩⟩
    refine ⟨_, rfl, by show 5 ≤ sizeLine; decide, fun p3 hp3 => ⟨dS [kps .li, kps .ru, kps .st, kps .ba, kps .pi], dS ["value", "value", "none", "distance", "order"], dp_dS (SqL.of (new_ne (new_ne upd_same hp2) hp3)), dp_dS (SqL.of upd_same), by decide +kernel, by decide +kernel, _, rfl, if_f (by decide +kernel) ?_⟩⟩
    have s2 := Same.new (o := .lst [.str "value", .str "value", .str "none", .str "distance", .str "order"]) (Same.new (o := .lst [.str "", .str "runs", .str "steps", .str "base", .str "pick"]) s1 hp2) hp3
    refine Gen.gen (fun H1 (s2 : Same H H1) => ?_) s2
    refine ⟨"runs", rfl, .inl ⟨.ru, by decide, rfl, fun x1 d1 hx1 hd1 hn1 => ?_⟩⟩
    have s3 := same_ins (C := A.C .ru) s2 hx1 hd1 hn1
    have c1 : upd (upd H1 d1 (.own x1)) x1 (.ins (A.C .ru) d1 []) x1 = some (.ins (A.C .ru) d1 []) := upd_same
    generalize upd (upd H1 d1 (.own x1)) x1 (.ins (A.C .ru) d1 []) = H2 at s3 c1
    refine ⟨"steps", rfl, .inl ⟨.st, by decide, rfl, fun x2 d2 hx2 hd2 hn2 => ?_⟩⟩
    have s4 := same_ins (C := A.C .st) (Same.refl H2) hx2 hd2 hn2
    have c2 : upd (upd H2 d2 (.own x2)) x2 (.ins (A.C .st) d2 []) x2 = some (.ins (A.C .st) d2 []) := upd_same
    generalize upd (upd H2 d2 (.own x2)) x2 (.ins (A.C .st) d2 []) = H3 at s4 c2
    refine ⟨"base", rfl, .inl ⟨.ba, by decide, rfl, fun x3 d3 hx3 hd3 hn3 => ?_⟩⟩
    have s5 := same_ins (C := A.C .ba) (Same.refl H3) hx3 hd3 hn3
    have c3 : upd (upd H3 d3 (.own x3)) x3 (.ins (A.C .ba) d3 []) x3 = some (.ins (A.C .ba) d3 []) := upd_same
    generalize upd (upd H3 d3 (.own x3)) x3 (.ins (A.C .ba) d3 []) = H4 at s5 c3
    refine ⟨"pick", rfl, .inl ⟨.pi, by decide, rfl, fun x4 d4 hx4 hd4 hn4 => ?_⟩⟩
    have s6 := same_ins (C := A.C .pi) (Same.refl H4) hx4 hd4 hn4
    have c4 : upd (upd H4 d4 (.own x4)) x4 (.ins (A.C .pi) d4 []) x4 = some (.ins (A.C .pi) d4 []) := upd_same
    generalize upd (upd H4 d4 (.own x4)) x4 (.ins (A.C .pi) d4 []) = H5 at s6 c4
    have c3' := s6 _ _ c3
    have c2' := s6 _ _ (s5 _ _ c2)
    have c1' := s6 _ _ (s5 _ _ (s4 _ _ c1))
    have s7 := Same.trans (Same.trans (Same.trans s3 s4) s5) s6
    refine ⟨_, rfl, _, _, _, _, true, rfl, .own _, T.ty c1', T.kS _, true, rfl, iteF ⟨_, rfl, _, _, _, _, true, rfl, .own _, T.ty c2', T.kS _, true, rfl, iteF ⟨_, rfl, _, _, _, _, false, rfl, .own _, T.ty c1', T.kRS, false, rfl, iteF ?_⟩⟩⟩
    refine ⟨_, rfl, _, _, _, _, true, rfl, .own _, T.ty c3', T.kS _, true, rfl, iteF ⟨_, rfl, _, _, _, _, true, rfl, .own _, T.ty c4, T.kS _, true, rfl, iteF ⟨_, rfl, _, _, _, _, false, rfl, .own _, T.ty c4, T.kPB, false, rfl, iteF ?_⟩⟩⟩
    refine ⟨_, rfl, _, rfl, _, rfl, _, rfl, by show 4 ≤ sizeLine; decide, fun L hL => ⟨L, rfl, ⟨_, SqL.of upd_same⟩, fun D hD => lc_l (xs := [.ref x1, .ref x2, .ref x3, .ref x4]) (fun i => (List.replicate i true).map V.bl) hD (SqL.of upd_same) rfl (fun i v H6 hv s8 e8 => ?_) fun H6 s8 e8 => ?_⟩⟩
    · have s9 := Same.trans (same_new (o := .lst [V.ref x1, .ref x2, .ref x3, .ref x4]) hL) s8
      have hi := lt_of_get hv
      simp only [List.length_cons, List.length_nil] at hi
      obtain ⟨x, k, dx, rfl, ex⟩ : ∃ x k dx, v = .ref x ∧ H6 x = some (.ins (A.C k) dx []) := by
        have m := List.mem_of_getElem? hv
        simp only [List.mem_cons, List.not_mem_nil, or_false] at m
        rcases m with h | h | h | h
        · exact ⟨_, _, _, h, s9 _ _ c1'⟩
        · exact ⟨_, _, _, h, s9 _ _ c2'⟩
        · exact ⟨_, _, _, h, s9 _ _ c3'⟩
        · exact ⟨_, _, _, h, s9 _ _ c4⟩
      refine ⟨rfl, _, rfl, _, _, _, _, true, rfl, .own _, T.ty ex, T.kL k, lc_put hD s8 e8 (small_line ?_) ?_⟩
      · rw [List.length_map, List.length_replicate]; omega
      · rw [List.replicate_succ', List.map_append]; rfl
    · refine ⟨D, _, rfl, SqL.of e8, ?_⟩
      exact q _ (Same.trans s7 (Same.trans (same_new (o := .lst [V.ref x1, .ref x2, .ref x3, .ref x4]) hL) s8))
end
end K3
namespace K3
open PySem PySem.Spec PyProof.Rows L2
theorem SB.refl (a : Addr) (H : Hp) : SB a H H := fun _ _ _ e => e
theorem SB.trans {a : Addr} {H H1 H2 : Hp} (s : SB a H H1) (t : SB a H1 H2) : SB a H H2 := fun b o n e => t b o n (s b o n e)
theorem Same.sb {a : Addr} {H H' : Hp} (s : Same H H') : SB a H H' := fun b o _ e => s b o e
theorem SB.new {a p : Addr} {o : HO} {H H' : Hp} (s : SB a H H') (hp : H' p = none) : SB a H (upd H' p o) := fun b u n e => by rw [upd_ne (ne_of_none (s b u n e) hp)]; exact s b u n e
theorem SB.put {a : Addr} {o : HO} {H H' : Hp} (s : SB a H H') : SB a H (upd H' a o) := fun b u n e => by rw [upd_ne n]; exact s b u n e
theorem SB.sql {K : PySem.W.Frag} {a b : Addr} {xs : List V} {H H' : Hp} (s : SB a H H') (h : SqL K H b xs) (n : b ≠ a) : SqL K H' b xs := by
  rcases h with (h | ⟨o, h⟩) | h
  · exact .inl (.inl (s _ _ n h))
  · exact .inl (.inr ⟨o, s _ _ n h⟩)
  · exact .inr h
section
variable {P : Program} {w : World} {K : PySem.W.Frag} {mg : Str → Option Value} {base : Heap} {A : Ad}
theorem scDigits : FnScope ["_law_script", "_law_cell"] ["_law_script"] (defScope sDigits) := ⟨rfl, rfl, rfl, by decide +kernel, rfl, by decide +kernel, by decide +kernel⟩
theorem ok_digits {f : Addr} {fd : FuncData} (F : Fun K "_law_digits" "_law_digits" sDigits f fd) (B : Bl mg) : FnOk P w K mg base CX0 1 f fd ["_law_script"] (spDigits K) := by
  refine F.ok scDigits (fun vs H Q E h => ?_) (fun cdv Ar outer s H vs Q E hr h => ?_)
  · obtain ⟨a, ns, rfl, _⟩ := h
    rfl
  · obtain ⟨a, ns, rfl, hA, hz, q⟩ := h
    have nd := scDigits.nd
    refine ⟨_, pss_one (ps_ret (pe_lc (own := [("_law_cell", 1)]) (g := gName 1) rfl nd (pi_list (pe_slice sl_list (pv 0) po_none (po_some pe_int)))
        (blkOk_by (N := ["_law_script", "_law_cell"]) (sc := defScope sDigits) (by decide +kernel))
        (fun _ _ _ _ _ => pg_name (i := 1) nd rfl (Or.inl rfl)) (fun _ _ _ _ _ => pts_nil)
        (fun _ _ _ _ _ => pe_op op_mod (pe_callB call_abs (by rfl) B.abs (by decide +kernel) (pa_cons (pv 1) pa_nil)) (pe_op op_pow pe_int pe_int)))), ?_⟩
    refine ⟨_, rfl, _, rfl, a, _, rfl, hA, fun c hc => ?_⟩
    have ec : cutV (iL ns) none (some 63) = iL (ns.take 63) := cut_to (i := 63)
    rw [ec]
    have s1 := same_new (o := .lst (iL (ns.take 63))) hc
    refine ⟨c, rfl, ⟨_, SqL.of upd_same⟩, fun D hD => lc_l (fun i => iL (((ns.take 63).map fun z => (if z < 0 then -z else z) % 10 ^ (60 : Int).toNat).take i)) hD (SqL.of upd_same) rfl (fun i x H1 hx s2 e2 => ?_) fun H1 s2 e2 => ?_⟩
    · obtain ⟨z, hz1, rfl⟩ := iL_at hx
      have lt := lt_of_get hz1
      rw [List.length_take] at lt
      refine ⟨rfl, _, rfl, z, rfl, 10, 60, rfl, rfl, ⟨by decide, by decide, by decide⟩, _, _, rfl, rfl, by show (0 : Int) < 10 ^ (60 : Int).toNat; decide, lc_put hD s2 e2 (small_line ?_) (iL_take_snoc (z := (if z < 0 then -z else z) % 10 ^ (60 : Int).toNat) ?_)⟩
      · rw [iL_len, List.length_take, List.length_map, List.length_take]; omega
      · rw [List.getElem?_map, hz1]; rfl
    · refine q ((ns.take 63).map fun z => (if z < 0 then -z else z) % 10 ^ (60 : Int).toNat) (fun x hx => ?_) H1 D (Same.trans s1 s2) (s1.free hD) ?_
      · obtain ⟨z, _, rfl⟩ := List.mem_map.mp hx
        exact ⟨Int.emod_nonneg _ (by decide), Int.emod_lt_of_pos _ (by decide)⟩
      · rw [e2]
        show some (HO.lst (iL (((ns.take 63).map fun z => (if z < 0 then -z else z) % 10 ^ (60 : Int).toNat).take (iL (ns.take 63)).length))) = _
        rw [iL_len, List.take_of_length_le (by rw [List.length_map]; exact Nat.le_refl _)]
theorem scDraw : FnScope ["_law_pool", "_law_many", "_law_digit"] ["_law_pool", "_law_many"] (defScope sDraw) := ⟨rfl, rfl, rfl, by decide +kernel, rfl, by decide +kernel, by decide +kernel⟩
theorem ok_draw {f : Addr} {fd : FuncData} (F : Fun K "_law_draw" "_law_draw" sDraw f fd) (B : Bl mg) : FnOk P w K mg base CX0 1 f fd ["_law_pool", "_law_many"] spDraw := by
  refine F.ok scDraw (fun vs H Q E h => ?_) (fun cdv Ar outer s H vs Q E hr h => ?_)
  · obtain ⟨a, pool, many, rfl, _⟩ := h
    rfl
  · obtain ⟨a, pool, many, rfl, hA, hP, hm, hm2, q⟩ := h
    have nd := scDraw.nd
    refine ⟨_, pss_cons (ps_if (pt_cmpR (op_eqI hr.units) (pv 0) (pe_lst pa_nil) (nomark _)) (pss_one (ps_ret pe_int)) pss_nil)
      (pss_cons (ps_set (i := 2) nd rfl (Or.inl rfl) (pe_op op_mod (pe_callTy call_int1 (by rfl) B.int (by decide +kernel) (pa_cons (pe_ix ix_list (pv 0) pe_int (fun _ _ => rfl)) pa_nil)) (pv 1)))
      (pss_cons (ps_asg (pe_op op_fdivW (pe_ix ix_list (pv 0) pe_int (fun _ _ => rfl)) (pv 1)) (pg_sub (pv 0) pe_int set_list))
      (pss_cons (ps_if (pt_cmpR op_eq (pe_ix ix_list (pv 0) pe_int (fun _ _ => rfl)) pe_int (nomark _)) (pss_one (ps_expr (pe_bm PySem.F.plainAttrs_list PySem.F.slot_list_pop PySem.F.type_list_pop mt_popAt (pv 0) (pa_cons pe_int pa_nil)))) pss_nil)
      (pss_one (ps_ret (pv 2)))))), ?_⟩
    refine ⟨_, rfl, Nat.zero_le _, fun u hu => ⟨a, u, pool, [], rfl, rfl, SqL.of (new_ne hA hu), SqL.of upd_same, _, rfl, ?_⟩⟩
    have s1 := SB.new (o := .lst []) (SB.refl a H) hu
    have eA := new_ne (o := .lst []) hA hu
    cases pool with
    | nil => exact if_t rfl (q 0 [] _ ⟨by omega, hm⟩ hP s1 eA)
    | cons x r =>
      refine if_f rfl ⟨_, rfl, a, _, 0, _, rfl, rfl, SqL.of eA, atI_nat (j := 0) rfl, .inl ⟨x, rfl, _, rfl, _, _, rfl, rfl, hm, ?_⟩⟩
      have hx := hP x List.mem_cons_self
      have hr' : ∀ y ∈ r, 0 ≤ y ∧ y < 10 ^ 60 := fun y hy => hP y (List.mem_cons_of_mem _ hy)
      refine ⟨_, rfl, a, _, 0, _, rfl, rfl, SqL.of eA, atI_nat (j := 0) rfl, _, rfl, _, _, rfl, rfl, wide_div (b := 40) hm (by omega) (by decide) (by decide), _, rfl, a, _, 0, 0, rfl, rfl, eA, by unfold ixN; rw [if_pos (by omega), if_pos (by rw [iL_len, List.length_cons]; omega)]; rfl, ?_⟩
      have s2 := SB.put (o := .lst ((iL (x :: r)).set 0 (.int (x / many)))) s1
      have hd0 : 0 ≤ x / many := Int.ediv_nonneg hx.1 (by omega)
      have hd1 : x / many < 10 ^ 60 := Int.lt_of_le_of_lt (Int.ediv_le_self _ hx.1) hx.2
      refine ⟨_, rfl, a, _, 0, _, rfl, rfl, SqL.of upd_same, atI_nat (j := 0) rfl, rfl, _, rfl, ?_⟩
      have hmod : 0 ≤ x % many ∧ x % many < many := ⟨Int.emod_nonneg _ (by omega), Int.emod_lt_of_pos _ hm⟩
      by_cases h0 : x / many = 0
      · refine if_t (by show decide (V.int (x / many) = V.int 0) = true; rw [h0]; rfl) ⟨_, rfl, .inl ⟨rfl, _, SqL.of upd_same⟩, a, _, 0, 0, _, rfl, rfl, upd_same, by decide, by decide, by show seqIndex? 0 (List.length _) = _; unfold seqIndex?; simp, rfl, _, rfl, ?_⟩
        exact q _ r _ hmod hr' (SB.put s2) upd_same
      · refine if_f (decide_eq_false fun e => h0 (V.int.inj e)) ⟨_, rfl, ?_⟩
        refine q _ (x / many :: r) _ hmod (fun y hy => ?_) s2 upd_same
        rcases List.mem_cons.mp hy with e | e
        · subst e; exact ⟨hd0, hd1⟩
        · exact hr' y e
end
end K3
namespace K3
open PySem PySem.Spec PyProof.Rows L2
theorem SB.fresh {a R : Addr} {o : HO} {H H' : Hp} (s : SB a H H') (hR : H R = none) : SB a H (upd H' R o) := fun b u n e => by rw [upd_ne (ne_of_none e hR)]; exact s b u n e
section
variable {P : Program} {w : World} {K : PySem.W.Frag} {mg : Str → Option Value} {base : Heap} {A : Ad}
theorem scNumber : FnScope ["_law_pool", "_law_k", "_law_kind", "_law_size"] ["_law_pool", "_law_k"] (defScope sNumber) := ⟨rfl, rfl, rfl, by decide +kernel, rfl, by decide +kernel, by decide +kernel⟩
theorem ok_number {f : Addr} {fd : FuncData} (F : Fun K "_law_number" "_law_number" sNumber f fd) (B : Bl mg) (G : Fc P w K mg base 1 "_law_draw" spDraw) : FnOk P w K mg base CX0 2 f fd ["_law_pool", "_law_k"] spNumber := by
  refine F.ok scNumber (fun vs H Q E h => ?_) (fun cdv Ar outer s H vs Q E hr h => ?_)
  · obtain ⟨a, pool, k, rfl, _⟩ := h
    rfl
  · obtain ⟨a, pool, k, rfl, hA, hP, hk, q⟩ := h
    have nd := scNumber.nd
    refine ⟨_, pss_cons (ps_set (i := 2) nd rfl (Or.inl rfl) (pc G hr (pa_cons (pv 0) (pa_cons pe_int pa_nil))))
      (pss_cons (ps_if (pt_cmpR op_eq (pv 2) pe_int (nomark _))
        (pss_cons (ps_set (i := 3) nd rfl (Or.inl rfl) (pc G hr (pa_cons (pv 0) (pa_cons pe_int pa_nil))))
        (pss_one (ps_ret (pe_ifExp (pt_cmpR op_eq (pe_op op_mod (pe_callTy call_int1 (by rfl) B.int (by decide +kernel) (pa_cons (pv 3) pa_nil)) pe_int) pe_int (nomark _)) (pe_op op_fdiv (pv 3) pe_int) (pe_op op_sub (pe_un un_neg pe_int) (pe_op op_fdiv (pv 3) pe_int)))))) pss_nil)
      (pss_cons (ps_if (pt_cmpR op_eq (pv 2) pe_int (nomark _))
        (pss_one (ps_ret (pe_ix ix_list (pe_lst (pa_cons pe_int (pa_cons (pe_un un_neg pe_int) (pa_cons (pe_op op_pow pe_int pe_int) (pa_cons (pe_un un_neg pe_int) (pa_cons (pe_un un_neg (pe_op op_pow pe_int pe_int)) pa_nil)))))) (pc G hr (pa_cons (pv 0) (pa_cons pe_int pa_nil))) (fun _ _ => rfl)))) pss_nil)
      (pss_one (ps_ret (pe_op op_mod (pe_callTy call_int1 (by rfl) B.int (by decide +kernel) (pa_cons (pe_op op_add (pc G hr (pa_cons (pv 0) (pa_cons pe_int pa_nil))) (pe_op op_fdiv (pv 1) pe_int)) pa_nil)) pe_int))))), ?_⟩
    refine ⟨_, rfl, a, pool, 5, rfl, hA, hP, by decide, by decide, fun v1 pool1 H1 hv1 hp1 s1 e1 => ?_⟩
    refine ⟨_, rfl, rfl, _, rfl, ?_⟩
    by_cases h3 : v1 = 3
    · subst h3
      refine if_t rfl ⟨_, rfl, a, pool1, 1999999999, rfl, e1, hp1, by decide, by decide, fun v2 pool2 H2 hv2 hp2 s2 e2 => ?_⟩
      refine ⟨_, rfl, .inl ⟨v2, rfl, _, _, rfl, rfl, by show (0 : Int) < 2; decide, rfl, _, rfl, ?_⟩⟩
      by_cases h0 : v2 % 2 = 0
      · refine if_t (decide_eq_true (by show V.int (v2 % 2) = V.int 0; rw [h0])) ⟨_, rfl, _, _, rfl, rfl, ⟨by decide, by decide⟩, q _ pool2 H2 trivial hp2 (SB.trans s1 s2) e2⟩
      · refine if_f (decide_eq_false fun e => h0 (V.int.inj e)) ⟨_, rfl, _, rfl, _, _, rfl, rfl, ⟨by decide, by decide⟩, _, _, rfl, rfl, q _ pool2 H2 trivial hp2 (SB.trans s1 s2) e2⟩
    refine if_f (decide_eq_false fun e => h3 (V.int.inj e)) ⟨_, rfl, rfl, _, rfl, ?_⟩
    by_cases h4 : v1 = 4
    · subst h4
      refine if_t rfl ⟨_, rfl, _, _, rfl, rfl, ⟨by decide, by decide, by decide⟩, _, rfl, _, _, rfl, rfl, ⟨by decide, by decide, by decide⟩, _, rfl, by show 5 ≤ sizeLine; decide, fun L hL => ?_⟩
      refine ⟨_, rfl, a, pool1, 5, rfl, new_ne e1 hL, hp1, by decide, by decide, fun v2 pool2 H2 hv2 hp2 s2 e2 => ?_⟩
      obtain ⟨z, hz⟩ := get_of_lt (l := [999999999, -999999999, (10 : Int) ^ (12 : Int).toNat, -1, -(10 : Int) ^ (12 : Int).toNat]) (i := v2.toNat) (by simp only [List.length_cons, List.length_nil]; omega)
      exact ⟨L, _, v2, .int z, rfl, rfl, SqL.of (s2 _ _ (ne_of_none e1 hL).symm upd_same), at_of (j := v2.toNat) (by omega) (iL_get hz), q z pool2 H2 trivial hp2 (SB.trans (SB.new s1 hL) s2) e2⟩
    refine if_f (decide_eq_false fun e => h4 (V.int.inj e)) ⟨_, rfl, a, pool1, 10, rfl, e1, hp1, by decide, by decide, fun v2 pool2 H2 hv2 hp2 s2 e2 => ?_⟩
    exact ⟨_, rfl, _, _, rfl, rfl, ⟨by decide, by decide⟩, _, _, rfl, rfl, .inl ⟨_, rfl, _, _, rfl, rfl, by show (0 : Int) < 10; decide, q _ pool2 H2 trivial hp2 (SB.trans s1 s2) e2⟩⟩
theorem scRow : FnScope ["_law_pool", "_law_row_here", "_law_k"] ["_law_pool"] (defScope sRow) := ⟨rfl, rfl, rfl, by decide +kernel, rfl, by decide +kernel, by decide +kernel⟩
theorem ok_row {f : Addr} {fd : FuncData} (F : Fun K "_law_row" "_law_row" sRow f fd) (B : Bl mg) (G1 : Fc P w K mg base 1 "_law_draw" spDraw) (G2 : Fc P w K mg base 2 "_law_number" spNumber) : FnOk P w K mg base CX0 3 f fd ["_law_pool"] spRow := by
  refine F.ok scRow (fun vs H Q E h => ?_) (fun cdv Ar outer s H vs Q E hr h => ?_)
  · obtain ⟨a, pool, rfl, _⟩ := h
    rfl
  · obtain ⟨a, pool, rfl, hA, hP, q⟩ := h
    have nd := scRow.nd
    have hr1 : Room 1 _ := hr.mono (by decide)
    refine ⟨_, pss_cons (ps_set (i := 1) nd rfl (Or.inl rfl) (pe_lst pa_nil))
      (pss_cons (ps_for PassesOwn.never rfl (pi_range1 (by rfl) B.range (pa_cons (pe_op op_add pe_int (pe_op op_mod (pe_callTy call_int1 (by rfl) B.int (by decide +kernel) (pa_cons (pe_op op_add (pc G1 hr1 (pa_cons (pv 0) (pa_cons pe_int pa_nil))) pe_int) pa_nil)) pe_int)) pa_nil)) (pg_name (i := 2) nd rfl (Or.inl rfl))
        (pss_one (ps_if (PW.pt (pw_and (pt_cmpR op_eq (pc G1 hr1 (pa_cons (pv 0) (pa_cons pe_int pa_nil))) pe_int (nomark _)) (pw_and1 (pt_cmpR op_gt (pv 2) pe_int (nomark _)))))
          (pss_one (ps_expr (pe_bm PySem.F.plainAttrs_list PySem.F.slot_list_append PySem.F.type_list_append mt_append (pv 1) (pa_cons (pe_ix ix_list (pv 1) (pe_un un_neg pe_int) (fun _ _ => rfl)) pa_nil))))
          (pss_one (ps_expr (pe_bm PySem.F.plainAttrs_list PySem.F.slot_list_append PySem.F.type_list_append mt_append (pv 1) (pa_cons (pc G2 hr (pa_cons (pv 0) (pa_cons (pv 2) pa_nil))) pa_nil)))))))
      (pss_one (ps_ret (pv 1)))), ?_⟩
    refine ⟨Nat.zero_le _, fun R hR => ?_⟩
    have nR : R ≠ a := (ne_of_none hA hR).symm
    refine ⟨_, rfl, a, pool, 14, rfl, new_ne hA hR, hP, by decide, by decide, fun v1 pool1 H1 hv1 hp1 s1 e1 => ?_⟩
    have s0 : SB a H H1 := SB.trans (SB.new (SB.refl a H) hR) s1
    have eR : H1 R = some (.lst (iL [])) := s1 _ _ nR upd_same
    refine ⟨_, _, rfl, rfl, .inl ⟨_, rfl, _, _, rfl, rfl, by show (0 : Int) < 14; decide, _, _, rfl, rfl, _, rfl, by omega, by omega, ?_⟩⟩
    refine for_range (lo := 0) (n := (1 + (v1 + 4) % 14).toNat) (fun i σ H' => ∃ (t : Option V) (pool' r : List Int), σ = [some (.ref a), some (.ref R), t] ∧ Pool pool' ∧ SB a H H' ∧ H' a = some (.lst (iL pool')) ∧ H' R = some (.lst (iL r)) ∧ r.length = i)
      ⟨none, pool1, [], rfl, hp1, s0, e1, eR, rfl⟩ ?_ ?_
    · rintro i σ H2 hi ⟨t, pool2, r, rfl, hp2, s2, e2, eR2, hl⟩
      refine ⟨_, rfl, a, pool2, 3, rfl, e2, hp2, by decide, by decide, fun v3 pool3 H3 hv3 hp3 s3 e3 => ?_⟩
      have eR3 := s3 _ _ nR eR2
      have s4 := SB.trans s2 s3
      have other : tDrop (tBM K "list" rAppend (tVar 1) (tCons (tCallS spNumber (fun _ => E0) (tCons (tVar 0) (tCons (tVar 2) tNil))) tNil))
          { nx := fun σ H' => ∃ (t : Option V) (pool' r : List Int), σ = [some (.ref a), some (.ref R), t] ∧ Pool pool' ∧ SB a H H' ∧ H' a = some (.lst (iL pool')) ∧ H' R = some (.lst (iL r)) ∧ r.length = i + 1,
            ct := fun σ H' => ∃ (t : Option V) (pool' r : List Int), σ = [some (.ref a), some (.ref R), t] ∧ Pool pool' ∧ SB a H H' ∧ H' a = some (.lst (iL pool')) ∧ H' R = some (.lst (iL r)) ∧ r.length = i + 1,
            bk := tRet (tVar 1) { nx := fun _ H' => Q .non H', rt := Q }, rt := Q } [some (.ref a), some (.ref R), some (.int (0 + (i : Nat)))] H3 := by
        refine ⟨_, rfl, .inl ⟨rfl, _, SqL.of eR3⟩, _, rfl, _, rfl, a, pool3, _, rfl, e3, hp3, by omega, fun v5 pool5 H5 _ hp5 s5 e5 => ?_⟩
        have eR5 := s5 _ _ nR eR3
        refine ⟨R, _, _, rfl, rfl, eR5, small_line (by rw [iL_len]; omega), _, pool5, r ++ [v5], rfl, hp5, SB.fresh (SB.trans s4 s5) hR, ?_, ?_, by simp [hl]⟩
        · rw [upd_ne nR.symm]; exact e5
        · rw [upd_same, iL_app]; rfl
      refine ⟨rfl, _, rfl, ?_⟩
      by_cases h2 : v3 = 2
      case neg => exact if_f (decide_eq_false fun e => h2 (V.int.inj e)) (iteF other)
      refine if_t (decide_eq_true (by rw [h2])) ⟨_, rfl, _, _, rfl, rfl, _, rfl, ?_⟩
      by_cases h0 : i = 0
      · exact if_f (decide_eq_false (by omega)) other
      · obtain ⟨r', x, er⟩ := lastD r (by intro e; rw [e] at hl; exact h0 hl.symm)
        refine if_t (decide_eq_true (by omega)) ⟨_, rfl, .inl ⟨rfl, _, SqL.of eR3⟩, _, rfl, 1, rfl, R, _, -1, .int x, rfl, rfl, SqL.of eR3, ?_, R, _, _, rfl, rfl, eR3, small_line (by rw [iL_len]; omega), _, pool3, r ++ [x], rfl, hp3, SB.fresh s4 hR, ?_, ?_, by simp [hl]⟩
        · rw [er, iL_app]; exact atI_last _ _
        · rw [upd_ne nR.symm]; exact e3
        · rw [upd_same, iL_app]; rfl
    · rintro σ H2 ⟨t, pool2, r, rfl, hp2, s2, e2, eR2, hl⟩
      exact ⟨_, rfl, q r pool2 R H2 (by omega) (by omega) hp2 s2 e2 nR hR eR2⟩
end
end K3
namespace K3
open PySem PySem.Spec PyProof.Rows L2
theorem bent_len {kd at_ st : Int} {row : List Int} : (bent kd at_ st row).length ≤ row.length + 1 := by
  unfold bent
  simp only
  split
  · simp only [List.length_append, List.length_take, List.length_drop, List.length_singleton]; omega
  · split
    · simp only [List.length_append, List.length_take, List.length_drop]; omega
    · simp only [List.length_append, List.length_take, List.length_drop, List.length_singleton]; omega
theorem bent_mem {kd at_ st : Int} {row : List Int} (h : ∀ x ∈ row, -1000 ≤ x ∧ x ≤ 1000) (h1 : -2 ≤ st) (h2 : st ≤ 2) : ∀ x ∈ bent kd at_ st row, -2000 ≤ x ∧ x ≤ 2000 := by
  intro x hx
  have key : ∀ y ∈ row, -2000 ≤ y ∧ y ≤ 2000 := fun y hy => by have := h y hy; omega
  unfold bent at hx
  simp only at hx
  split at hx
  · simp only [List.mem_append, List.mem_singleton] at hx
    rcases hx with (hx | hx) | hx
    · exact key x (List.mem_of_mem_take hx)
    · omega
    · exact key x (List.mem_of_mem_drop hx)
  · split at hx
    · simp only [List.mem_append] at hx
      rcases hx with hx | hx
      · exact key x (List.mem_of_mem_take hx)
      · exact key x (List.mem_of_mem_drop hx)
    · simp only [List.mem_append, List.mem_singleton] at hx
      rcases hx with (hx | hx) | hx
      · exact key x (List.mem_of_mem_take hx)
      · generalize (at_ % ((row.length : Int) + 1)).toNat = i at hx
        rw [List.getD_eq_getElem?_getD] at hx
        cases e : row[i]? with
        | none => rw [e] at hx; simp only [Option.getD_none] at hx; omega
        | some y =>
          have := h y (List.mem_of_getElem? e)
          rw [e] at hx; simp only [Option.getD_some] at hx; omega
      · exact key x (List.mem_of_mem_drop hx)
theorem cut_is {row : List Int} {lo hi : Option Int} : ∃ r : List Int, cutV (iL row) lo hi = iL r ∧ r.length ≤ row.length := by
  refine ⟨(row.drop (HT.sIx (iL row).length 0 lo)).take (HT.sIx (iL row).length (iL row).length hi - HT.sIx (iL row).length 0 lo), ?_, ?_⟩
  · unfold cutV
    rw [← List.map_drop, ← List.map_take]
  · rw [List.length_take, List.length_drop]; omega
def Ok2 (k : Lk) (o : List Int) : Prop := o.length ≤ 60 ∧ (k = .ru → ∀ x ∈ o, -2000 ≤ x ∧ x ≤ 2000)
section
variable {P : Program} {w : World} {K : PySem.W.Frag} {mg : Str → Option Value} {base : Heap} {A : Ad}
theorem scLink : FnScope ["_law_link_here", "_law_name", "_law_row_here", "_law_bends", "_law_drawn", "_law_own_here", "_law_inner", "_law_one", "_law_two", "_law_cells", "_law_rows"] ["_law_link_here", "_law_name", "_law_row_here", "_law_bends", "_law_drawn"] (defScope sLink) := ⟨rfl, rfl, rfl, by decide +kernel, rfl, by decide +kernel, by decide +kernel⟩
theorem ok_link {f : Addr} {fd : FuncData} (F : Fun K "_law_link" "_law_link" sLink f fd) (G1 : Fc P w K mg base 3 "_law_parted" (spParted K)) (G2 : Fc P w K mg base 3 "_law_bent" (spBent K)) (G3 : Fc P w K mg base 3 "_law_join" (spJoin K A))
    (G4 : Fc P w K mg base 3 "_law_count" (spCount K A)) (G5 : Fc P w K mg base 3 "_law_parts" (spParts K A)) :
    FnOk P w K mg base CX0 4 f fd ["_law_link_here", "_law_name", "_law_row_here", "_law_bends", "_law_drawn"] (spLink K A) := by
  refine F.ok scLink (fun vs H Q E h => ?_) (fun cdv Ar outer s H vs Q E hr h => ?_)
  · obtain ⟨k, x, dx, a, b, d, row, rfl, _⟩ := h
    rfl
  · obtain ⟨k, x, dx, a, b, d, row, rfl, hX, hA, hne, hz, hb, hd, q⟩ := h
    have nd := scLink.nd
    refine ⟨_, pss_cons (ps_asg (pc G1 hr (pa_cons (pv 1) (pa_cons (pv 2) pa_nil))) (pg_tup rfl (pgs_cons (pg_name (i := 5) nd rfl (Or.inl rfl)) (pgs_cons (pg_name (i := 6) nd rfl (Or.inl rfl)) pgs_nil))))
      (pss_cons (ps_for PassesOwn.never rfl (pi_list (pe_lst (pa_cons (pv 5) (pa_cons (pc G2 hr (pa_cons (pe_ix ix_list (pv 3) pe_int (fun _ _ => rfl)) (pa_cons (pv 5) pa_nil))) pa_nil)))) (pg_name (i := 7) nd rfl (Or.inl rfl))
        (pss_one (ps_for PassesOwn.never rfl (pi_list (pe_lst (pa_cons (pv 6) (pa_cons (pc G2 hr (pa_cons (pe_ix ix_list (pv 3) pe_int (fun _ _ => rfl)) (pa_cons (pv 6) pa_nil))) pa_nil)))) (pg_name (i := 8) nd rfl (Or.inl rfl))
          (pss_one (ps_if (pt_not (pt_val (pc G3 hr (pa_cons (pv 0) (pa_cons (pv 1) (pa_cons (pv 7) (pa_cons (pv 8) pa_nil))))))) (pss_one (ps_ret pe_bl)) pss_nil)))))
      (pss_cons (ps_set (i := 9) nd rfl (Or.inl rfl) (pe_op op_cat (pv 5) (pv 6)))
      (pss_cons (ps_set (i := 10) nd rfl (Or.inl rfl) (pe_lst (pa_cons (pv 9) (pa_cons (pe_slice sl_list (pv 9) po_none (po_some (pe_ix ix_list (pe_ix ix_list (pv 3) pe_int (fun _ _ => rfl)) pe_int (fun _ _ => rfl))))
          (pa_cons (pc G2 hr (pa_cons (pe_ix ix_list (pv 3) pe_int (fun _ _ => rfl)) (pa_cons (pv 9) pa_nil))) pa_nil)))))
      (pss_cons (ps_for PassesOwn.never rfl (pi_list (pv 4)) (pg_tup rfl (pgs_cons (pg_name (i := 7) nd rfl (Or.inl rfl)) (pgs_cons (pg_name (i := 8) nd rfl (Or.inl rfl)) pgs_nil)))
        (pss_cons (ps_expr (pe_bm PySem.F.plainAttrs_list PySem.F.slot_list_append PySem.F.type_list_append mt_append (pv 10) (pa_cons (pe_op op_cat (pv 7) (pv 8)) pa_nil)))
        (pss_one (ps_if (pt_not (pt_val (pc G3 hr (pa_cons (pv 0) (pa_cons (pv 1) (pa_cons (pv 7) (pa_cons (pv 8) pa_nil))))))) (pss_one (ps_ret pe_bl)) pss_nil))))
      (pss_cons (ps_for PassesOwn.never rfl (pi_list (pv 10)) (pg_name (i := 7) nd rfl (Or.inl rfl))
        (pss_one (ps_if (pt_not (pt_val (pc G4 hr (pa_cons (pv 0) (pa_cons (pv 1) (pa_cons (pv 7) pa_nil)))))) (pss_one (ps_ret pe_bl)) pss_nil)))
      (pss_one (ps_ret (pc G5 hr (pa_cons (pv 0) (pa_cons (pv 1) (pa_cons (pv 2) pa_nil))))))))))), ?_⟩
    obtain ⟨b0, b1, k0, a0, z0, k1, a1, z1, eb, eb0, eb1, z01, z02, z11, z12⟩ := hb
    obtain ⟨t0, t1, ed, ht0, ht1⟩ := hd
    obtain ⟨pl1, pl2⟩ := parted_len k hne
    have own_b : k = .ru → ∀ y ∈ (parted k row).1, -1000 ≤ y ∧ y ≤ 1000 := by
      intro e y hy
      subst e
      have hl := runs_len row
      rcases List.mem_cons.mp (show y ∈ ((runs row).length : Int) :: (runs row).map (·.2) from hy) with e | e
      · omega
      · obtain ⟨p, hp, rfl⟩ := List.mem_map.mp e
        have := runs_small hp
        omega
    refine ⟨_, rfl, _, rfl, k, a, row, rfl, hA, hne, by omega, fun _ => by omega, fun H1 t p p' s1 nt np np' npp et ep ep' => ?_⟩
    generalize ho : (parted k row).1 = own at *
    generalize hi : (parted k row).2 = inner at *
    refine ⟨t, _, rfl, SqT.of et, rfl, _, _, rfl, _, _, rfl, rfl, ?_⟩
    clear nt np np' et npp
    -- the first pairs
    have B0 : ∀ {H'}, Same H H' → SqL K H' b [.ref b0, .ref b1] := fun s => s.seq (SqL.of eb)
    refine ⟨_, rfl, _, rfl, b, _, 0, .ref b0, rfl, rfl, B0 s1, rfl, _, rfl, b0, p, k0, a0, z0, own, rfl, SqL.of (s1 _ _ eb0), SqL.of ep, by omega, fun H2 p2 s2 np2 e2 => ⟨by show 2 ≤ sizeLine; decide, fun L hL => ⟨L, rfl, ⟨_, SqL.of upd_same⟩, ?_⟩⟩⟩
    have s3 := Same.new (o := .lst [V.ref p, V.ref p2]) s2 hL
    have ep3 := s3 _ _ ep
    have ep3' := s3 _ _ ep'
    have e23 := new_ne (o := .lst [V.ref p, V.ref p2]) e2 hL
    have s03 := Same.trans s1 s3
    have eL : upd H2 L (.lst [V.ref p, V.ref p2]) L = some (.lst [V.ref p, V.ref p2]) := upd_same
    generalize upd H2 L (.lst [V.ref p, V.ref p2]) = H3 at s3 ep3 ep3' e23 s03 eL
    clear s2 np2 e2 hL
    have Oo : Ok2 k own := ⟨by omega, fun e y hy => by have := own_b e y hy; omega⟩
    have Ob : Ok2 k (bent k0 a0 z0 own) := ⟨by have := bent_len (kd := k0) (at_ := a0) (st := z0) (row := own); omega, fun e => bent_mem (own_b e) z01 z02⟩
    have bi := bent_len (kd := k1) (at_ := a1) (st := z1) (row := inner)
    refine for_list (K := K) (a := L) (xs := [V.ref p, V.ref p2]) (fun i σ H' => ∃ t7 t8 : Option V, σ = [some (.ref x), some (.str (nm k)), some (.ref a), some (.ref b), some (.ref d), some (.ref p), some (.ref p'), t7, t8, none, none] ∧ Same H3 H') ⟨none, none, rfl, Same.refl _⟩
      (fun i σ H' _ ⟨t7, t8, _, s⟩ => s.seq (SqL.of eL)) ?_ ?_
    · rintro i v σ H4 hv ⟨t7, t8, rfl, s4⟩
      obtain ⟨c, o, rfl, ec, hO⟩ : ∃ c o, v = .ref c ∧ H3 c = some (.lst (iL o)) ∧ Ok2 k o := by
        have m := List.mem_of_getElem? hv
        simp only [List.mem_cons, List.not_mem_nil, or_false] at m
        rcases m with h | h
        · exact ⟨_, _, h, ep3, Oo⟩
        · exact ⟨_, _, h, e23, Ob⟩
      have s04 := Same.trans s03 s4
      refine ⟨_, rfl, _, rfl, b, _, 1, .ref b1, rfl, rfl, B0 s04, rfl, _, rfl, b1, p', k1, a1, z1, inner, rfl, SqL.of (s04 _ _ eb1), SqL.of (s4 _ _ ep3'), by omega, fun H5 p5 s5 np5 e5 => ⟨by show 2 ≤ sizeLine; decide, fun L2 hL2 => ⟨L2, rfl, ⟨_, SqL.of upd_same⟩, ?_⟩⟩⟩
      have s6 := Same.new (o := .lst [V.ref p', V.ref p5]) s5 hL2
      have s36 := Same.trans s4 s6
      have e56 := new_ne (o := .lst [V.ref p', V.ref p5]) e5 hL2
      have eL2 : upd H5 L2 (.lst [V.ref p', V.ref p5]) L2 = some (.lst [V.ref p', V.ref p5]) := upd_same
      generalize upd H5 L2 (.lst [V.ref p', V.ref p5]) = H6 at s6 s36 e56 eL2
      refine for_list (K := K) (a := L2) (xs := [V.ref p', V.ref p5]) (fun i σ H' => ∃ t8 : Option V, σ = [some (.ref x), some (.str (nm k)), some (.ref a), some (.ref b), some (.ref d), some (.ref p), some (.ref p'), some (.ref c), t8, none, none] ∧ Same H6 H') ⟨t8, rfl, Same.refl _⟩
        (fun i σ H' _ ⟨t8, _, s⟩ => s.seq (SqL.of eL2)) ?_ ?_
      · rintro i2 v2 σ H7 hv2 ⟨t8', rfl, s7⟩
        obtain ⟨c2, o2, rfl, ec2, hO2⟩ : ∃ c2 o2, v2 = .ref c2 ∧ H6 c2 = some (.lst (iL o2)) ∧ o2.length ≤ 60 := by
          have m := List.mem_of_getElem? hv2
          simp only [List.mem_cons, List.not_mem_nil, or_false] at m
          rcases m with h | h
          · exact ⟨_, _, h, s36 _ _ ep3', by omega⟩
          · exact ⟨_, _, h, e56, by omega⟩
        have s37 := Same.trans s36 s7
        exact ⟨_, rfl, _, rfl, _, rfl, _, rfl, k, x, dx, c, c2, o, o2, rfl, Same.trans s03 s37 _ _ hX, SqL.of (s37 _ _ ec), SqL.of (s7 _ _ ec2), ⟨hO.1, hO2, hO.2⟩, fun H8 s8 => ⟨_, rfl, if_f rfl ⟨_, rfl, Same.trans s7 s8⟩⟩⟩
      · rintro σ H7 ⟨t8', rfl, s7⟩
        exact ⟨_, _, rfl, Same.trans s36 s7⟩
    rintro σ H4 ⟨t7, t8, rfl, s4⟩
    -- the cells
    refine ⟨_, rfl, _, rfl, p, p', _, _, rfl, rfl, s4 _ _ ep3, s4 _ _ ep3', Nat.le_of_lt (small_line (by rw [iL_len, iL_len]; omega)), fun c hc => ?_⟩
    have s5 := Same.new (o := .lst (iL own ++ iL inner)) (Same.trans s03 s4) hc
    have ec : upd H4 c (.lst (iL own ++ iL inner)) c = some (.lst (iL (own ++ inner))) := by rw [upd_same, iL_app]
    generalize upd H4 c (.lst (iL own ++ iL inner)) = H5 at s5 ec
    obtain ⟨cr, ecr, hcr⟩ := cut_is (row := own ++ inner) (lo := none) (hi := some a0)
    refine ⟨_, rfl, _, rfl, _, rfl, b, _, 0, .ref b0, rfl, rfl, B0 s5, rfl, b0, _, 1, .int a0, rfl, rfl, SqL.of (s5 _ _ eb0), rfl, a0, rfl, c, _, rfl, SqL.of ec, fun c2 hc2 => ?_⟩
    rw [ecr]
    have s6 := Same.new (o := .lst (iL cr)) s5 hc2
    have ec6 := new_ne (o := .lst (iL cr)) ec hc2
    have ec2 : upd H5 c2 (.lst (iL cr)) c2 = some (.lst (iL cr)) := upd_same
    generalize upd H5 c2 (.lst (iL cr)) = H6 at s6 ec6 ec2
    have ll : (own ++ inner).length ≤ 60 := by rw [List.length_append]; omega
    refine ⟨_, rfl, b, _, 1, .ref b1, rfl, rfl, B0 s6, rfl, _, rfl, b1, c, k1, a1, z1, own ++ inner, rfl, SqL.of (s6 _ _ eb1), SqL.of ec6, by omega, fun H7 c3 s7 nc3 ec3 => ⟨by show 3 ≤ sizeLine; decide, fun R hR => ?_⟩⟩
    have s67 := Same.trans s6 s7
    have nR : H R = none := s67.free hR
    have s8 := Same.new (o := .lst [V.ref c, V.ref c2, V.ref c3]) s67 hR
    have r1 := new_ne (o := .lst [V.ref c, V.ref c2, V.ref c3]) (s7 _ _ ec6) hR
    have r2 := new_ne (o := .lst [V.ref c, V.ref c2, V.ref c3]) (s7 _ _ ec2) hR
    have r3 := new_ne (o := .lst [V.ref c, V.ref c2, V.ref c3]) ec3 hR
    have n1 : c ≠ R := ne_of_none (s7 _ _ ec6) hR
    have n2 : c2 ≠ R := ne_of_none (s7 _ _ ec2) hR
    have n3 : c3 ≠ R := ne_of_none ec3 hR
    have eR : upd H7 R (.lst [V.ref c, V.ref c2, V.ref c3]) R = some (.lst ([c, c2, c3].map V.ref)) := upd_same
    generalize upd H7 R (.lst [V.ref c, V.ref c2, V.ref c3]) = H8 at s8 r1 r2 r3 eR
    refine ⟨_, rfl, d, rfl, ⟨_, SqL.of (s8 _ _ ed)⟩, for_list (K := K) (a := d) (xs := [V.ref t0, V.ref t1]) (fun i σ H' => ∃ (t7 t8 : Option V) (cs : List Addr), σ = [some (.ref x), some (.str (nm k)), some (.ref a), some (.ref b), some (.ref d), some (.ref p), some (.ref p'), t7, t8, some (.ref c), some (.ref R)] ∧ Same H H' ∧
      H' R = some (.lst (cs.map V.ref)) ∧ cs.length = 3 + i ∧ ∀ y ∈ cs, y ≠ R ∧ ∃ ns, H' y = some (.lst (iL ns))) ⟨_, _, [c, c2, c3], rfl, s8, eR, rfl, fun y hy => ?_⟩
      (fun i σ H' _ ⟨_, _, _, _, s, _⟩ => s.seq (SqL.of ed)) ?_ ?_⟩
    · simp only [List.mem_cons, List.not_mem_nil, or_false] at hy
      rcases hy with rfl | rfl | rfl
      · exact ⟨n1, _, r1⟩
      · exact ⟨n2, _, r2⟩
      · exact ⟨n3, _, r3⟩
    · rintro i v σ H9 hv ⟨t7, t8, cs, rfl, s9, e9, hl, hcs⟩
      obtain ⟨tt, rfl, htt⟩ : ∃ tt, v = .ref tt ∧ TwoL H tt := by
        have m := List.mem_of_getElem? hv
        simp only [List.mem_cons, List.not_mem_nil, or_false] at m
        rcases m with h | h
        · exact ⟨_, h, ht0⟩
        · exact ⟨_, h, ht1⟩
      have hi2 := lt_of_get hv
      simp only [List.length_cons, List.length_nil] at hi2
      obtain ⟨u, u', ns, ms, et, eu, eu', hn, hm, hbd⟩ := htt
      refine ⟨tt, _, rfl, SqT.of (s9 _ _ et), rfl, _, _, rfl, _, _, rfl, rfl, ?_⟩
      refine ⟨_, rfl, .inl ⟨rfl, _, SqL.of e9⟩, _, rfl, _, rfl, u, u', _, _, rfl, rfl, s9 _ _ eu, s9 _ _ eu', Nat.le_of_lt (small_line (by rw [iL_len, iL_len]; omega)), fun y hy => ⟨R, _, _, rfl, rfl, new_ne e9 hy, small_line (by rw [List.length_map]; omega), ?_⟩⟩
      have ny : y ≠ R := (ne_of_none e9 hy).symm
      have s10 : Same H (upd (upd H9 y (.lst (iL ns ++ iL ms))) R (.lst (cs.map V.ref ++ [.ref y]))) := fun b' o e => by
        have e' := s9 b' o e
        rw [upd_ne (ne_of_none e nR), upd_ne (ne_of_none e' hy)]; exact e'
      refine ⟨_, rfl, _, rfl, _, rfl, _, rfl, k, x, dx, u, u', ns, ms, rfl, s10 _ _ hX, SqL.of (s10 _ _ eu), SqL.of (s10 _ _ eu'), ⟨by omega, by omega, fun _ => hbd⟩, fun H11 s11 => ⟨_, rfl, if_f rfl ⟨_, _, cs ++ [y], rfl, Same.trans s10 s11, ?_, by rw [List.length_append, hl]; rfl, fun z hz => ?_⟩⟩⟩
      · rw [s11 _ _ upd_same, List.map_append]; rfl
      · rcases List.mem_append.mp hz with h | h
        · obtain ⟨nz, ns', ez⟩ := hcs z h
          exact ⟨nz, ns', s11 _ _ (by rw [upd_ne nz]; exact new_ne ez hy)⟩
        · have : z = y := by simpa using h
          subst this
          exact ⟨ny, ns ++ ms, s11 _ _ (by rw [upd_ne ny, upd_same, iL_app])⟩
    rintro σ H9 ⟨t7, t8, cs, rfl, s9, e9, hl, hcs⟩
    refine ⟨_, rfl, R, rfl, ⟨_, SqL.of e9⟩, for_list (K := K) (a := R) (xs := cs.map V.ref) (fun i σ H' => ∃ (t7 : Option V), σ = [some (.ref x), some (.str (nm k)), some (.ref a), some (.ref b), some (.ref d), some (.ref p), some (.ref p'), t7, t8, some (.ref c), some (.ref R)] ∧ Same H9 H') ⟨_, rfl, Same.refl _⟩
      (fun i σ H' _ ⟨_, _, s⟩ => s.seq (SqL.of e9)) ?_ ?_⟩
    · rintro i v σ H10 hv ⟨t7, rfl, s10⟩
      obtain ⟨y, hy, rfl⟩ := List.mem_map.mp (List.mem_of_getElem? hv)
      obtain ⟨_, ns, ey⟩ := hcs y hy
      exact ⟨_, rfl, _, rfl, _, rfl, k, x, dx, y, ns, rfl, Same.trans s9 s10 _ _ hX, SqL.of (s10 _ _ ey), fun H11 s11 => ⟨_, rfl, if_f rfl ⟨_, rfl, Same.trans s10 s11⟩⟩⟩
    · rintro σ H10 ⟨t7, rfl, s10⟩
      have s11 := Same.trans s9 s10
      exact ⟨_, rfl, _, rfl, _, rfl, k, x, dx, a, row, rfl, s11 _ _ hX, s11.seq hA, hne, hz, fun H12 s12 => q _ (Same.trans s11 s12)⟩
end
end K3
namespace K3
open PySem PySem.Spec PyProof.Rows L2
section
variable {X : Cx} {j : Nat} {x : Str} {sp : Sp} {p pos : Pos}
theorem pc0 (c : Fc X.prog X.w X.K X.mg X.base j x sp) (hr : Room j X.A) (hg : Gl X x := by rfl) (hdb : (x == ("__debug__" : Str)) = false := by decide) : PE X (.Call (.Name x p) [] [] pos) (tCall sp [] E0 tNil) := by
  obtain ⟨f, fd, ps, hm, hk, hb, F⟩ := c
  exact pe_call0 F hr hg hm hk hb .nil (fun _ _ _ _ _ _ _ h => h.elim) hdb
end
theorem bends_same {H H' : Hp} {b : Addr} (s : Same H H') (h : Bends H b) : Bends H' b := by
  obtain ⟨b0, b1, k0, a0, z0, k1, a1, z1, eb, eb0, eb1, r⟩ := h
  exact ⟨b0, b1, k0, a0, z0, k1, a1, z1, s _ _ eb, s _ _ eb0, s _ _ eb1, r⟩
theorem twoL_same {H H' : Hp} {t : Addr} (s : Same H H') (h : TwoL H t) : TwoL H' t := by
  obtain ⟨p, q, ns, ms, e1, e2, e3, r⟩ := h
  exact ⟨p, q, ns, ms, s _ _ e1, s _ _ e2, s _ _ e3, r⟩
theorem drawn_same {H H' : Hp} {d : Addr} (s : Same H H') (h : Drawn2 H d) : Drawn2 H' d := by
  obtain ⟨t0, t1, e, h0, h1⟩ := h
  exact ⟨t0, t1, s _ _ e, twoL_same s h0, twoL_same s h1⟩
theorem sL_app (a b : List Str) : sL (a ++ b) = sL a ++ sL b := List.map_append
/-- the bends while they are drawn -/
def BInv (a Bd : Addr) (H1 : Hp) (i : Nat) (H' : Hp) : Prop := ∃ (pool : List Int) (cs : List Addr), Pool pool ∧ SB a H1 H' ∧ H' a = some (.lst (iL pool)) ∧ H' Bd = some (.lst (cs.map V.ref)) ∧ cs.length = i ∧
  ∀ y ∈ cs, y ≠ a ∧ y ≠ Bd ∧ ∃ kd at_ st, H' y = some (.lst (iL [kd, at_, st])) ∧ -2 ≤ st ∧ st ≤ 2
/-- a list of small numbers while it is drawn -/
def OInv (a D : Addr) (H1 : Hp) (i : Nat) (H' : Hp) : Prop := ∃ (pool os : List Int), Pool pool ∧ SB a H1 H' ∧ H' a = some (.lst (iL pool)) ∧ H' D = some (.lst (iL os)) ∧ os.length = i ∧ ∀ x ∈ os, -1 ≤ x ∧ x ≤ 3
/-- all is drawn -/
def Mid1 : L2.St → Hp → Prop := fun σ H => ∃ (s0 a R Bd O I S d : Addr) (t4 t5 t6 : Option V) (row : List Int), σ = [some (.ref s0), some (.ref a), some (.ref R), some (.ref Bd), t4, t5, t6, some (.ref O), some (.ref I), some (.ref S), some (.ref d), none, none, none, none] ∧
  H R = some (.lst (iL row)) ∧ row ≠ [] ∧ row.length ≤ 14 ∧ Bends H Bd ∧ Drawn2 H d
def lks : List Lk := [.li, .ru, .st, .ba, .pi, .ru, .st, .ba, .pi]
/-- the nine links while they are laid -/
def KInv (A : Ad) (N Kp Ls : Addr) (Hs : Hp) (i : Nat) (H' : Hp) : Prop := ∃ ls : List Addr, Same Hs H' ∧ H' N = some (.lst (sL ((lks.take (5 + i)).map nm))) ∧ H' Kp = some (.lst (sL ((lks.take (5 + i)).map kps))) ∧
  H' Ls = some (.lst (ls.map V.ref)) ∧ ls.length = 5 + i ∧ ∀ (j : Nat) (y : Addr) (k : Lk), ls[j]? = some y → lks[j]? = some k → ∃ dx, H' y = some (.ins (A.C k) dx [])
section
variable {P : Program} {w : World} {K : PySem.W.Frag} {mg : Str → Option Value} {base : Heap} {A : Ad}
theorem scLaw : FnScope ["_law_script", "_law_pool", "_law_row_here", "_law_bends", "_law_k", "_law_kind", "_law_step", "_law_own_here", "_law_inner", "_law_sizes", "_law_drawn", "_law_names", "_law_keeps", "_law_links", "_law_name"] ["_law_script"] (defScope sLaw) := ⟨rfl, rfl, rfl, by decide +kernel, rfl, by decide +kernel, by decide +kernel⟩
theorem ok_law {f : Addr} {fd : FuncData} (F : Fun K "law" "law" sLaw f fd) (B : Bl mg) (T : ClsK K mg A) (G1 : Fc P w K mg base 4 "_law_digits" (spDigits K)) (G2 : Fc P w K mg base 4 "_law_row" spRow) (GD : Fc P w K mg base 4 "_law_draw" spDraw)
    (GN : Fx P w K mg base 4 "link_named" (spNamed A)) (GL : Fc P w K mg base 4 "_law_link" (spLink K A)) (GR : Fc P w K mg base 4 "_law_refused" spRefused) (GC : Fc P w K mg base 4 "_law_classes" spClasses) :
    FnOk P w K mg base CX0 5 f fd ["_law_script"] (spLaw K) := by
  refine F.ok scLaw (fun vs H Q E h => ?_) (fun cdv Ar outer s H vs Q E hr h => ?_)
  · obtain ⟨a, ns, rfl, _⟩ := h
    rfl
  · obtain ⟨s0, ns, rfl, hS, hz, q⟩ := h
    have nd := scLaw.nd
    refine ⟨_, pss_cons (ps_set (i := 1) nd rfl (Or.inr rfl) (pc G1 hr (pa_cons (pv 0) pa_nil)))
      (pss_cons (ps_set (i := 2) nd rfl (Or.inl rfl) (pc G2 hr (pa_cons (pv 1) pa_nil)))
      (pss_cons (ps_set (i := 3) nd rfl (Or.inl rfl) (pe_lst pa_nil))
      (pss_cons (ps_for PassesOwn.never rfl (pi_range1 (by rfl) B.range (pa_cons pe_int pa_nil)) (pg_name (i := 4) nd rfl (Or.inl rfl))
        (pss_cons (ps_set (i := 5) nd rfl (Or.inl rfl) (pe_op op_mod (pe_callTy call_int1 (by rfl) B.int (by decide +kernel) (pa_cons (pe_op op_add (pc GD hr (pa_cons (pv 1) (pa_cons pe_int pa_nil))) (pe_op op_mul pe_int (pv 4))) pa_nil)) pe_int))
        (pss_cons (ps_set (i := 6) nd rfl (Or.inl rfl) (pe_ix ix_list (pe_lst (pa_cons pe_int (pa_cons (pe_un un_neg pe_int) (pa_cons pe_int (pa_cons (pe_un un_neg pe_int) (pa_cons pe_int pa_nil)))))) (pc GD hr (pa_cons (pv 1) (pa_cons pe_int pa_nil))) (fun _ _ => rfl)))
        (pss_one (ps_expr (pe_bm PySem.F.plainAttrs_list PySem.F.slot_list_append PySem.F.type_list_append mt_append (pv 3) (pa_cons (pe_lst (pa_cons (pv 5) (pa_cons (pc GD hr (pa_cons (pv 1) (pa_cons pe_int pa_nil))) (pa_cons (pv 6) pa_nil)))) pa_nil)))))))
      (pss_cons (ps_setLc (i := 7) (own := [("_law_k", 4)]) (g := gName 4) rfl nd rfl rfl (sw_true rfl rfl rfl (by decide +kernel)) (pi_range1 (by rfl) B.range (pa_cons (pc GD hr (pa_cons (pv 1) (pa_cons pe_int pa_nil))) pa_nil))
          (blkOk_by (N := ["_law_script", "_law_pool", "_law_row_here", "_law_bends", "_law_k", "_law_kind", "_law_step", "_law_own_here", "_law_inner", "_law_sizes", "_law_drawn", "_law_names", "_law_keeps", "_law_links", "_law_name"]) (sc := defScope sLaw) (by decide +kernel))
          (fun _ _ _ _ _ => pg_name (i := 4) nd rfl (Or.inl rfl)) (fun _ _ _ _ _ => pts_nil) (fun _ _ _ _ _ => by exact pe_op op_sub (pc GD hr (pa_cons (pv 1) (pa_cons pe_int pa_nil))) pe_int))
      (pss_cons (ps_setLc (i := 8) (own := [("_law_k", 4)]) (g := gName 4) rfl nd rfl rfl (sw_true rfl rfl rfl (by decide +kernel)) (pi_range1 (by rfl) B.range (pa_cons (pc GD hr (pa_cons (pv 1) (pa_cons pe_int pa_nil))) pa_nil))
          (blkOk_by (N := ["_law_script", "_law_pool", "_law_row_here", "_law_bends", "_law_k", "_law_kind", "_law_step", "_law_own_here", "_law_inner", "_law_sizes", "_law_drawn", "_law_names", "_law_keeps", "_law_links", "_law_name"]) (sc := defScope sLaw) (by decide +kernel))
          (fun _ _ _ _ _ => pg_name (i := 4) nd rfl (Or.inl rfl)) (fun _ _ _ _ _ => pts_nil) (fun _ _ _ _ _ => by exact pe_op op_sub (pc GD hr (pa_cons (pv 1) (pa_cons pe_int pa_nil))) pe_int))
      (pss_cons (ps_set (i := 9) nd rfl (Or.inl rfl) (pe_lst (pa_cons pe_int (pa_cons (pe_ix ix_list (pe_lst (pa_cons pe_int (pa_cons pe_int (pa_cons pe_int (pa_cons pe_int pa_nil))))) (pc GD hr (pa_cons (pv 1) (pa_cons pe_int pa_nil))) (fun _ _ => rfl))
          (pa_cons (pc GD hr (pa_cons (pv 1) (pa_cons pe_int pa_nil))) pa_nil)))))
      (C8.pss_cut (ps_set (i := 10) nd rfl (Or.inl rfl) (pe_lst (pa_cons (pe_tup (pa_cons (pv 7) (pa_cons (pv 8) pa_nil))) (pa_cons (pe_tup (pa_cons (pv 9) (pa_cons (pe_lst (pa_cons pe_int (pa_cons pe_int pa_nil))) pa_nil))) pa_nil))))
      (pss_cons (ps_set (i := 11) nd rfl (Or.inl rfl) (pe_lst (pa_cons pe_str (pa_cons pe_str (pa_cons pe_str (pa_cons pe_str (pa_cons pe_str pa_nil)))))))
      (pss_cons (ps_set (i := 12) nd rfl (Or.inl rfl) (pe_lst (pa_cons pe_str (pa_cons pe_str (pa_cons pe_str (pa_cons pe_str (pa_cons pe_str pa_nil)))))))
      (pss_cons (ps_set (i := 13) nd rfl (Or.inl rfl) (pe_lst (pa_cons (pe_new (T.mk0 .li) (T.g .li)) (pa_cons (pe_new (T.mk0 .ru) (T.g .ru)) (pa_cons (pe_new (T.mk0 .st) (T.g .st)) (pa_cons (pe_new (T.mk0 .ba) (T.g .ba)) (pa_cons (pe_new (T.mk0 .pi) (T.g .pi)) pa_nil)))))))
      (pss_cons (ps_for PassesOwn.never rfl (pi_range2 (by rfl) B.range (pa_cons pe_int (pa_cons pe_int pa_nil))) (pg_name (i := 4) nd rfl (Or.inl rfl))
        (pss_cons (ps_expr (pe_bm PySem.F.plainAttrs_list PySem.F.slot_list_append PySem.F.type_list_append mt_append (pv 13) (pa_cons (pcx GN hr takes0 (pa_cons (pe_ix ix_list (pv 11) (pv 4) (fun _ _ => rfl)) pa_nil)) pa_nil)))
        (pss_cons (ps_expr (pe_bm PySem.F.plainAttrs_list PySem.F.slot_list_append PySem.F.type_list_append mt_append (pv 11) (pa_cons (pe_ix ix_list (pv 11) (pv 4) (fun _ _ => rfl)) pa_nil)))
        (pss_one (ps_expr (pe_bm PySem.F.plainAttrs_list PySem.F.slot_list_append PySem.F.type_list_append mt_append (pv 12) (pa_cons (pe_ix ix_list (pv 12) (pv 4) (fun _ _ => rfl)) pa_nil)))))))
      (pss_cons (ps_for PassesOwn.never rfl (pi_range1 (by rfl) B.range (pa_cons pe_int pa_nil)) (pg_name (i := 4) nd rfl (Or.inl rfl))
        (pss_cons (ps_if (PW.pt (pw_or (pt_cmpR op_ne (pe_con (pe_ix ix_list (pv 13) (pv 4) (fun _ _ => rfl)) (by rfl)) (pe_ix ix_list (pv 11) (pv 4) (fun _ _ => rfl)) (nomark _))
            (pw_or1 (pt_cmpR op_ne (pe_con (pe_ix ix_list (pv 13) (pv 4) (fun _ _ => rfl)) (by rfl)) (pe_ix ix_list (pv 12) (pv 4) (fun _ _ => rfl)) (nomark _))))) (pss_one (ps_ret pe_bl)) pss_nil)
        (pss_one (ps_if (pt_not (pt_val (pc GL hr (pa_cons (pe_ix ix_list (pv 13) (pv 4) (fun _ _ => rfl)) (pa_cons (pe_ix ix_list (pv 11) (pv 4) (fun _ _ => rfl)) (pa_cons (pv 2) (pa_cons (pv 3) (pa_cons (pv 10) pa_nil)))))))) (pss_one (ps_ret pe_bl)) pss_nil))))
      (pss_cons (ps_for PassesOwn.never rfl (pi_list (pe_lst (pa_cons pe_str (pa_cons pe_str (pa_cons pe_str (pa_cons pe_str (pa_cons pe_str (pa_cons pe_str (pa_cons pe_str pa_nil))))))))) (pg_name (i := 14) nd rfl (Or.inl rfl))
        (pss_one (ps_if (pt_not (pt_val (pc GR hr (pa_cons (pv 14) pa_nil)))) (pss_one (ps_ret pe_bl)) pss_nil)))
      (pss_one (ps_ret (pc0 GC hr)))))))))))))))), ?_⟩
    refine ⟨_, rfl, s0, ns, rfl, hS, hz, fun pool0 hp0 H1 a s1 na ea => ?_⟩
    refine ⟨_, rfl, a, pool0, rfl, ea, hp0, fun row pool1 R H2 hr1 hr2 hp1 s2 ea2 nRa nR eR => ?_⟩
    have hne : row ≠ [] := by intro e; rw [e] at hr1; simp at hr1
    clear s1 s2 ea hp0 pool0 nR
    refine ⟨Nat.zero_le _, fun Bd hBd => ?_⟩
    have nBa : Bd ≠ a := (ne_of_none ea2 hBd).symm
    refine ⟨2, rfl, by decide, by decide, for_range (lo := 0) (n := 2) (fun i σ H' => ∃ t4 t5 t6 : Option V, σ = [some (.ref s0), some (.ref a), some (.ref R), some (.ref Bd), t4, t5, t6, none, none, none, none, none, none, none, none] ∧ BInv a Bd H2 i H')
      ⟨none, none, none, rfl, pool1, [], hp1, SB.new (SB.refl _ _) hBd, new_ne ea2 hBd, upd_same, rfl, fun y hy => by cases hy⟩ ?_ ?_⟩
    · rintro i σ H3 hi ⟨t4, t5, t6, rfl, pool3, cs, hp3, s3, e3, eB3, hl, hcs⟩
      refine ⟨_, rfl, a, pool3, 3, rfl, e3, hp3, by decide, by decide, fun v4 pool4 H4 hv4 hp4 s4 e4 => ?_⟩
      refine ⟨_, rfl, _, _, rfl, rfl, .inr ⟨by omega, by omega⟩, _, _, rfl, rfl, .inl ⟨_, rfl, _, _, rfl, rfl, by show (0 : Int) < 3; decide, ?_⟩⟩
      refine ⟨_, rfl, _, rfl, by show 5 ≤ sizeLine; decide, fun L hL => ⟨_, rfl, a, pool4, 5, rfl, new_ne e4 hL, hp4, by decide, by decide, fun v5 pool5 H5 hv5 hp5 s5 e5 => ?_⟩⟩
      obtain ⟨st, hst⟩ := get_of_lt (l := [1, -1, 2, -2, 0]) (i := v5.toNat) (by simp only [List.length_cons, List.length_nil]; omega)
      have bst : -2 ≤ st ∧ st ≤ 2 := by
        have m := List.mem_of_getElem? hst
        simp only [List.mem_cons, List.not_mem_nil, or_false] at m
        omega
      have nLa : L ≠ a := (ne_of_none e4 hL).symm
      refine ⟨L, _, v5, .int st, rfl, rfl, SqL.of (s5 _ _ nLa upd_same), at_of (j := v5.toNat) (by omega) (iL_get hst), ?_⟩
      have s35 : SB a H3 H5 := SB.trans (SB.new s4 hL) s5
      refine ⟨_, rfl, .inl ⟨rfl, _, SqL.of (s35 _ _ nBa eB3)⟩, _, rfl, _, rfl, a, pool5, 16, rfl, e5, hp5, by decide, by decide, fun v6 pool6 H6 hv6 hp6 s6 e6 => ⟨_, rfl, by show 3 ≤ sizeLine; decide, fun y hy => ?_⟩⟩
      have s36 : SB a H3 H6 := SB.trans s35 s6
      have eB6 := s36 _ _ nBa eB3
      have nyB : y ≠ Bd := (ne_of_none eB6 hy).symm
      have nya : y ≠ a := (ne_of_none e6 hy).symm
      refine ⟨Bd, _, _, rfl, rfl, new_ne eB6 hy, small_line (by rw [List.length_map]; omega), _, _, _, rfl, pool6, cs ++ [y], hp6, SB.fresh (SB.new (SB.trans s3 s36) hy) hBd, ?_, ?_, by simp [hl], fun z hz => ?_⟩
      · rw [upd_ne nBa.symm]; exact new_ne e6 hy
      · rw [upd_same, List.map_append]; rfl
      · rcases List.mem_append.mp hz with h | h
        · obtain ⟨nz, nzB, kd, at_, st', ez, bz⟩ := hcs z h
          exact ⟨nz, nzB, kd, at_, st', by rw [upd_ne nzB]; exact new_ne (s36 _ _ nz ez) hy, bz⟩
        · have : z = y := by simpa using h
          subst this
          exact ⟨nya, nyB, (v4 + 2 * (0 + (i : Nat))) % 3, v6, st, (upd_ne nyB).trans upd_same, bst⟩
    rintro σ H3 ⟨t4, t5, t6, rfl, pool3, cs, hp3, s3, e3, eB3, hl, hcs⟩
    have eR3 := s3 _ _ nRa eR
    obtain ⟨b0, b1, rfl⟩ : ∃ b0 b1, cs = [b0, b1] := by
      match cs, hl with
      | [x, y], _ => exact ⟨x, y, rfl⟩
    obtain ⟨nb0, _, kd0, at0, st0, eb0, bd0⟩ := hcs b0 (by simp)
    obtain ⟨nb1, _, kd1, at1, st1, eb1, bd1⟩ := hcs b1 (by simp)
    clear s3 hcs hl eR hBd ea2 hp1
    -- the own numbers
    refine ⟨_, rfl, a, pool3, 5, rfl, e3, hp3, by decide, by decide, fun v4 pool4 H4 hv4 hp4 s4 e4 => ⟨v4, rfl, by omega, by omega, fun O hO => lc_range (fun i H' => OInv a O H4 i H') ⟨pool4, [], hp4, SB.new (SB.refl _ _) hO, new_ne e4 hO, upd_same, rfl, fun x hx => by cases hx⟩ (fun i H5 hi inv => ?_) fun H5 inv => ?_⟩⟩
    · obtain ⟨pool5, os, hp5, s5, e5, eO, hl, hos⟩ := inv
      have nOa : O ≠ a := (ne_of_none e4 hO).symm
      refine ⟨rfl, _, rfl, a, pool5, 5, rfl, e5, hp5, by decide, by decide, fun v6 pool6 H6 hv6 hp6 s6 e6 => ⟨v6, 1, rfl, rfl, _, s6 _ _ nOa eO, small_line (by rw [iL_len]; omega), pool6, os ++ [v6 - 1], hp6, SB.fresh (SB.trans s5 s6) hO, ?_, ?_, by simp [hl], fun x hx => ?_⟩⟩
      · rw [upd_ne nOa.symm]; exact e6
      · rw [upd_same, iL_app]; rfl
      · rcases List.mem_append.mp hx with h | h
        · exact hos x h
        · have : x = v6 - 1 := by simpa using h
          omega
    obtain ⟨pool5, os, hp5, s5, e5, eO, hlo, hos⟩ := inv
    have nOa : O ≠ a := (ne_of_none e4 hO).symm
    have s35 := SB.trans s4 s5
    -- the inner ones
    refine ⟨_, rfl, a, pool5, 4, rfl, e5, hp5, by decide, by decide, fun v6 pool6 H6 hv6 hp6 s6 e6 => ⟨v6, rfl, by omega, by omega, fun I hI => lc_range (fun i H' => OInv a I H6 i H') ⟨pool6, [], hp6, SB.new (SB.refl _ _) hI, new_ne e6 hI, upd_same, rfl, fun x hx => by cases hx⟩ (fun i H7 hi inv => ?_) fun H7 inv => ?_⟩⟩
    · obtain ⟨pool7, ms, hp7, s7, e7, eI, hl, hms⟩ := inv
      have nIa : I ≠ a := (ne_of_none e6 hI).symm
      refine ⟨rfl, _, rfl, a, pool7, 5, rfl, e7, hp7, by decide, by decide, fun v8 pool8 H8 hv8 hp8 s8 e8 => ⟨v8, 1, rfl, rfl, _, s8 _ _ nIa eI, small_line (by rw [iL_len]; omega), pool8, ms ++ [v8 - 1], hp8, SB.fresh (SB.trans s7 s8) hI, ?_, ?_, by simp [hl], fun x hx => ?_⟩⟩
      · rw [upd_ne nIa.symm]; exact e8
      · rw [upd_same, iL_app]; rfl
      · rcases List.mem_append.mp hx with h | h
        · exact hms x h
        · have : x = v8 - 1 := by simpa using h
          omega
    obtain ⟨pool7, ms, hp7, s7, e7, eI, hli, hms⟩ := inv
    have nIa : I ≠ a := (ne_of_none e6 hI).symm
    have s57 := SB.trans s6 s7
    -- the sizes
    refine ⟨by show 4 ≤ sizeLine; decide, fun L hL => ⟨_, rfl, a, pool7, 4, rfl, new_ne e7 hL, hp7, by decide, by decide, fun v8 pool8 H8 hv8 hp8 s8 e8 => ?_⟩⟩
    have nLa : L ≠ a := (ne_of_none e7 hL).symm
    obtain ⟨sz, hsz⟩ := get_of_lt (l := [1, 998, 999, 1000]) (i := v8.toNat) (by simp only [List.length_cons, List.length_nil]; omega)
    have bsz : 0 ≤ sz ∧ sz ≤ 1000 := by
      have m := List.mem_of_getElem? hsz
      simp only [List.mem_cons, List.not_mem_nil, or_false] at m
      omega
    refine ⟨L, _, v8, .int sz, rfl, rfl, SqL.of (s8 _ _ nLa upd_same), at_of (j := v8.toNat) (by omega) (iL_get hsz), ?_⟩
    have s78 : SB a H7 H8 := SB.trans (SB.new (SB.refl _ _) hL) s8
    refine ⟨_, rfl, a, pool8, 1001, rfl, e8, hp8, by decide, by decide, fun v9 pool9 H9 hv9 hp9 s9 e9 => ⟨by show 3 ≤ sizeLine; decide, fun S hS' => ?_⟩⟩
    have s59 := SB.trans s57 (SB.trans s78 s9)
    have s39 := SB.trans s35 s59
    have s79 := SB.trans s78 s9
    have eR9 := new_ne (o := .lst [V.int 2, V.int sz, V.int v9]) (s39 _ _ nRa eR3) hS'
    have eB9 := new_ne (o := .lst [V.int 2, V.int sz, V.int v9]) (s39 _ _ nBa eB3) hS'
    have eb09 := new_ne (o := .lst [V.int 2, V.int sz, V.int v9]) (s39 _ _ nb0 eb0) hS'
    have eb19 := new_ne (o := .lst [V.int 2, V.int sz, V.int v9]) (s39 _ _ nb1 eb1) hS'
    have eO9 := new_ne (o := .lst [V.int 2, V.int sz, V.int v9]) (s59 _ _ nOa eO) hS'
    have eI9 := new_ne (o := .lst [V.int 2, V.int sz, V.int v9]) (s79 _ _ nIa eI) hS'
    have eS9 : upd H9 S (.lst [V.int 2, V.int sz, V.int v9]) S = some (.lst (iL [2, sz, v9])) := upd_same
    generalize upd H9 S (.lst [V.int 2, V.int sz, V.int v9]) = Ha at eR9 eB9 eb09 eb19 eO9 eI9 eS9
    clear s39 s59 s79 s78 s57 s35 eR3 eB3 eb0 eb1 eO eI
    -- the drawn pairs
    refine ⟨Mid1, ?_, ?_⟩
    · refine ⟨_, rfl, _, rfl, by show 2 ≤ sizeLine; decide, fun t0 ht0 => ⟨_, rfl, by show 2 ≤ sizeLine; decide, fun M hM => ⟨by show 2 ≤ sizeLine; decide, fun t1 ht1 => ⟨by show 2 ≤ sizeLine; decide, fun d hd => ?_⟩⟩⟩⟩
      have s : Same Ha (upd (upd (upd (upd Ha t0 (.tup [.ref O, .ref I])) M (.lst [.int 3, .int 4])) t1 (.tup [.ref S, .ref M])) d (.lst [.ref t0, .ref t1])) := Same.new (Same.new (Same.new (same_new ht0) hM) ht1) hd
      refine ⟨s0, a, R, Bd, O, I, S, d, _, _, _, row, rfl, s _ _ eR9, hne, hr2, ⟨b0, b1, kd0, at0, st0, kd1, at1, st1, s _ _ eB9, s _ _ eb09, s _ _ eb19, bd0.1, bd0.2, bd1.1, bd1.2⟩, t0, t1, upd_same, ⟨O, I, os, ms, new_ne (new_ne (new_ne upd_same hM) ht1) hd, s _ _ eO9, s _ _ eI9, by omega, by omega, fun x hx => by have := hos x hx; omega⟩,
        ⟨S, M, [2, sz, v9], [3, 4], new_ne upd_same hd, s _ _ eS9, new_ne (new_ne upd_same ht1) hd, by show 3 ≤ 10; decide, by decide, fun x hx => ?_⟩⟩
      simp only [List.mem_cons, List.not_mem_nil, or_false] at hx
      omega
    -- the nine links
    rintro σ H0 ⟨s0, a, R, Bd, O, I, S, d, t4, t5, t6, row, rfl, eR, hne, hz, hb, hd⟩
    refine ⟨by show 5 ≤ sizeLine; decide, fun N hN => ⟨by show 5 ≤ sizeLine; decide, fun Kp hKp => ?_⟩⟩
    have nKN : Kp ≠ N := (none_ne hKp).2
    have nN0 := hN
    have nK0 := (none_ne hKp).1
    have sA := Same.new (o := .lst [.str "value", .str "value", .str "none", .str "distance", .str "order"]) (same_new (o := .lst [.str "", .str "runs", .str "steps", .str "base", .str "pick"]) hN) hKp
    have eN1 := new_ne (o := .lst [.str "value", .str "value", .str "none", .str "distance", .str "order"]) (show upd H0 N (.lst [.str "", .str "runs", .str "steps", .str "base", .str "pick"]) N = some (.lst (sL ((lks.take 5).map nm))) from upd_same) hKp
    have eK1 : upd (upd H0 N (.lst [.str "", .str "runs", .str "steps", .str "base", .str "pick"])) Kp (.lst [.str "value", .str "value", .str "none", .str "distance", .str "order"]) Kp = some (.lst (sL ((lks.take 5).map kps))) := upd_same
    generalize upd (upd H0 N (.lst [.str "", .str "runs", .str "steps", .str "base", .str "pick"])) Kp (.lst [.str "value", .str "value", .str "none", .str "distance", .str "order"]) = H1 at sA eN1 eK1
    clear hKp hN
    intro x0 d0 hx0 hd0 hn0
    have sB := same_ins (C := A.C .li) (Same.refl H1) hx0 hd0 hn0
    have c0 : upd (upd H1 d0 (.own x0)) x0 (.ins (A.C .li) d0 []) x0 = some (.ins (A.C .li) d0 []) := upd_same
    generalize upd (upd H1 d0 (.own x0)) x0 (.ins (A.C .li) d0 []) = H2 at sB c0
    intro x1 d1 hx1 hd1 hn1
    have sC := same_ins (C := A.C .ru) (Same.refl H2) hx1 hd1 hn1
    have c1 : upd (upd H2 d1 (.own x1)) x1 (.ins (A.C .ru) d1 []) x1 = some (.ins (A.C .ru) d1 []) := upd_same
    generalize upd (upd H2 d1 (.own x1)) x1 (.ins (A.C .ru) d1 []) = H3 at sC c1
    intro x2 d2 hx2 hd2 hn2
    have sD := same_ins (C := A.C .st) (Same.refl H3) hx2 hd2 hn2
    have c2 : upd (upd H3 d2 (.own x2)) x2 (.ins (A.C .st) d2 []) x2 = some (.ins (A.C .st) d2 []) := upd_same
    generalize upd (upd H3 d2 (.own x2)) x2 (.ins (A.C .st) d2 []) = H4 at sD c2
    intro x3 d3 hx3 hd3 hn3
    have sE := same_ins (C := A.C .ba) (Same.refl H4) hx3 hd3 hn3
    have c3 : upd (upd H4 d3 (.own x3)) x3 (.ins (A.C .ba) d3 []) x3 = some (.ins (A.C .ba) d3 []) := upd_same
    generalize upd (upd H4 d3 (.own x3)) x3 (.ins (A.C .ba) d3 []) = H5 at sE c3
    intro x4 d4 hx4 hd4 hn4
    have sF := same_ins (C := A.C .pi) (Same.refl H5) hx4 hd4 hn4
    have c4 : upd (upd H5 d4 (.own x4)) x4 (.ins (A.C .pi) d4 []) x4 = some (.ins (A.C .pi) d4 []) := upd_same
    generalize upd (upd H5 d4 (.own x4)) x4 (.ins (A.C .pi) d4 []) = H6 at sF c4
    refine ⟨by show 5 ≤ sizeLine; decide, fun Ls hLs => ?_⟩
    have sBF := Same.trans sB (Same.trans sC (Same.trans sD (Same.trans sE sF)))
    have sL0 := Same.trans sA sBF
    have nLs := sL0.free hLs
    have eN6 := sBF _ _ eN1
    have eK6 := sBF _ _ eK1
    have nLN : N ≠ Ls := ne_of_none eN6 hLs
    have nLK : Kp ≠ Ls := ne_of_none eK6 hLs
    have eN7 := new_ne (o := .lst [.ref x0, .ref x1, .ref x2, .ref x3, .ref x4]) eN6 hLs
    have eK7 := new_ne (o := .lst [.ref x0, .ref x1, .ref x2, .ref x3, .ref x4]) eK6 hLs
    have g0 := new_ne (o := .lst [.ref x0, .ref x1, .ref x2, .ref x3, .ref x4]) (sF _ _ (sE _ _ (sD _ _ (sC _ _ c0)))) hLs
    have g1 := new_ne (o := .lst [.ref x0, .ref x1, .ref x2, .ref x3, .ref x4]) (sF _ _ (sE _ _ (sD _ _ c1))) hLs
    have g2 := new_ne (o := .lst [.ref x0, .ref x1, .ref x2, .ref x3, .ref x4]) (sF _ _ (sE _ _ c2)) hLs
    have g3 := new_ne (o := .lst [.ref x0, .ref x1, .ref x2, .ref x3, .ref x4]) (sF _ _ c3) hLs
    have g4 := new_ne (o := .lst [.ref x0, .ref x1, .ref x2, .ref x3, .ref x4]) c4 hLs
    have sL7 := Same.new (o := .lst [.ref x0, .ref x1, .ref x2, .ref x3, .ref x4]) sL0 hLs
    have eL7 : upd H6 Ls (.lst [.ref x0, .ref x1, .ref x2, .ref x3, .ref x4]) Ls = some (.lst ([x0, x1, x2, x3, x4].map V.ref)) := upd_same
    generalize upd H6 Ls (.lst [.ref x0, .ref x1, .ref x2, .ref x3, .ref x4]) = H7 at eN7 eK7 g0 g1 g2 g3 g4 sL7 eL7
    clear eN6 eK6 sL0 sBF hLs c0 c1 c2 c3 c4 sA sB sC sD sE sF eN1 eK1 hx0 hd0 hn0 hx1 hd1 hn1 hx2 hd2 hn2 hx3 hd3 hn3 hx4 hd4 hn4
    refine ⟨1, 5, rfl, ⟨by decide, by decide, by decide, by decide⟩, for_range (lo := 1) (n := 4) (fun i σ H' => ∃ t4 : Option V, σ = [some (.ref s0), some (.ref a), some (.ref R), some (.ref Bd), t4, t5, t6, some (.ref O), some (.ref I), some (.ref S), some (.ref d), some (.ref N), some (.ref Kp), some (.ref Ls), none] ∧ KInv A N Kp Ls H0 i H')
      ⟨_, rfl, [x0, x1, x2, x3, x4], sL7, eN7, eK7, eL7, rfl, fun j y k hj hk => ?_⟩ ?_ ?_⟩
    · match j, hj, hk with
      | 0, hj, hk => cases hj; cases hk; exact ⟨_, g0⟩
      | 1, hj, hk => cases hj; cases hk; exact ⟨_, g1⟩
      | 2, hj, hk => cases hj; cases hk; exact ⟨_, g2⟩
      | 3, hj, hk => cases hj; cases hk; exact ⟨_, g3⟩
      | 4, hj, hk => cases hj; cases hk; exact ⟨_, g4⟩
    · rintro i σ H8 hi ⟨t4, rfl, ls, s8, eN, eK, eL, hl, hls⟩
      obtain ⟨k, hk1, hk5, hk⟩ : ∃ k, lks[1 + i]? = some k ∧ lks[5 + i]? = some k ∧ k ≠ .li := by
        match i, hi with
        | 0, _ => exact ⟨.ru, rfl, rfl, by decide⟩
        | 1, _ => exact ⟨.st, rfl, rfl, by decide⟩
        | 2, _ => exact ⟨.ba, rfl, rfl, by decide⟩
        | 3, _ => exact ⟨.pi, rfl, rfl, by decide⟩
      have hkt : (lks.take (5 + i))[1 + i]? = some k := by rw [List.getElem?_take, if_pos (by omega)]; exact hk1
      have tk : lks.take (5 + (i + 1)) = lks.take (5 + i) ++ [k] := take_snoc hk5
      have tl : (lks.take (5 + i)).length ≤ 9 := by rw [List.length_take]; exact Nat.le_trans (Nat.min_le_right _ _) (by decide)
      have gN : (sL ((lks.take (5 + i)).map nm))[1 + i]? = some (.str (nm k)) := by rw [List.getElem?_map, List.getElem?_map, hkt]; rfl
      have gK : (sL ((lks.take (5 + i)).map kps))[1 + i]? = some (.str (kps k)) := by rw [List.getElem?_map, List.getElem?_map, hkt]; rfl
      refine ⟨_, rfl, .inl ⟨rfl, _, SqL.of eL⟩, _, rfl, _, rfl, N, _, _, .str (nm k), rfl, rfl, SqL.of eN, at_of (j := 1 + i) (by omega) gN, nm k, rfl, .inl ⟨k, hk, rfl, fun x dx hx hdx hnx => ?_⟩⟩
      have s9 := same_ins (C := A.C k) (Same.refl H8) hx hdx hnx
      have cx : upd (upd H8 dx (.own x)) x (.ins (A.C k) dx []) x = some (.ins (A.C k) dx []) := upd_same
      generalize upd (upd H8 dx (.own x)) x (.ins (A.C k) dx []) = H9 at s9 cx
      have eN9 := s9 _ _ eN
      have eK9 := s9 _ _ eK
      have eL9 := s9 _ _ eL
      have xN : x ≠ N := (ne_of_none eN hx).symm
      have xK : x ≠ Kp := (ne_of_none eK hx).symm
      have xL : x ≠ Ls := (ne_of_none eL hx).symm
      refine ⟨Ls, _, _, rfl, rfl, eL9, small_line (by rw [List.length_map]; omega), ?_⟩
      have eN10 : upd H9 Ls (.lst (ls.map V.ref ++ [.ref x])) N = some (.lst (sL ((lks.take (5 + i)).map nm))) := by rw [upd_ne nLN]; exact eN9
      have eK10 : upd H9 Ls (.lst (ls.map V.ref ++ [.ref x])) Kp = some (.lst (sL ((lks.take (5 + i)).map kps))) := by rw [upd_ne nLK]; exact eK9
      refine ⟨_, rfl, .inl ⟨rfl, _, SqL.of eN10⟩, _, rfl, _, rfl, N, _, _, .str (nm k), rfl, rfl, SqL.of eN10, at_of (j := 1 + i) (by omega) gN, N, _, _, rfl, rfl, eN10, small_line (by rw [List.length_map, List.length_map]; omega), ?_⟩
      have eK11 : upd (upd H9 Ls (.lst (ls.map V.ref ++ [.ref x]))) N (.lst (sL ((lks.take (5 + i)).map nm) ++ [.str (nm k)])) Kp = some (.lst (sL ((lks.take (5 + i)).map kps))) := by rw [upd_ne nKN]; exact eK10
      refine ⟨_, rfl, .inl ⟨rfl, _, SqL.of eK11⟩, _, rfl, _, rfl, Kp, _, _, .str (kps k), rfl, rfl, SqL.of eK11, at_of (j := 1 + i) (by omega) gK, Kp, _, _, rfl, rfl, eK11, small_line (by rw [List.length_map, List.length_map]; omega), ?_⟩
      refine ⟨_, rfl, ls ++ [x], fun b o e => ?_, ?_, ?_, ?_, by simp [hl]; omega, fun j y k' hj hk' => ?_⟩
      · rw [upd_ne (ne_of_none e nK0), upd_ne (ne_of_none e nN0), upd_ne (ne_of_none e nLs)]
        exact s9 _ _ (s8 _ _ e)
      · rw [upd_ne nKN.symm, upd_same, tk, List.map_append, sL_app]; rfl
      · rw [upd_same, tk, List.map_append, sL_app]; rfl
      · rw [upd_ne nLK.symm, upd_ne nLN.symm, upd_same, List.map_append]; rfl
      · by_cases hjl : j < ls.length
        · rw [List.getElem?_append_left hjl] at hj
          obtain ⟨dx', ey⟩ := hls j y k' hj hk'
          have ey9 := s9 _ _ ey
          have yL : y ≠ Ls := ne_of ey9 eL9 (by intro z; cases z)
          have yN : y ≠ N := ne_of ey9 eN9 (by intro z; cases z)
          have yK : y ≠ Kp := ne_of ey9 eK9 (by intro z; cases z)
          exact ⟨dx', by rw [upd_ne yK, upd_ne yN, upd_ne yL]; exact ey9⟩
        · have hj2 := lt_of_get hj
          rw [List.length_append, List.length_singleton] at hj2
          have ej : j = 5 + i := by omega
          subst ej
          rw [List.getElem?_append_right (by omega), hl, Nat.sub_self] at hj
          have e1 : x = y := Option.some.inj hj
          have e2 : k = k' := by rw [hk5] at hk'; exact Option.some.inj hk'
          subst e1
          subst e2
          exact ⟨dx, by rw [upd_ne xK, upd_ne xN, upd_ne xL]; exact cx⟩
    rintro σ H8 ⟨t4, rfl, ls, s8, eN, eK, eL, hl, hls⟩
    have tk9 : lks.take (5 + 4) = lks := by decide
    rw [tk9] at eN eK
    clear eN7 eK7 g0 g1 g2 g3 g4 sL7 eL7 nLN nLK nKN nLs nN0 nK0
    refine ⟨9, rfl, by decide, by decide, for_range (lo := 0) (n := 9) (fun i σ H' => ∃ t4 : Option V, σ = [some (.ref s0), some (.ref a), some (.ref R), some (.ref Bd), t4, t5, t6, some (.ref O), some (.ref I), some (.ref S), some (.ref d), some (.ref N), some (.ref Kp), some (.ref Ls), none] ∧ Same H8 H') ⟨_, rfl, Same.refl _⟩ ?_ ?_⟩
    · rintro i σ H9 hi ⟨t4, rfl, s9⟩
      obtain ⟨k, hk⟩ : ∃ k, lks[i]? = some k := ⟨_, List.getElem?_eq_getElem (show i < lks.length from hi)⟩
      obtain ⟨y, hy⟩ : ∃ y, ls[i]? = some y := ⟨_, List.getElem?_eq_getElem (by omega)⟩
      obtain ⟨dx, ey⟩ := hls i y k hy hk
      have ey9 := s9 _ _ ey
      have gL : (ls.map V.ref)[i]? = some (.ref y) := by rw [List.getElem?_map, hy]; rfl
      have gN : (sL (lks.map nm))[i]? = some (.str (nm k)) := by rw [List.getElem?_map, List.getElem?_map, hk]; rfl
      have gK : (sL (lks.map kps))[i]? = some (.str (kps k)) := by rw [List.getElem?_map, List.getElem?_map, hk]; rfl
      obtain ⟨u1, cn1⟩ := T.cnm k
      obtain ⟨u2, cn2⟩ := T.ckp k
      have zi : (0 : Int) + (i : Nat) = (i : Int) := Int.zero_add _
      refine ⟨_, rfl, _, rfl, Ls, _, _, .ref y, rfl, rfl, SqL.of (s9 _ _ eL), at_of zi gL, y, A.C k, dx, [], .str (nm k), u1, rfl, ey9, T.cl k, cn1, rfl, _, rfl, _, rfl, N, _, _, .str (nm k), rfl, rfl, SqL.of (s9 _ _ eN), at_of zi gN, rfl, _, rfl, if_f (by simp) ?_⟩
      refine ⟨_, rfl, _, rfl, Ls, _, _, .ref y, rfl, rfl, SqL.of (s9 _ _ eL), at_of zi gL, y, A.C k, dx, [], .str (kps k), u2, rfl, ey9, T.cl k, cn2, rfl, _, rfl, _, rfl, Kp, _, _, .str (kps k), rfl, rfl, SqL.of (s9 _ _ eK), at_of zi gK, rfl, _, rfl, if_f (by simp) ?_⟩
      have s09 := Same.trans s8 s9
      exact ⟨_, rfl, _, rfl, Ls, _, _, .ref y, rfl, rfl, SqL.of (s9 _ _ eL), at_of zi gL, _, rfl, _, rfl, N, _, _, .str (nm k), rfl, rfl, SqL.of (s9 _ _ eN), at_of zi gN, _, rfl, _, rfl, _, rfl, k, y, dx, R, Bd, d, row, rfl, ey9, SqL.of (s09 _ _ eR), hne, hz, bends_same s09 hb, drawn_same s09 hd,
        fun H10 s10 => ⟨_, rfl, if_f rfl ⟨_, rfl, Same.trans s9 s10⟩⟩⟩
    rintro σ H9 ⟨t4, rfl, s9⟩
    -- what is refused
    refine ⟨by show 7 ≤ sizeLine; decide, fun M hM => ⟨M, rfl, ⟨_, SqL.of upd_same⟩, for_list (K := K) (a := M) (xs := sL ["", "plain", "lanes", "Runs", "runs ", "run", "pick plain"]) (fun i σ H' => ∃ t14 : Option V, σ = [some (.ref s0), some (.ref a), some (.ref R), some (.ref Bd), t4, t5, t6, some (.ref O), some (.ref I), some (.ref S), some (.ref d), some (.ref N), some (.ref Kp), some (.ref Ls), t14] ∧ H' M = some (.lst (sL ["", "plain", "lanes", "Runs", "runs ", "run", "pick plain"])))
      ⟨_, rfl, upd_same⟩ (fun i σ H' _ ⟨_, _, e⟩ => SqL.of e) ?_ ?_⟩⟩
    · rintro i v σ H10 hv ⟨t14, rfl, eM⟩
      obtain ⟨z, hz', rfl⟩ := List.mem_map.mp (List.mem_of_getElem? hv)
      refine ⟨_, rfl, z, rfl, fun k hk => ?_, fun H11 s11 => ⟨_, rfl, if_f rfl ⟨_, rfl, s11 _ _ eM⟩⟩⟩
      simp only [List.mem_cons, List.not_mem_nil, or_false] at hz'
      rcases hz' with rfl | rfl | rfl | rfl | rfl | rfl | rfl <;> cases k <;> first | exact absurd rfl hk | (show ¬ _; decide +kernel)
    · rintro σ H10 ⟨t14, rfl, eM⟩
      exact ⟨rfl, fun H11 _ => q H11⟩
end
end K3
/-! The facts that the top leaves, in bundles; all the promises joined. -/
namespace K3
open PySem PySem.Spec PyProof.Rows L2
section
variable {K : PySem.W.Frag} {h : Heap} {mg : Str → Option Value}
/-- a def at f, no defaults -/
structure FunAt (K : PySem.W.Frag) (x qual : Str) (st : Stmt) (f : Addr) : Prop where
  ex : ∃ (oc : Value) (od an : Option Addr) (osl : Array (Option Value)) (kV doc pm cdv ct : Value), K.lookup f = some ⟨oc, od, .func (PySem.W.fnOf x qual (defArgs st) (defBody st) (defScope st) .none kV doc pm an cdv ct), osl⟩ ∧ PySem.W.codeIn K cdv qual = true
  kp : PySem.W.keepIn K (.ref f) = true
theorem funAt {x qual : Str} {st : Stmt} {f : Addr} {oc : Value} {od an : Option Addr} {osl : Array (Option Value)} {kV doc pm cdv ct : Value} (l : K.lookup f = some ⟨oc, od, .func (PySem.W.fnOf x qual (defArgs st) (defBody st) (defScope st) .none kV doc pm an cdv ct), osl⟩)
    (c : PySem.W.codeIn K cdv qual = true) (k : PySem.W.keepIn K (.ref f) = true) : FunAt K x qual st f := ⟨⟨oc, od, an, osl, kV, doc, pm, cdv, ct, l, c⟩, k⟩
theorem FunAt.fn {x qual : Str} {st : Stmt} {f : Addr} (F : FunAt K x qual st f) : ∃ fd, Fun K x qual st f fd := by
  obtain ⟨oc, od, an, osl, kV, doc, pm, cdv, ct, l, c⟩ := F.ex
  exact ⟨_, fun_mk (st := st) l c F.kp⟩
structure DefAt (K : PySem.W.Frag) (mg : Str → Option Value) (x : Str) (st : Stmt) : Prop where
  ex : ∃ f, mg x = some (.ref f) ∧ FunAt K x x st f
theorem defAt {x : Str} {st : Stmt} {f : Addr} (X : K.In h) (G : h.Ns mainGlobals mg) (a : PySem.W.nsIn K mainGlobals x = some (some (.ref f))) (F : FunAt K x x st f) : DefAt K mg x st := ⟨f, PySem.W.mg_of X G a, F⟩
structure MetAt (K : PySem.W.Frag) (C : Addr) (m qual : Str) (st : Stmt) : Prop where
  ex : ∃ f, Meth K C m f ∧ FunAt K m qual st f
theorem metAt {C f : Addr} {m qual : Str} {st : Stmt} (a : PySem.W.findIn K (.ref C) m = some (some (.ref f))) (i : PySem.W.isFn K (.ref f) = true) (F : FunAt K m qual st f) : MetAt K C m qual st := ⟨f, ⟨a, i, F.kp⟩, F⟩
/-- a class of links -/
structure CAt (K : PySem.W.Frag) (C : Addr) (z kp : Str) : Prop where
  cl : Cls K C
  mk0 : Mk0 K C
  rd : ClX.CRead K C (.type "type")
  nam : ∃ u, ClX.CVal K C (.type "type") "NAME" (.str z) u
  kpv : ∃ u, ClX.CVal K C (.type "type") "KEEPS" (.str kp) u
  cnm : ∃ u, Con K C "NAME" (.str z) u
  ckp : ∃ u, Con K C "KEEPS" (.str kp) u
  ha : PySem.W.findIn K (.ref C) "__class__" = some (some (.builtin "object.__class__"))
  hm : PySem.W.mroIn K C (.type "object") = some true
  hc : PySem.W.isClsIn K C = true
  ty : PySem.W.typeIn K (.ref C) = some (.type "type")
  sS : PySem.W.subIn K (.ref C) (.ref C) = some true
theorem cAt {C : Addr} {z kp : Str} {t1 t2 : Tok} (pg : PySem.W.plainGet K C Str.empty = true) (hd : PySem.W.hasDictIn K C = true) (po : PySem.W.plainOver K C = true) (sa : PySem.W.findIn K (.ref C) "__setattr__" = some (some (.builtin "object.__setattr__")))
    (mk : PySem.W.makesIn K C = true) (ini : PySem.W.findIn K (.ref C) "__init__" = some (some (.builtin "object.__init__"))) (kc : PySem.W.keepIn K (.ref C) = true)
    (rd : PySem.W.readsIn K C (.type "type") = true) (ga : PySem.W.specialIn K (.ref C) "__getattribute__" = some (some (.builtin "type.__getattribute__")))
    (n1 : PySem.W.findIn K (.ref C) "NAME" = some (some (.str z t1))) (n2 : PySem.W.specialIn K (.str z t1) "__get__" = some none) (n3 : PySem.W.findCls K (.ref C) (.type "type") "NAME" = some (.val (.str z t1)))
    (p1 : PySem.W.findIn K (.ref C) "KEEPS" = some (some (.str kp t2))) (p2 : PySem.W.specialIn K (.str kp t2) "__get__" = some none) (p3 : PySem.W.findCls K (.ref C) (.type "type") "KEEPS" = some (.val (.str kp t2)))
    (ha : PySem.W.findIn K (.ref C) "__class__" = some (some (.builtin "object.__class__"))) (hm : PySem.W.mroIn K C (.type "object") = some true) (hc : PySem.W.isClsIn K C = true) (ty : PySem.W.typeIn K (.ref C) = some (.type "type"))
    (sS : PySem.W.subIn K (.ref C) (.ref C) = some true) : CAt K C z kp :=
  ⟨⟨pg, hd, po, sa⟩, ⟨mk, ini, kc⟩, ⟨rd, ga⟩, ⟨_, n3, _, rfl⟩, ⟨_, p3, _, rfl⟩, ⟨_, n1, ⟨_, rfl⟩, n2, by decide +kernel⟩, ⟨_, p1, ⟨_, rfl⟩, p2, by decide +kernel⟩, ha, hm, hc, ty, sS⟩
/-- an error's class -/
structure EAt (K : PySem.W.Frag) (D : Addr) : Prop where
  d : ExcD K D
  x : XfC K D
  ty : PySem.W.typeIn K (.ref D) = some (.type "type")
  sS : PySem.W.subIn K (.ref D) (.ref D) = some true
theorem eAt {D : Addr} (hc : PySem.W.isClsIn K D = true) (hg : PySem.W.findIn K (.ref D) "__getattribute__" = some (some (.builtin "BaseException.__getattribute__"))) (hk : PySem.W.findIn K (.ref D) "__getattr__" = some none)
    (hs : PySem.W.subIn K (.ref D) (.type "BaseException") = some true) (ha : PySem.W.findIn K (.ref D) "__class__" = some (some (.builtin "object.__class__")))
    (hn : PySem.W.specialIn K (.builtin "object.__class__") "__get__" = some (some (.builtin "getset_descriptor.__get__"))) (ht : PySem.W.takesIn K (.builtin "object.__class__") = some true)
    (hm : PySem.W.mroIn K D (.type "object") = some true) (hd : PySem.W.hasDictIn K D = true) (ty : PySem.W.typeIn K (.ref D) = some (.type "type")) (sS : PySem.W.subIn K (.ref D) (.ref D) = some true) : EAt K D :=
  ⟨⟨hc, hg, hk, hs, ha, hn, ht, hm⟩, ⟨hg, hk, hs, hd⟩, ty, sS⟩
theorem errBAt {C : Addr} (X : K.In h) (G : h.Ns mainGlobals mg) (x : PySem.W.excIn K C [.type "ValueError", .type "Exception", .type "BaseException", .type "object"] "ValueError.__new__" = true)
    (g : PySem.W.nsIn K mainGlobals "BadCells" = some (some (.ref C))) (k : PySem.W.keepIn K (.ref C) = true) (b : PySem.W.subIn K (.ref C) (.type "BaseException") = some true) (t : PySem.W.typeIn K (.ref C) = some (.type "type")) : ErrB K mg C :=
  ⟨x, PySem.W.mg_of X G g, k, b, t⟩
theorem oexAt {C cE N : Addr} {nm' q : Str} {bs : List Value} {sn : List Str} {sub : List Value} {ab : Bool} {col : Option Bool} {dd : Option Addr} {m0 m1 m2 m3 m5 : Option Value}
    (xL : K.lookup C = some (excClassObj nm' q C N bs [.ref cE, .type "ValueError", .type "Exception", .type "BaseException", .type "object"] true sn sub ab col dd m0 m1 m2 m3 m5 "ValueError.__new__"))
    (sa : PySem.W.findIn K (.ref C) "__setattr__" = some (some (.builtin "object.__setattr__"))) (exC : PySem.W.subIn K (.ref C) (.type "BaseException") = some true) (tyC : PySem.W.typeIn K (.ref C) = some (.type "type")) (kC : PySem.W.keepIn K (.ref C) = true) : OexC K C :=
  ⟨⟨nm', q, N, bs, _, sn, sub, ab, col, dd, m0, m1, m2, m3, m5, xL, (show PySem.HandSPX.refsVE [.type "ValueError", .type "Exception", .type "BaseException", .type "object"] = true from by decide +kernel)⟩, sa, exC, tyC, kC⟩
theorem kit_self {t : Value} : PySem.W.kitOne K t t = some true := by
  unfold PySem.W.kitOne
  rw [if_pos (by simp)]
theorem kit_cls {t : Value} {C : Addr} {b : Bool} (hc : PySem.W.isClsIn K C = true) (ty : PySem.W.typeIn K (.ref C) = some (.type "type")) (s : PySem.W.subIn K t (.ref C) = some b) : PySem.W.kitCls K t (.ref C) = some b := by
  have e2 : ((PySem.W.clsIn K C).isSome && PySem.W.typeIn K (.ref C) == some (.type "type")) = true := by
    have h2' : (PySem.W.clsIn K C).isSome = true := hc
    rw [h2', ty] <;> rfl
  show (if ((PySem.W.clsIn K C).isSome && PySem.W.typeIn K (.ref C) == some (.type "type")) = true then PySem.W.subIn K t (.ref C) else none) = some b
  rw [if_pos e2]
  exact s
theorem kit_true {t : Value} {C : Addr} (hc : PySem.W.isClsIn K C = true) (ty : PySem.W.typeIn K (.ref C) = some (.type "type")) (s : PySem.W.subIn K t (.ref C) = some true) : PySem.W.kitOne K t (.ref C) = some true := by
  unfold PySem.W.kitOne
  split
  · rfl
  · exact kit_cls hc ty s
theorem kit_false {B C : Addr} (sB : PySem.W.subIn K (.ref B) (.ref B) = some true) (hc : PySem.W.isClsIn K C = true) (ty : PySem.W.typeIn K (.ref C) = some (.type "type")) (s : PySem.W.subIn K (.ref B) (.ref C) = some false) : PySem.W.kitOne K (.ref B) (.ref C) = some false := by
  unfold PySem.W.kitOne
  split
  case isTrue e =>
    have : Value.ref B = Value.ref C := by simpa using e
    rw [← this, sB] at s
    cases s
  case isFalse => exact kit_cls hc ty s
theorem exm_same {C : Addr} (hb : PySem.W.subIn K (.ref C) (.type "BaseException") = some true) (hc : PySem.W.isClsIn K C = true) (ty : PySem.W.typeIn K (.ref C) = some (.type "type")) (s : PySem.W.subIn K (.ref C) (.ref C) = some true) : PySem.W.exmOne K (.ref C) (.ref C) = some true := by
  unfold PySem.W.exmOne
  rw [if_pos (by rw [hb] <;> rfl)]
  exact kit_cls hc ty s
end
theorem Fc.mk {P : Program} {w : World} {K : PySem.W.Frag} {mg : Str → Option Value} {base : Heap} {j j' : Nat} {x : Str} {sp : Sp} {f : Addr} {fd : FuncData} {ps : List Str} (hm : mg x = some (.ref f)) (hk : PySem.W.keepIn K (.ref f) = true) (hb : Binds K fd ps [])
    (F : FnOk P w K mg base CX0 j' f fd ps sp) (hj : j' ≤ j) : Fc P w K mg base j x sp := ⟨f, fd, ps, hm, hk, hb, F.mono hj⟩
theorem Fx.mk {P : Program} {w : World} {K : PySem.W.Frag} {mg : Str → Option Value} {base : Heap} {j j' : Nat} {x : Str} {sp : Sp} {f : Addr} {fd : FuncData} {ps : List Str} (hm : mg x = some (.ref f)) (hk : PySem.W.keepIn K (.ref f) = true) (hb : Binds K fd ps [])
    (F : FnOk P w K mg base (L2.CX P w) j' f fd ps sp) (hj : j' ≤ j) : Fx P w K mg base j x sp := ⟨f, fd, ps, hm, hk, hb, F.mono hj⟩
theorem Mx.mk {P : Program} {w : World} {K : PySem.W.Frag} {mg : Str → Option Value} {base : Heap} {j j' : Nat} {C : Addr} {m : Str} {sp : Sp} {f : Addr} {fd : FuncData} {ps : List Str} (hm : Meth K C m f) (hb : Binds K fd ps [])
    (F : FnOk P w K mg base (L2.CX P w) j' f fd ps sp) (hj : j' ≤ j) : Mx P w K mg base j C m sp := ⟨f, fd, ps, hm, hb, F.mono hj⟩

theorem all_mk {P : Program} {w : World} {K : PySem.W.Frag} {h : Heap} {mg : Str → Option Value} {fa cE cU cB cT fT c_li c_ru c_st c_ba c_pi : Addr} {tM : Tok} (X : K.In h) (G : h.Ns mainGlobals mg) (hfa : mg "law" = some (.ref fa))
    (b_len : PySem.W.nsIn K mainGlobals "len" = some none)
    (b_list : PySem.W.nsIn K mainGlobals "list" = some none)
    (b_min : PySem.W.nsIn K mainGlobals "min" = some none)
    (b_sum : PySem.W.nsIn K mainGlobals "sum" = some none)
    (b_any : PySem.W.nsIn K mainGlobals "any" = some none)
    (b_all : PySem.W.nsIn K mainGlobals "all" = some none)
    (b_zip : PySem.W.nsIn K mainGlobals "zip" = some none)
    (b_enumerate : PySem.W.nsIn K mainGlobals "enumerate" = some none)
    (b_range : PySem.W.nsIn K mainGlobals "range" = some none)
    (b_sorted : PySem.W.nsIn K mainGlobals "sorted" = some none)
    (b_set : PySem.W.nsIn K mainGlobals "set" = some none)
    (b_isinstance : PySem.W.nsIn K mainGlobals "isinstance" = some none)
    (b_int : PySem.W.nsIn K mainGlobals "int" = some none)
    (b_bool : PySem.W.nsIn K mainGlobals "bool" = some none)
    (b_tuple : PySem.W.nsIn K mainGlobals "tuple" = some none)
    (b_abs : PySem.W.nsIn K mainGlobals "abs" = some none)
    (gM : PySem.W.nsIn K mainGlobals "MOST_NUMBERS" = some (some (.int 999 tM)))
    (gE : PySem.W.nsIn K mainGlobals "ColonnadeError" = some (some (.ref cE)))
    (gU : PySem.W.nsIn K mainGlobals "Unfit" = some (some (.ref cU)))
    (gB : PySem.W.nsIn K mainGlobals "BadCells" = some (some (.ref cB)))
    (gT : PySem.W.nsIn K mainGlobals "BadChain" = some (some (.ref cT)))
    (g_li : PySem.W.nsIn K mainGlobals "Link" = some (some (.ref c_li)))
    (g_ru : PySem.W.nsIn K mainGlobals "Runs" = some (some (.ref c_ru)))
    (g_st : PySem.W.nsIn K mainGlobals "Steps" = some (some (.ref c_st)))
    (g_ba : PySem.W.nsIn K mainGlobals "Base" = some (some (.ref c_ba)))
    (g_pi : PySem.W.nsIn K mainGlobals "Pick" = some (some (.ref c_pi)))
    (d_long : DefAt K mg "refuse_long" sLong)
    (d_partN : DefAt K mg "counted_part" sPartN)
    (d_cells : DefAt K mg "counted_cells" sCells)
    (d_named : DefAt K mg "link_named" sNamed)
    (d_digits : DefAt K mg "_law_digits" sDigits)
    (d_draw : DefAt K mg "_law_draw" sDraw)
    (d_number : DefAt K mg "_law_number" sNumber)
    (d_row : DefAt K mg "_law_row" sRow)
    (d_parted : DefAt K mg "_law_parted" sParted)
    (d_joined : DefAt K mg "_law_joined" sJoined)
    (d_own : DefAt K mg "_law_own" sOwn)
    (d_int : DefAt K mg "_law_int" sInt)
    (d_ints : DefAt K mg "_law_ints" sInts)
    (d_bent : DefAt K mg "_law_bent" sBent)
    (d_join : DefAt K mg "_law_join" sJoin)
    (d_count : DefAt K mg "_law_count" sCount)
    (d_parts : DefAt K mg "_law_parts" sParts)
    (d_link : DefAt K mg "_law_link" sLink)
    (d_refused : DefAt K mg "_law_refused" sRefused)
    (d_classes : DefAt K mg "_law_classes" sClasses)
    (d_law : DefAt K mg "law" sLaw)
    (m_liP : MetAt K c_li "parted" "Link.parted" (cP 0))
    (m_liO : MetAt K c_li "own_count" "Link.own_count" (cO 0))
    (m_liI : MetAt K c_li "inner_count" "Link.inner_count" (cI 0))
    (m_liJ : MetAt K c_li "joined" "Link.joined" (cJ 0))
    (m_ruP : MetAt K c_ru "parted" "Runs.parted" (cP 1))
    (m_ruO : MetAt K c_ru "own_count" "Runs.own_count" (cO 1))
    (m_ruI : MetAt K c_ru "inner_count" "Runs.inner_count" (cI 1))
    (m_ruJ : MetAt K c_ru "joined" "Runs.joined" (cJ 1))
    (m_stP : MetAt K c_st "parted" "Steps.parted" (cP 2))
    (m_stO : MetAt K c_st "own_count" "Steps.own_count" (cO 2))
    (m_stI : MetAt K c_st "inner_count" "Steps.inner_count" (cI 2))
    (m_stJ : MetAt K c_st "joined" "Steps.joined" (cJ 2))
    (m_baP : MetAt K c_ba "parted" "Base.parted" (cP 3))
    (m_baO : MetAt K c_ba "own_count" "Base.own_count" (cO 3))
    (m_baI : MetAt K c_ba "inner_count" "Base.inner_count" (cI 3))
    (m_baJ : MetAt K c_ba "joined" "Base.joined" (cJ 3))
    (m_piP : MetAt K c_pi "parted" "Pick.parted" (cP 4))
    (m_piO : MetAt K c_pi "own_count" "Pick.own_count" (cO 4))
    (m_piI : MetAt K c_pi "inner_count" "Pick.inner_count" (cI 4))
    (m_piJ : MetAt K c_pi "joined" "Pick.joined" (cJ 4))
    (c_at_li : CAt K c_li "" "value")
    (c_at_ru : CAt K c_ru "runs" "value")
    (c_at_st : CAt K c_st "steps" "none")
    (c_at_ba : CAt K c_ba "base" "distance")
    (c_at_pi : CAt K c_pi "pick" "order")
    (sub_ru : PySem.W.subIn K (.ref c_ru) (.ref c_li) = some true)
    (sub_st : PySem.W.subIn K (.ref c_st) (.ref c_li) = some true)
    (sub_ba : PySem.W.subIn K (.ref c_ba) (.ref c_li) = some true)
    (sub_pi : PySem.W.subIn K (.ref c_pi) (.ref c_li) = some true)
    (subRS : PySem.W.subIn K (.ref c_ru) (.ref c_st) = some false)
    (subPB : PySem.W.subIn K (.ref c_pi) (.ref c_ba) = some false)
    (hn : PySem.W.specialIn K (.builtin "object.__class__") "__get__" = some (some (.builtin "getset_descriptor.__get__")))
    (ht : PySem.W.takesIn K (.builtin "object.__class__") = some true)
    (errB : ErrB K mg cB)
    (eatB : EAt K cB)
    (eatT : EAt K cT)
    (clsE : PySem.W.isClsIn K cE = true)
    (typE : PySem.W.typeIn K (.ref cE) = some (.type "type"))
    (clsU : PySem.W.isClsIn K cU = true)
    (typU : PySem.W.typeIn K (.ref cU) = some (.type "type"))
    (sBE : PySem.W.subIn K (.ref cB) (.ref cE) = some true)
    (sBU : PySem.W.subIn K (.ref cB) (.ref cU) = some false)
    (sTE : PySem.W.subIn K (.ref cT) (.ref cE) = some true)
    (sTB : PySem.W.subIn K (.ref cT) (.ref cB) = some false)
    (oexT : OexC K cT)
    (nT : PySem.W.findIn K (.ref cT) "text" = some none)
    (i_T : PySem.W.findIn K (.ref cT) "__init__" = some (some (.ref fT)))
    (t_T : PySem.W.typeIn K (.ref fT) = some (.type "function"))
    (f_T : FunAt K "__init__" "BadChain.__init__" sChain fT)
    : ∃ fd : FuncData, (∀ (s : Shared) (u : Value), BindsTo s fd ⟨[u], []⟩ [("_law_script", u)]) ∧ ∀ base : Heap, K.In base → base.Ns mainGlobals mg → FnOk P w K mg base CX0 5 fa fd ["_law_script"] (spLaw K) := by
  have B : Bl mg := ⟨PySem.W.mg_none_of X G b_len, PySem.W.mg_none_of X G b_list, PySem.W.mg_none_of X G b_min, PySem.W.mg_none_of X G b_sum, PySem.W.mg_none_of X G b_any, PySem.W.mg_none_of X G b_all, PySem.W.mg_none_of X G b_zip, PySem.W.mg_none_of X G b_enumerate, PySem.W.mg_none_of X G b_range, PySem.W.mg_none_of X G b_sorted, PySem.W.mg_none_of X G b_set, PySem.W.mg_none_of X G b_isinstance, PySem.W.mg_none_of X G b_int, PySem.W.mg_none_of X G b_bool, PySem.W.mg_none_of X G b_tuple, PySem.W.mg_none_of X G b_abs⟩
  have T : ClsK K mg ⟨cE, cU, cB, cT, fT, fun k => match k with | .li => c_li | .ru => c_ru | .st => c_st | .ba => c_ba | .pi => c_pi⟩ := by
    exact ⟨(fun k => match k with | .li => c_at_li.cl | .ru => c_at_ru.cl | .st => c_at_st.cl | .ba => c_at_ba.cl | .pi => c_at_pi.cl),
      (fun k => match k with | .li => PySem.W.mg_of X G g_li | .ru => PySem.W.mg_of X G g_ru | .st => PySem.W.mg_of X G g_st | .ba => PySem.W.mg_of X G g_ba | .pi => PySem.W.mg_of X G g_pi),
      (fun k => match k with | .li => c_at_li.mk0 | .ru => c_at_ru.mk0 | .st => c_at_st.mk0 | .ba => c_at_ba.mk0 | .pi => c_at_pi.mk0),
      (fun k => match k with | .li => c_at_li.rd | .ru => c_at_ru.rd | .st => c_at_st.rd | .ba => c_at_ba.rd | .pi => c_at_pi.rd),
      (fun k => match k with | .li => c_at_li.nam | .ru => c_at_ru.nam | .st => c_at_st.nam | .ba => c_at_ba.nam | .pi => c_at_pi.nam),
      (fun k => match k with | .li => c_at_li.kpv | .ru => c_at_ru.kpv | .st => c_at_st.kpv | .ba => c_at_ba.kpv | .pi => c_at_pi.kpv),
      (fun k => match k with | .li => c_at_li.cnm | .ru => c_at_ru.cnm | .st => c_at_st.cnm | .ba => c_at_ba.cnm | .pi => c_at_pi.cnm),
      (fun k => match k with | .li => c_at_li.ckp | .ru => c_at_ru.ckp | .st => c_at_st.ckp | .ba => c_at_ba.ckp | .pi => c_at_pi.ckp),
      (fun k => match k with | .li => c_at_li.ha | .ru => c_at_ru.ha | .st => c_at_st.ha | .ba => c_at_ba.ha | .pi => c_at_pi.ha),
      hn,
      ht,
      (fun k => match k with | .li => c_at_li.hm | .ru => c_at_ru.hm | .st => c_at_st.hm | .ba => c_at_ba.hm | .pi => c_at_pi.hm),
      (fun k => kit_self),
      (fun k => match k with | .li => kit_self | .ru => kit_true c_at_li.hc c_at_li.ty sub_ru | .st => kit_true c_at_li.hc c_at_li.ty sub_st | .ba => kit_true c_at_li.hc c_at_li.ty sub_ba | .pi => kit_true c_at_li.hc c_at_li.ty sub_pi),
      (kit_false c_at_ru.sS c_at_st.hc c_at_st.ty subRS),
      (kit_false c_at_pi.sS c_at_ba.hc c_at_ba.ty subPB)⟩
  have TK : ErrK K mg ⟨cE, cU, cB, cT, fT, fun k => match k with | .li => c_li | .ru => c_ru | .st => c_st | .ba => c_ba | .pi => c_pi⟩ :=
    ⟨PySem.W.mg_of X G gE, PySem.W.mg_of X G gU, PySem.W.mg_of X G gB, PySem.W.mg_of X G gT, eatB.d, eatT.d, exm_same eatB.d.hs eatB.d.hc eatB.ty eatB.sS, exm_same eatT.d.hs eatT.d.hc eatT.ty eatT.sS,
      kit_true clsE typE sBE, kit_false eatB.sS clsU typU sBU, kit_true clsE typE sTE, kit_false eatT.sS eatB.d.hc eatB.ty sTB, eatT.x, nT⟩
  obtain ⟨a_long, h_long, q_long⟩ := d_long.ex
  obtain ⟨fd_long, F_long⟩ := q_long.fn
  have B_long := F_long.binds (ps := ["many"]) fun _ _ _ _ _ _ us hl => match us, hl with | [_], _ => rfl
  obtain ⟨a_partN, h_partN, q_partN⟩ := d_partN.ex
  obtain ⟨fd_partN, F_partN⟩ := q_partN.fn
  have B_partN := F_partN.binds (ps := ["cells"]) fun _ _ _ _ _ _ us hl => match us, hl with | [_], _ => rfl
  obtain ⟨a_cells, h_cells, q_cells⟩ := d_cells.ex
  obtain ⟨fd_cells, F_cells⟩ := q_cells.fn
  have B_cells := F_cells.binds (ps := ["own"]) fun _ _ _ _ _ _ us hl => match us, hl with | [_], _ => rfl
  obtain ⟨a_named, h_named, q_named⟩ := d_named.ex
  obtain ⟨fd_named, F_named⟩ := q_named.fn
  have B_named := F_named.binds (ps := ["name"]) fun _ _ _ _ _ _ us hl => match us, hl with | [_], _ => rfl
  obtain ⟨a_digits, h_digits, q_digits⟩ := d_digits.ex
  obtain ⟨fd_digits, F_digits⟩ := q_digits.fn
  have B_digits := F_digits.binds (ps := ["_law_script"]) fun _ _ _ _ _ _ us hl => match us, hl with | [_], _ => rfl
  obtain ⟨a_draw, h_draw, q_draw⟩ := d_draw.ex
  obtain ⟨fd_draw, F_draw⟩ := q_draw.fn
  have B_draw := F_draw.binds (ps := ["_law_pool", "_law_many"]) fun _ _ _ _ _ _ us hl => match us, hl with | [_, _], _ => rfl
  obtain ⟨a_number, h_number, q_number⟩ := d_number.ex
  obtain ⟨fd_number, F_number⟩ := q_number.fn
  have B_number := F_number.binds (ps := ["_law_pool", "_law_k"]) fun _ _ _ _ _ _ us hl => match us, hl with | [_, _], _ => rfl
  obtain ⟨a_row, h_row, q_row⟩ := d_row.ex
  obtain ⟨fd_row, F_row⟩ := q_row.fn
  have B_row := F_row.binds (ps := ["_law_pool"]) fun _ _ _ _ _ _ us hl => match us, hl with | [_], _ => rfl
  obtain ⟨a_parted, h_parted, q_parted⟩ := d_parted.ex
  obtain ⟨fd_parted, F_parted⟩ := q_parted.fn
  have B_parted := F_parted.binds (ps := ["_law_name", "_law_row_here"]) fun _ _ _ _ _ _ us hl => match us, hl with | [_, _], _ => rfl
  obtain ⟨a_joined, h_joined, q_joined⟩ := d_joined.ex
  obtain ⟨fd_joined, F_joined⟩ := q_joined.fn
  have B_joined := F_joined.binds (ps := ["_law_name", "_law_own_here", "_law_inner"]) fun _ _ _ _ _ _ us hl => match us, hl with | [_, _, _], _ => rfl
  obtain ⟨a_own, h_own, q_own⟩ := d_own.ex
  obtain ⟨fd_own, F_own⟩ := q_own.fn
  have B_own := F_own.binds (ps := ["_law_name", "_law_cells"]) fun _ _ _ _ _ _ us hl => match us, hl with | [_, _], _ => rfl
  obtain ⟨a_int, h_int, q_int⟩ := d_int.ex
  obtain ⟨fd_int, F_int⟩ := q_int.fn
  have B_int := F_int.binds (ps := ["_law_told", "_law_due"]) fun _ _ _ _ _ _ us hl => match us, hl with | [_, _], _ => rfl
  obtain ⟨a_ints, h_ints, q_ints⟩ := d_ints.ex
  obtain ⟨fd_ints, F_ints⟩ := q_ints.fn
  have B_ints := F_ints.binds (ps := ["_law_told", "_law_due"]) fun _ _ _ _ _ _ us hl => match us, hl with | [_, _], _ => rfl
  obtain ⟨a_bent, h_bent, q_bent⟩ := d_bent.ex
  obtain ⟨fd_bent, F_bent⟩ := q_bent.fn
  have B_bent := F_bent.binds (ps := ["_law_bend", "_law_row_here"]) fun _ _ _ _ _ _ us hl => match us, hl with | [_, _], _ => rfl
  obtain ⟨a_join, h_join, q_join⟩ := d_join.ex
  obtain ⟨fd_join, F_join⟩ := q_join.fn
  have B_join := F_join.binds (ps := ["_law_link_here", "_law_name", "_law_own_here", "_law_inner"]) fun _ _ _ _ _ _ us hl => match us, hl with | [_, _, _, _], _ => rfl
  obtain ⟨a_count, h_count, q_count⟩ := d_count.ex
  obtain ⟨fd_count, F_count⟩ := q_count.fn
  have B_count := F_count.binds (ps := ["_law_link_here", "_law_name", "_law_cells"]) fun _ _ _ _ _ _ us hl => match us, hl with | [_, _, _], _ => rfl
  obtain ⟨a_parts, h_parts, q_parts⟩ := d_parts.ex
  obtain ⟨fd_parts, F_parts⟩ := q_parts.fn
  have B_parts := F_parts.binds (ps := ["_law_link_here", "_law_name", "_law_row_here"]) fun _ _ _ _ _ _ us hl => match us, hl with | [_, _, _], _ => rfl
  obtain ⟨a_link, h_link, q_link⟩ := d_link.ex
  obtain ⟨fd_link, F_link⟩ := q_link.fn
  have B_link := F_link.binds (ps := ["_law_link_here", "_law_name", "_law_row_here", "_law_bends", "_law_drawn"]) fun _ _ _ _ _ _ us hl => match us, hl with | [_, _, _, _, _], _ => rfl
  obtain ⟨a_refused, h_refused, q_refused⟩ := d_refused.ex
  obtain ⟨fd_refused, F_refused⟩ := q_refused.fn
  have B_refused := F_refused.binds (ps := ["_law_name"]) fun _ _ _ _ _ _ us hl => match us, hl with | [_], _ => rfl
  obtain ⟨a_classes, h_classes, q_classes⟩ := d_classes.ex
  obtain ⟨fd_classes, F_classes⟩ := q_classes.fn
  have B_classes := F_classes.binds (ps := []) fun _ _ _ _ _ _ us hl => match us, hl with | [], _ => rfl
  obtain ⟨a_liP, h_liP, q_liP⟩ := m_liP.ex
  obtain ⟨fd_liP, F_liP⟩ := q_liP.fn
  have B_liP := F_liP.binds (ps := ["self", "numbers"]) fun _ _ _ _ _ _ us hl => match us, hl with | [_, _], _ => rfl
  obtain ⟨a_liO, h_liO, q_liO⟩ := m_liO.ex
  obtain ⟨fd_liO, F_liO⟩ := q_liO.fn
  have B_liO := F_liO.binds (ps := ["self", "cells"]) fun _ _ _ _ _ _ us hl => match us, hl with | [_, _], _ => rfl
  obtain ⟨a_liI, h_liI, q_liI⟩ := m_liI.ex
  obtain ⟨fd_liI, F_liI⟩ := q_liI.fn
  have B_liI := F_liI.binds (ps := ["self", "own", "count"]) fun _ _ _ _ _ _ us hl => match us, hl with | [_, _, _], _ => rfl
  obtain ⟨a_liJ, h_liJ, q_liJ⟩ := m_liJ.ex
  obtain ⟨fd_liJ, F_liJ⟩ := q_liJ.fn
  have B_liJ := F_liJ.binds (ps := ["self", "own", "inner"]) fun _ _ _ _ _ _ us hl => match us, hl with | [_, _, _], _ => rfl
  obtain ⟨a_ruP, h_ruP, q_ruP⟩ := m_ruP.ex
  obtain ⟨fd_ruP, F_ruP⟩ := q_ruP.fn
  have B_ruP := F_ruP.binds (ps := ["self", "numbers"]) fun _ _ _ _ _ _ us hl => match us, hl with | [_, _], _ => rfl
  obtain ⟨a_ruO, h_ruO, q_ruO⟩ := m_ruO.ex
  obtain ⟨fd_ruO, F_ruO⟩ := q_ruO.fn
  have B_ruO := F_ruO.binds (ps := ["self", "cells"]) fun _ _ _ _ _ _ us hl => match us, hl with | [_, _], _ => rfl
  obtain ⟨a_ruI, h_ruI, q_ruI⟩ := m_ruI.ex
  obtain ⟨fd_ruI, F_ruI⟩ := q_ruI.fn
  have B_ruI := F_ruI.binds (ps := ["self", "own", "count"]) fun _ _ _ _ _ _ us hl => match us, hl with | [_, _, _], _ => rfl
  obtain ⟨a_ruJ, h_ruJ, q_ruJ⟩ := m_ruJ.ex
  obtain ⟨fd_ruJ, F_ruJ⟩ := q_ruJ.fn
  have B_ruJ := F_ruJ.binds (ps := ["self", "own", "inner"]) fun _ _ _ _ _ _ us hl => match us, hl with | [_, _, _], _ => rfl
  obtain ⟨a_stP, h_stP, q_stP⟩ := m_stP.ex
  obtain ⟨fd_stP, F_stP⟩ := q_stP.fn
  have B_stP := F_stP.binds (ps := ["self", "numbers"]) fun _ _ _ _ _ _ us hl => match us, hl with | [_, _], _ => rfl
  obtain ⟨a_stO, h_stO, q_stO⟩ := m_stO.ex
  obtain ⟨fd_stO, F_stO⟩ := q_stO.fn
  have B_stO := F_stO.binds (ps := ["self", "cells"]) fun _ _ _ _ _ _ us hl => match us, hl with | [_, _], _ => rfl
  obtain ⟨a_stI, h_stI, q_stI⟩ := m_stI.ex
  obtain ⟨fd_stI, F_stI⟩ := q_stI.fn
  have B_stI := F_stI.binds (ps := ["self", "own", "count"]) fun _ _ _ _ _ _ us hl => match us, hl with | [_, _, _], _ => rfl
  obtain ⟨a_stJ, h_stJ, q_stJ⟩ := m_stJ.ex
  obtain ⟨fd_stJ, F_stJ⟩ := q_stJ.fn
  have B_stJ := F_stJ.binds (ps := ["self", "own", "inner"]) fun _ _ _ _ _ _ us hl => match us, hl with | [_, _, _], _ => rfl
  obtain ⟨a_baP, h_baP, q_baP⟩ := m_baP.ex
  obtain ⟨fd_baP, F_baP⟩ := q_baP.fn
  have B_baP := F_baP.binds (ps := ["self", "numbers"]) fun _ _ _ _ _ _ us hl => match us, hl with | [_, _], _ => rfl
  obtain ⟨a_baO, h_baO, q_baO⟩ := m_baO.ex
  obtain ⟨fd_baO, F_baO⟩ := q_baO.fn
  have B_baO := F_baO.binds (ps := ["self", "cells"]) fun _ _ _ _ _ _ us hl => match us, hl with | [_, _], _ => rfl
  obtain ⟨a_baI, h_baI, q_baI⟩ := m_baI.ex
  obtain ⟨fd_baI, F_baI⟩ := q_baI.fn
  have B_baI := F_baI.binds (ps := ["self", "own", "count"]) fun _ _ _ _ _ _ us hl => match us, hl with | [_, _, _], _ => rfl
  obtain ⟨a_baJ, h_baJ, q_baJ⟩ := m_baJ.ex
  obtain ⟨fd_baJ, F_baJ⟩ := q_baJ.fn
  have B_baJ := F_baJ.binds (ps := ["self", "own", "inner"]) fun _ _ _ _ _ _ us hl => match us, hl with | [_, _, _], _ => rfl
  obtain ⟨a_piP, h_piP, q_piP⟩ := m_piP.ex
  obtain ⟨fd_piP, F_piP⟩ := q_piP.fn
  have B_piP := F_piP.binds (ps := ["self", "numbers"]) fun _ _ _ _ _ _ us hl => match us, hl with | [_, _], _ => rfl
  obtain ⟨a_piO, h_piO, q_piO⟩ := m_piO.ex
  obtain ⟨fd_piO, F_piO⟩ := q_piO.fn
  have B_piO := F_piO.binds (ps := ["self", "cells"]) fun _ _ _ _ _ _ us hl => match us, hl with | [_, _], _ => rfl
  obtain ⟨a_piI, h_piI, q_piI⟩ := m_piI.ex
  obtain ⟨fd_piI, F_piI⟩ := q_piI.fn
  have B_piI := F_piI.binds (ps := ["self", "own", "count"]) fun _ _ _ _ _ _ us hl => match us, hl with | [_, _, _], _ => rfl
  obtain ⟨a_piJ, h_piJ, q_piJ⟩ := m_piJ.ex
  obtain ⟨fd_piJ, F_piJ⟩ := q_piJ.fn
  have B_piJ := F_piJ.binds (ps := ["self", "own", "inner"]) fun _ _ _ _ _ _ us hl => match us, hl with | [_, _, _], _ => rfl
  obtain ⟨fd_T, F_T⟩ := f_T.fn
  have B_T := F_T.binds (ps := ["self", "text"]) fun _ _ _ _ _ _ us hl => match us, hl with | [_, _], _ => rfl
  obtain ⟨a_law, h_law, q_law⟩ := d_law.ex
  have e := hfa.symm.trans h_law
  cases e
  obtain ⟨oc, od, an, osl, kV, doc, pm, cdv, ct, l, c⟩ := q_law.ex
  refine ⟨PySem.W.fnOf "law" "law" (defArgs sLaw) (defBody sLaw) (defScope sLaw) .none kV doc pm an cdv ct, fun s v => .of_eq rfl, fun base _ _ => ?_⟩
  generalize hA : (⟨cE, cU, cB, cT, fT, fun k => match k with | .li => c_li | .ru => c_ru | .st => c_st | .ba => c_ba | .pi => c_pi⟩ : Ad) = A at T TK
  have eB : A.CB = cB := by rw [← hA]
  have eT : A.CT = cT := by rw [← hA]
  have e_li : A.C .li = c_li := by rw [← hA]
  have e_ru : A.C .ru = c_ru := by rw [← hA]
  have e_st : A.C .st = c_st := by rw [← hA]
  have e_ba : A.C .ba = c_ba := by rw [← hA]
  have e_pi : A.C .pi = c_pi := by rw [← hA]
  have EB : ErrB K mg A.CB := by rw [eB]; exact errB
  have ET : ErrT P w K mg base A.CT := by rw [eT]; exact ⟨oexT, PySem.W.mg_of X G gT, fT, fd_T, i_T, t_T, B_T, ok_chain F_T oexT nT⟩
  have G1_long := Fx.mk (j := 1) h_long q_long.kp B_long (ok_long (P := P) (w := w) (base := base) (A := A) F_long EB (PySem.W.mg_of X G gM)) (by decide)
  have G1_partN := Fx.mk (j := 1) h_partN q_partN.kp B_partN (ok_partN (P := P) (w := w) (base := base) (A := A) F_partN EB B) (by decide)
  have G1_cells := Fx.mk (j := 1) h_cells q_cells.kp B_cells (ok_cells (P := P) (w := w) (base := base) (A := A) F_cells EB B) (by decide)
  have G3_named := Fx.mk (j := 3) h_named q_named.kp B_named (ok_named (P := P) (w := w) (base := base) (A := A) F_named T.mk0 T.g ET) (by decide)
  have G4_named := Fx.mk (j := 4) h_named q_named.kp B_named (ok_named (P := P) (w := w) (base := base) (A := A) F_named T.mk0 T.g ET) (by decide)
  have M_p : ∀ k, Mx P w K mg base 2 (A.C k) "parted" (spPart K k) := fun k => by
    cases k
    · rw [e_li]; exact Mx.mk (j := 2) h_liP B_liP (ok_liP (P := P) (w := w) (base := base) F_liP B) (by decide)
    · rw [e_ru]; exact Mx.mk (j := 2) h_ruP B_ruP (ok_ruP (P := P) (w := w) (base := base) F_ruP B) (by decide)
    · rw [e_st]; exact Mx.mk (j := 2) h_stP B_stP (ok_stP (P := P) (w := w) (base := base) F_stP B) (by decide)
    · rw [e_ba]; exact Mx.mk (j := 2) h_baP B_baP (ok_baP (P := P) (w := w) (base := base) F_baP B) (by decide)
    · rw [e_pi]; exact Mx.mk (j := 2) h_piP B_piP (ok_piP (P := P) (w := w) (base := base) F_piP B) (by decide)
  have M_o : ∀ k, Mx P w K mg base 2 (A.C k) "own_count" (spCnt K A k) := fun k => by
    cases k
    · rw [e_li]; exact Mx.mk (j := 2) h_liO B_liO (ok_liO (P := P) (w := w) (base := base) (A := A) F_liO) (by decide)
    · rw [e_ru]; exact Mx.mk (j := 2) h_ruO B_ruO (ok_ruO (P := P) (w := w) (base := base) F_ruO G1_partN) (by decide)
    · rw [e_st]; exact Mx.mk (j := 2) h_stO B_stO (ok_stO (P := P) (w := w) (base := base) (A := A) F_stO) (by decide)
    · rw [e_ba]; exact Mx.mk (j := 2) h_baO B_baO (ok_baO (P := P) (w := w) (base := base) F_baO EB) (by decide)
    · rw [e_pi]; exact Mx.mk (j := 2) h_piO B_piO (ok_piO (P := P) (w := w) (base := base) F_piO G1_partN) (by decide)
  have M_i : ∀ k, Mx P w K mg base 2 (A.C k) "inner_count" (spInn K k) := fun k => by
    cases k
    · rw [e_li]; exact Mx.mk (j := 2) h_liI B_liI (ok_liI (P := P) (w := w) (base := base) F_liI) (by decide)
    · rw [e_ru]; exact Mx.mk (j := 2) h_ruI B_ruI (ok_ruI (P := P) (w := w) (base := base) F_ruI) (by decide)
    · rw [e_st]; exact Mx.mk (j := 2) h_stI B_stI (ok_stI (P := P) (w := w) (base := base) F_stI) (by decide)
    · rw [e_ba]; exact Mx.mk (j := 2) h_baI B_baI (ok_baI (P := P) (w := w) (base := base) F_baI) (by decide)
    · rw [e_pi]; exact Mx.mk (j := 2) h_piI B_piI (ok_piI (P := P) (w := w) (base := base) F_piI) (by decide)
  have M_j : ∀ k, Mx P w K mg base 2 (A.C k) "joined" (spJn K A k) := fun k => by
    cases k
    · rw [e_li]; exact Mx.mk (j := 2) h_liJ B_liJ (ok_liJ (P := P) (w := w) (base := base) F_liJ EB B G1_long) (by decide)
    · rw [e_ru]; exact Mx.mk (j := 2) h_ruJ B_ruJ (ok_ruJ (P := P) (w := w) (base := base) F_ruJ EB B G1_long G1_cells) (by decide)
    · rw [e_st]; exact Mx.mk (j := 2) h_stJ B_stJ (ok_stJ (P := P) (w := w) (base := base) F_stJ EB B G1_long) (by decide)
    · rw [e_ba]; exact Mx.mk (j := 2) h_baJ B_baJ (ok_baJ (P := P) (w := w) (base := base) F_baJ EB B G1_long) (by decide)
    · rw [e_pi]; exact Mx.mk (j := 2) h_piJ B_piJ (ok_piJ (P := P) (w := w) (base := base) F_piJ EB B G1_long G1_cells) (by decide)
  have G1_parted := Fc.mk (j := 1) h_parted q_parted.kp B_parted (ok_parted (P := P) (w := w) (base := base) F_parted B) (by decide)
  have G2_parted := Fc.mk (j := 2) h_parted q_parted.kp B_parted (ok_parted (P := P) (w := w) (base := base) F_parted B) (by decide)
  have G3_parted := Fc.mk (j := 3) h_parted q_parted.kp B_parted (ok_parted (P := P) (w := w) (base := base) F_parted B) (by decide)
  have G2_joined := Fc.mk (j := 2) h_joined q_joined.kp B_joined (ok_joined (P := P) (w := w) (base := base) F_joined B G1_parted) (by decide)
  have G2_own := Fc.mk (j := 2) h_own q_own.kp B_own (ok_own (P := P) (w := w) (base := base) F_own B) (by decide)
  have G1_int := Fc.mk (j := 1) h_int q_int.kp B_int (ok_int (P := P) (w := w) (base := base) F_int B) (by decide)
  have G2_int := Fc.mk (j := 2) h_int q_int.kp B_int (ok_int (P := P) (w := w) (base := base) F_int B) (by decide)
  have G2_ints := Fc.mk (j := 2) h_ints q_ints.kp B_ints (ok_ints (P := P) (w := w) (base := base) F_ints B G1_int) (by decide)
  have G3_bent := Fc.mk (j := 3) h_bent q_bent.kp B_bent (ok_bent (P := P) (w := w) (base := base) F_bent B) (by decide)
  have G3_join := Fc.mk (j := 3) h_join q_join.kp B_join (ok_join (P := P) (w := w) (base := base) F_join B TK T.cl M_j G2_joined G2_ints) (by decide)
  have G3_count := Fc.mk (j := 3) h_count q_count.kp B_count (ok_count (P := P) (w := w) (base := base) F_count B TK T.cl M_o G2_own G2_int) (by decide)
  have G3_parts := Fc.mk (j := 3) h_parts q_parts.kp B_parts (ok_parts (P := P) (w := w) (base := base) F_parts B T.cl M_p M_i G2_parted G2_ints G2_int) (by decide)
  have G4_link := Fc.mk (j := 4) h_link q_link.kp B_link (ok_link (P := P) (w := w) (base := base) F_link G3_parted G3_bent G3_join G3_count G3_parts) (by decide)
  have G4_refused := Fc.mk (j := 4) h_refused q_refused.kp B_refused (ok_refused (P := P) (w := w) (base := base) F_refused B TK G3_named) (by decide)
  have G4_classes := Fc.mk (j := 4) h_classes q_classes.kp B_classes (ok_classes (P := P) (w := w) (base := base) F_classes B T G3_named) (by decide)
  have G4_digits := Fc.mk (j := 4) h_digits q_digits.kp B_digits (ok_digits (P := P) (w := w) (base := base) F_digits B) (by decide)
  have G1_draw := Fc.mk (j := 1) h_draw q_draw.kp B_draw (ok_draw (P := P) (w := w) (base := base) F_draw B) (by decide)
  have G4_draw := Fc.mk (j := 4) h_draw q_draw.kp B_draw (ok_draw (P := P) (w := w) (base := base) F_draw B) (by decide)
  have G2_number := Fc.mk (j := 2) h_number q_number.kp B_number (ok_number (P := P) (w := w) (base := base) F_number B G1_draw) (by decide)
  have G4_row := Fc.mk (j := 4) h_row q_row.kp B_row (ok_row (P := P) (w := w) (base := base) F_row B G1_draw G2_number) (by decide)
  exact ok_law (fun_mk (st := sLaw) l c q_law.kp) B T G4_digits G4_row G4_draw G4_named G4_link G4_refused G4_classes
theorem walk {l : PySem.W.OpenLaw} {q : Program} {loose : List Str} {XP : (Str → Option Value) → Heap → Prop} {YP : World → Heap → Prop} {d : DefRec} {K : Params → PySem.W.Frag} (hn : l.most = some 63) (hdf : d.params.defaults = [])
    (hY : ∀ (w : World) (h : Heap), YP w h → (K w.params).In h)
    (F : ∀ (w : World) (mg : Str → Option Value) (fa : Addr) (h : Heap), (K w.params).In h → h.Ns mainGlobals mg → mg d.name = some (.ref fa) →
      ∃ fd : FuncData, (∀ (s : Shared) (u : Value), BindsTo s fd ⟨[u], []⟩ [("_law_script", u)]) ∧ ∀ base : Heap, (K w.params).In base → base.Ns mainGlobals mg → FnOk l.prog w (K w.params) mg base CX0 5 fa fd ["_law_script"] (spLaw (K w.params))) :
    PySem.W.WalkO q loose XP YP l.row.toRowW d [] (fun f vs => PySem.call f vs) :=
  L2.walk_of (n := 63) (k := 5) (x := "_law_script") (CX := fun _ => CX0) (sp := fun w => spLaw (K w.params)) hn (by decide) hdf ⟨rfl, by decide, by decide⟩ hY F (fun _ _ a ns hl _ hS => ⟨a, ns, rfl, hS, hl, fun _ => rfl⟩) fun _ _ _ _ _ z => z
end K3
section
open PySem PySem.W PyProof.Rows
set_option maxHeartbeats 0
open_top k3head for PySem.Challenge.rw_colonnade_k03_links
theorem PySem.Challenge.cw_colonnade_k03_links_holds : PySem.Challenge.rw_colonnade_k03_links.Holds := by
  refine k3head ?_
  k_fill
  refine K3.walk (l := PySem.Challenge.rw_colonnade_k03_links) rfl rfl (fun w h Y => PySem.W.kIn_of Y) ?F
  case F =>
    intro w mg fa h KX G hmg
    refine' K3.all_mk KX G hmg ?b_len ?b_list ?b_min ?b_sum ?b_any ?b_all ?b_zip ?b_enumerate ?b_range ?b_sorted ?b_set ?b_isinstance ?b_int ?b_bool ?b_tuple ?b_abs ?gM ?gE ?gU ?gB ?gT ?g_li ?g_ru ?g_st ?g_ba ?g_pi ?d_long ?d_partN ?d_cells ?d_named ?d_digits ?d_draw ?d_number ?d_row ?d_parted ?d_joined ?d_own ?d_int ?d_ints ?d_bent ?d_join ?d_count ?d_parts ?d_link ?d_refused ?d_classes ?d_law ?m_liP ?m_liO ?m_liI ?m_liJ ?m_ruP ?m_ruO ?m_ruI ?m_ruJ ?m_stP ?m_stO ?m_stI ?m_stJ ?m_baP ?m_baO ?m_baI ?m_baJ ?m_piP ?m_piO ?m_piI ?m_piJ ?c_at_li ?c_at_ru ?c_at_st ?c_at_ba ?c_at_pi ?sub_ru ?sub_st ?sub_ba ?sub_pi ?subRS ?subPB ?hn ?ht ?errB ?eatB ?eatT ?clsE ?typE ?clsU ?typU ?sBE ?sBU ?sTE ?sTB ?oexT ?nT ?i_T ?t_T ?f_T
    (case b_len => k_is)
    (case b_list => k_is)
    (case b_min => k_is)
    (case b_sum => k_is)
    (case b_any => k_is)
    (case b_all => k_is)
    (case b_zip => k_is)
    (case b_enumerate => k_is)
    (case b_range => k_is)
    (case b_sorted => k_is)
    (case b_set => k_is)
    (case b_isinstance => k_is)
    (case b_int => k_is)
    (case b_bool => k_is)
    (case b_tuple => k_is)
    (case b_abs => k_is)
    (case gM => k_is)
    (case gE => k_is)
    (case gU => k_is)
    (case gB => k_is)
    (case gT => k_is)
    (case g_li => k_is)
    (case g_ru => k_is)
    (case g_st => k_is)
    (case g_ba => k_is)
    (case g_pi => k_is)
    (case d_long => refine' K3.defAt KX G ?a ?F; (case a => k_is); (case F => refine' K3.funAt ?l ?c ?k; (case l => k_is); (case c => k_is); (case k => k_is)))
    (case d_partN => refine' K3.defAt KX G ?a ?F; (case a => k_is); (case F => refine' K3.funAt ?l ?c ?k; (case l => k_is); (case c => k_is); (case k => k_is)))
    (case d_cells => refine' K3.defAt KX G ?a ?F; (case a => k_is); (case F => refine' K3.funAt ?l ?c ?k; (case l => k_is); (case c => k_is); (case k => k_is)))
    (case d_named => refine' K3.defAt KX G ?a ?F; (case a => k_is); (case F => refine' K3.funAt ?l ?c ?k; (case l => k_is); (case c => k_is); (case k => k_is)))
    (case d_digits => refine' K3.defAt KX G ?a ?F; (case a => k_is); (case F => refine' K3.funAt ?l ?c ?k; (case l => k_is); (case c => k_is); (case k => k_is)))
    (case d_draw => refine' K3.defAt KX G ?a ?F; (case a => k_is); (case F => refine' K3.funAt ?l ?c ?k; (case l => k_is); (case c => k_is); (case k => k_is)))
    (case d_number => refine' K3.defAt KX G ?a ?F; (case a => k_is); (case F => refine' K3.funAt ?l ?c ?k; (case l => k_is); (case c => k_is); (case k => k_is)))
    (case d_row => refine' K3.defAt KX G ?a ?F; (case a => k_is); (case F => refine' K3.funAt ?l ?c ?k; (case l => k_is); (case c => k_is); (case k => k_is)))
    (case d_parted => refine' K3.defAt KX G ?a ?F; (case a => k_is); (case F => refine' K3.funAt ?l ?c ?k; (case l => k_is); (case c => k_is); (case k => k_is)))
    (case d_joined => refine' K3.defAt KX G ?a ?F; (case a => k_is); (case F => refine' K3.funAt ?l ?c ?k; (case l => k_is); (case c => k_is); (case k => k_is)))
    (case d_own => refine' K3.defAt KX G ?a ?F; (case a => k_is); (case F => refine' K3.funAt ?l ?c ?k; (case l => k_is); (case c => k_is); (case k => k_is)))
    (case d_int => refine' K3.defAt KX G ?a ?F; (case a => k_is); (case F => refine' K3.funAt ?l ?c ?k; (case l => k_is); (case c => k_is); (case k => k_is)))
    (case d_ints => refine' K3.defAt KX G ?a ?F; (case a => k_is); (case F => refine' K3.funAt ?l ?c ?k; (case l => k_is); (case c => k_is); (case k => k_is)))
    (case d_bent => refine' K3.defAt KX G ?a ?F; (case a => k_is); (case F => refine' K3.funAt ?l ?c ?k; (case l => k_is); (case c => k_is); (case k => k_is)))
    (case d_join => refine' K3.defAt KX G ?a ?F; (case a => k_is); (case F => refine' K3.funAt ?l ?c ?k; (case l => k_is); (case c => k_is); (case k => k_is)))
    (case d_count => refine' K3.defAt KX G ?a ?F; (case a => k_is); (case F => refine' K3.funAt ?l ?c ?k; (case l => k_is); (case c => k_is); (case k => k_is)))
    (case d_parts => refine' K3.defAt KX G ?a ?F; (case a => k_is); (case F => refine' K3.funAt ?l ?c ?k; (case l => k_is); (case c => k_is); (case k => k_is)))
    (case d_link => refine' K3.defAt KX G ?a ?F; (case a => k_is); (case F => refine' K3.funAt ?l ?c ?k; (case l => k_is); (case c => k_is); (case k => k_is)))
    (case d_refused => refine' K3.defAt KX G ?a ?F; (case a => k_is); (case F => refine' K3.funAt ?l ?c ?k; (case l => k_is); (case c => k_is); (case k => k_is)))
    (case d_classes => refine' K3.defAt KX G ?a ?F; (case a => k_is); (case F => refine' K3.funAt ?l ?c ?k; (case l => k_is); (case c => k_is); (case k => k_is)))
    (case d_law => refine' K3.defAt KX G ?a ?F; (case a => k_is); (case F => refine' K3.funAt ?l ?c ?k; (case l => k_is); (case c => k_is); (case k => k_is)))
    (case m_liP => refine' K3.metAt ?a ?i ?F; (case a => k_is); (case i => k_is); (case F => refine' K3.funAt ?l ?c ?k; (case l => k_is); (case c => k_is); (case k => k_is)))
    (case m_liO => refine' K3.metAt ?a ?i ?F; (case a => k_is); (case i => k_is); (case F => refine' K3.funAt ?l ?c ?k; (case l => k_is); (case c => k_is); (case k => k_is)))
    (case m_liI => refine' K3.metAt ?a ?i ?F; (case a => k_is); (case i => k_is); (case F => refine' K3.funAt ?l ?c ?k; (case l => k_is); (case c => k_is); (case k => k_is)))
    (case m_liJ => refine' K3.metAt ?a ?i ?F; (case a => k_is); (case i => k_is); (case F => refine' K3.funAt ?l ?c ?k; (case l => k_is); (case c => k_is); (case k => k_is)))
    (case m_ruP => refine' K3.metAt ?a ?i ?F; (case a => k_is); (case i => k_is); (case F => refine' K3.funAt ?l ?c ?k; (case l => k_is); (case c => k_is); (case k => k_is)))
    (case m_ruO => refine' K3.metAt ?a ?i ?F; (case a => k_is); (case i => k_is); (case F => refine' K3.funAt ?l ?c ?k; (case l => k_is); (case c => k_is); (case k => k_is)))
    (case m_ruI => refine' K3.metAt ?a ?i ?F; (case a => k_is); (case i => k_is); (case F => refine' K3.funAt ?l ?c ?k; (case l => k_is); (case c => k_is); (case k => k_is)))
    (case m_ruJ => refine' K3.metAt ?a ?i ?F; (case a => k_is); (case i => k_is); (case F => refine' K3.funAt ?l ?c ?k; (case l => k_is); (case c => k_is); (case k => k_is)))
    (case m_stP => refine' K3.metAt ?a ?i ?F; (case a => k_is); (case i => k_is); (case F => refine' K3.funAt ?l ?c ?k; (case l => k_is); (case c => k_is); (case k => k_is)))
    (case m_stO => refine' K3.metAt ?a ?i ?F; (case a => k_is); (case i => k_is); (case F => refine' K3.funAt ?l ?c ?k; (case l => k_is); (case c => k_is); (case k => k_is)))
    (case m_stI => refine' K3.metAt ?a ?i ?F; (case a => k_is); (case i => k_is); (case F => refine' K3.funAt ?l ?c ?k; (case l => k_is); (case c => k_is); (case k => k_is)))
    (case m_stJ => refine' K3.metAt ?a ?i ?F; (case a => k_is); (case i => k_is); (case F => refine' K3.funAt ?l ?c ?k; (case l => k_is); (case c => k_is); (case k => k_is)))
    (case m_baP => refine' K3.metAt ?a ?i ?F; (case a => k_is); (case i => k_is); (case F => refine' K3.funAt ?l ?c ?k; (case l => k_is); (case c => k_is); (case k => k_is)))
    (case m_baO => refine' K3.metAt ?a ?i ?F; (case a => k_is); (case i => k_is); (case F => refine' K3.funAt ?l ?c ?k; (case l => k_is); (case c => k_is); (case k => k_is)))
    (case m_baI => refine' K3.metAt ?a ?i ?F; (case a => k_is); (case i => k_is); (case F => refine' K3.funAt ?l ?c ?k; (case l => k_is); (case c => k_is); (case k => k_is)))
    (case m_baJ => refine' K3.metAt ?a ?i ?F; (case a => k_is); (case i => k_is); (case F => refine' K3.funAt ?l ?c ?k; (case l => k_is); (case c => k_is); (case k => k_is)))
    (case m_piP => refine' K3.metAt ?a ?i ?F; (case a => k_is); (case i => k_is); (case F => refine' K3.funAt ?l ?c ?k; (case l => k_is); (case c => k_is); (case k => k_is)))
    (case m_piO => refine' K3.metAt ?a ?i ?F; (case a => k_is); (case i => k_is); (case F => refine' K3.funAt ?l ?c ?k; (case l => k_is); (case c => k_is); (case k => k_is)))
    (case m_piI => refine' K3.metAt ?a ?i ?F; (case a => k_is); (case i => k_is); (case F => refine' K3.funAt ?l ?c ?k; (case l => k_is); (case c => k_is); (case k => k_is)))
    (case m_piJ => refine' K3.metAt ?a ?i ?F; (case a => k_is); (case i => k_is); (case F => refine' K3.funAt ?l ?c ?k; (case l => k_is); (case c => k_is); (case k => k_is)))
    (case c_at_li => refine' K3.cAt ?pg ?hd ?po ?sa ?mk ?ini ?kc ?rd ?ga ?n1 ?n2 ?n3 ?p1 ?p2 ?p3 ?ha ?hm ?hc ?ty ?sS; (case pg => k_is); (case hd => k_is); (case po => k_is); (case sa => k_is); (case mk => k_is); (case ini => k_is); (case kc => k_is); (case rd => k_is); (case ga => k_is); (case n1 => k_is); (case n2 => k_is); (case n3 => k_is); (case p1 => k_is); (case p2 => k_is); (case p3 => k_is); (case ha => k_is); (case hm => k_is); (case hc => k_is); (case ty => k_is); (case sS => first | rfl | k_is))
    (case c_at_ru => refine' K3.cAt ?pg ?hd ?po ?sa ?mk ?ini ?kc ?rd ?ga ?n1 ?n2 ?n3 ?p1 ?p2 ?p3 ?ha ?hm ?hc ?ty ?sS; (case pg => k_is); (case hd => k_is); (case po => k_is); (case sa => k_is); (case mk => k_is); (case ini => k_is); (case kc => k_is); (case rd => k_is); (case ga => k_is); (case n1 => k_is); (case n2 => k_is); (case n3 => k_is); (case p1 => k_is); (case p2 => k_is); (case p3 => k_is); (case ha => k_is); (case hm => k_is); (case hc => k_is); (case ty => k_is); (case sS => first | rfl | k_is))
    (case c_at_st => refine' K3.cAt ?pg ?hd ?po ?sa ?mk ?ini ?kc ?rd ?ga ?n1 ?n2 ?n3 ?p1 ?p2 ?p3 ?ha ?hm ?hc ?ty ?sS; (case pg => k_is); (case hd => k_is); (case po => k_is); (case sa => k_is); (case mk => k_is); (case ini => k_is); (case kc => k_is); (case rd => k_is); (case ga => k_is); (case n1 => k_is); (case n2 => k_is); (case n3 => k_is); (case p1 => k_is); (case p2 => k_is); (case p3 => k_is); (case ha => k_is); (case hm => k_is); (case hc => k_is); (case ty => k_is); (case sS => first | rfl | k_is))
    (case c_at_ba => refine' K3.cAt ?pg ?hd ?po ?sa ?mk ?ini ?kc ?rd ?ga ?n1 ?n2 ?n3 ?p1 ?p2 ?p3 ?ha ?hm ?hc ?ty ?sS; (case pg => k_is); (case hd => k_is); (case po => k_is); (case sa => k_is); (case mk => k_is); (case ini => k_is); (case kc => k_is); (case rd => k_is); (case ga => k_is); (case n1 => k_is); (case n2 => k_is); (case n3 => k_is); (case p1 => k_is); (case p2 => k_is); (case p3 => k_is); (case ha => k_is); (case hm => k_is); (case hc => k_is); (case ty => k_is); (case sS => first | rfl | k_is))
    (case c_at_pi => refine' K3.cAt ?pg ?hd ?po ?sa ?mk ?ini ?kc ?rd ?ga ?n1 ?n2 ?n3 ?p1 ?p2 ?p3 ?ha ?hm ?hc ?ty ?sS; (case pg => k_is); (case hd => k_is); (case po => k_is); (case sa => k_is); (case mk => k_is); (case ini => k_is); (case kc => k_is); (case rd => k_is); (case ga => k_is); (case n1 => k_is); (case n2 => k_is); (case n3 => k_is); (case p1 => k_is); (case p2 => k_is); (case p3 => k_is); (case ha => k_is); (case hm => k_is); (case hc => k_is); (case ty => k_is); (case sS => first | rfl | k_is))
    (case sub_ru => k_is)
    (case sub_st => k_is)
    (case sub_ba => k_is)
    (case sub_pi => k_is)
    (case subRS => k_is)
    (case subPB => k_is)
    (case hn => k_is)
    (case ht => k_is)
    (case errB => refine' K3.errBAt KX G ?x ?g ?k ?b ?t; (case g => k_is); (case x => k_exc); (case k => k_is); (case b => k_is); (case t => k_is))
    (case eatB => refine' K3.eAt ?hc ?hg ?hk ?hs ?ha ?hn ?ht ?hm ?hd ?ty ?sS; (case hc => k_is); (case hg => k_is); (case hk => k_is); (case hs => k_is); (case ha => k_is); (case hn => k_is); (case ht => k_is); (case hm => k_is); (case hd => k_is); (case ty => k_is); (case sS => first | rfl | k_is))
    (case eatT => refine' K3.eAt ?hc ?hg ?hk ?hs ?ha ?hn ?ht ?hm ?hd ?ty ?sS; (case hc => k_is); (case hg => k_is); (case hk => k_is); (case hs => k_is); (case ha => k_is); (case hn => k_is); (case ht => k_is); (case hm => k_is); (case hd => k_is); (case ty => k_is); (case sS => first | rfl | k_is))
    (case clsE => k_is)
    (case typE => k_is)
    (case clsU => k_is)
    (case typU => k_is)
    (case sBE => k_is)
    (case sBU => k_is)
    (case sTE => k_is)
    (case sTB => k_is)
    (case oexT => refine' K3.oexAt ?xL ?sa ?exC ?tyC ?kC; (case xL => k_is); (case sa => k_is); (case exC => k_is); (case tyC => k_is); (case kC => k_is))
    (case nT => k_is)
    (case i_T => k_is)
    (case t_T => k_is)
    (case f_T => refine' K3.funAt ?l ?c ?k; (case l => k_is); (case c => k_is); (case k => k_is))
end
