import PyProof.Rows.All
import Wide.All
import OpenK.AllK
import Wide.FinOn
import PyProof.EqAt
import PyProof.EqKinds
import PyProof.TupleCall
import HandS.ForMost
import HandS.ForExc
import HandS.Property
import HandS.ClsMeth
import HandS.IsInst
import HandS.ExcField
import HandS.ExcIs
import HandS.Conv
import HandS.Evl
import HandS.Steps
import HandS.More
import HandS.NoneIn
import HandS.Deep
import HandS.Small
import HandS.SetFor
import HandS.SortRule
import HandS.SortInts
import HandS.TupSets
import HandS.DictTup
import HandS.AnyAll
import HandS.FStr
import HandS.Defaults
import HandS.Head0
import HandS.Head1
import HandS.Head2
import HandS.HeadEnd
import HandS.HeadHook1
import HandS.HeadHook2
import HandS.HeadHook4
import HandS.HeadWalk
import PySem.Challenge.RW_pullstore_k23_whole_finishing
import PyProof.P3Eq
import KE.KExcSuper
import HandS.ExcSuper
import PyProof.FString2
import HandS.Walk
import KE.KStateDown
import HandS.Base
import HandS.Call
import HandS.Ends
import HandS.HeadNt
set_option Elab.async false
set_option linter.all false
set_option maxRecDepth 100000
/-! PsMath: the mathematics, plain Lean. Rows of logs, offers, the run that finishes logs, reachability. -/
namespace Ps

inductive Act where
  | w (e : Int)
  | p (s r e : Int)
  deriving DecidableEq

abbrev Rows := List (List Int)
def row (rows : Rows) (r : Int) : List Int := rows.getD r.toNat []
def app (rows : Rows) (r : Int) (e : Int) : Rows := rows.set r.toNat (row rows r ++ [e])
def offer (src rd : List Int) : Option Int := src.find? fun e => !rd.contains e
def ents (t : Nat) : List Int := (List.range t).map fun n : Nat => (n : Int)
def held (rows : Rows) (e : Int) : Bool := rows.any fun r => r.contains e
def unw (t : Nat) (rows : Rows) : List Int := (ents t).filter fun e => !held rows e
def lens (rows : Rows) : Nat := (rows.map List.length).sum

theorem mem_ents {t : Nat} {e : Int} : e ∈ ents t ↔ 0 ≤ e ∧ e < t := by
  unfold ents
  rw [List.mem_map]
  constructor
  · rintro ⟨n, hn, rfl⟩
    have := List.mem_range.mp hn
    omega
  · intro ⟨h1, h2⟩
    exact ⟨e.toNat, List.mem_range.mpr (by omega), by omega⟩
theorem ents_len (t : Nat) : (ents t).length = t := by simp [ents]
theorem ents_at {t i : Nat} (h : i < t) : (ents t)[i]? = some (i : Int) := by
  simp [ents, h]
theorem range_lt : ∀ t : Nat, (List.range t).Pairwise (· < ·) := fun t => List.pairwise_lt_range
theorem ents_lt (t : Nat) : (ents t).Pairwise (· < ·) := by
  unfold ents
  rw [List.pairwise_map]
  exact (range_lt t).imp fun h => by omega
theorem nodup_of_lt {l : List Int} (h : l.Pairwise (· < ·)) : l.Nodup := h.imp fun h => by omega
theorem ents_nodup (t : Nat) : (ents t).Nodup := nodup_of_lt (ents_lt t)

/-! ### lists without duplicates -/
theorem nodup_sub_len : ∀ (l m : List Int), l.Nodup → (∀ x ∈ l, x ∈ m) → l.length ≤ m.length
  | [], m, _, _ => Nat.zero_le _
  | x :: l, m, h, hs => by
    have hx : x ∈ m := hs x (List.mem_cons_self ..)
    obtain ⟨h1, h2⟩ := List.nodup_cons.mp h
    have ih := nodup_sub_len l (m.erase x) h2 fun y hy => by
      have ne : y ≠ x := fun e => h1 (e ▸ hy)
      exact (List.mem_erase_of_ne ne).mpr (hs y (List.mem_cons_of_mem _ hy))
    rw [List.length_erase_of_mem hx] at ih
    have : 0 < m.length := List.length_pos_of_mem hx
    rw [List.length_cons]
    omega
theorem nodup_sub_all {l m : List Int} (h : l.Nodup) (hs : ∀ x ∈ l, x ∈ m) (hl : m.length ≤ l.length) : ∀ y ∈ m, y ∈ l := fun y hy => by
  apply Classical.byContradiction
  intro hn
  have h1 := nodup_sub_len l (m.erase y) h fun x hx => by
    have ne : x ≠ y := fun e => hn (e ▸ hx)
    exact (List.mem_erase_of_ne ne).mpr (hs x hx)
  rw [List.length_erase_of_mem hy] at h1
  have : 0 < m.length := List.length_pos_of_mem hy
  omega
theorem sorted_ext : ∀ {l m : List Int}, l.Pairwise (· < ·) → m.Pairwise (· < ·) → (∀ x, x ∈ l ↔ x ∈ m) → l = m
  | [], [], _, _, _ => rfl
  | [], y :: m, _, _, h => by have := (h y).mpr (List.mem_cons_self ..); cases this
  | x :: l, [], _, _, h => by have := (h x).mp (List.mem_cons_self ..); cases this
  | x :: l, y :: m, hl, hm, h => by
    obtain ⟨l1, l2⟩ := List.pairwise_cons.mp hl
    obtain ⟨m1, m2⟩ := List.pairwise_cons.mp hm
    have e : x = y := by
      have hx := (h x).mp (List.mem_cons_self ..)
      have hy := (h y).mpr (List.mem_cons_self ..)
      rcases List.mem_cons.mp hx with e | hx
      · exact e
      · rcases List.mem_cons.mp hy with e | hy
        · exact e.symm
        · have := m1 x hx
          have := l1 y hy
          omega
    subst e
    congr 1
    refine sorted_ext l2 m2 fun z => ?_
    constructor
    · intro hz
      rcases List.mem_cons.mp ((h z).mp (List.mem_cons_of_mem _ hz)) with e | hz'
      · have := l1 z hz
        omega
      · exact hz'
    · intro hz
      rcases List.mem_cons.mp ((h z).mpr (List.mem_cons_of_mem _ hz)) with e | hz'
      · have := m1 z hz
        omega
      · exact hz'
theorem lt_of_le_nodup {l : List Int} (h : l.Pairwise (· ≤ ·)) (hn : l.Nodup) : l.Pairwise (· < ·) := by
  have := h.and hn
  exact this.imp fun ⟨a, b⟩ => by omega
/-- sorted of a full row -/
theorem sorted_full {t : Nat} {r ns : List Int} (hn : r.Nodup) (hr : ∀ e, e ∈ r ↔ 0 ≤ e ∧ e < t) (hp : ns.Perm r) (hs : ns.Pairwise (· ≤ ·)) : ns = ents t :=
  sorted_ext (lt_of_le_nodup hs (hp.nodup_iff.mpr hn)) (ents_lt t) fun x => by rw [hp.mem_iff, hr, mem_ents]

/-! ### rows -/
structure Valid (n t : Nat) (rows : Rows) : Prop where
  len : rows.length = n
  nd : ∀ r ∈ rows, r.Nodup
  rg : ∀ r ∈ rows, ∀ e ∈ r, 0 ≤ e ∧ e < (t : Int)

theorem row_at {rows : Rows} {r : Int} (h : 0 ≤ r) (h2 : r < rows.length) : rows[r.toNat]? = some (row rows r) := by
  have : r.toNat < rows.length := by omega
  unfold row
  rw [List.getElem?_eq_getElem this, List.getD_eq_getElem?_getD, List.getElem?_eq_getElem this]
  rfl
theorem row_mem {rows : Rows} {r : Int} (h : 0 ≤ r) (h2 : r < rows.length) : row rows r ∈ rows := List.mem_of_getElem? (row_at h h2)
theorem app_len {rows : Rows} {r e : Int} : (app rows r e).length = rows.length := by simp [app]
theorem row_app {rows : Rows} {r e : Int} (h : 0 ≤ r) (h2 : r < rows.length) : row (app rows r e) r = row rows r ++ [e] := by
  have : r.toNat < rows.length := by omega
  unfold row app
  rw [List.getD_eq_getElem?_getD, List.getElem?_set_self this]
  rfl
theorem row_app_ne {rows : Rows} {r s e : Int} (h : 0 ≤ r) (hs : 0 ≤ s) (ne : s ≠ r) : row (app rows r e) s = row rows s := by
  have : r.toNat ≠ s.toNat := by omega
  unfold row app
  rw [List.getD_eq_getElem?_getD, List.getElem?_set_ne this, ← List.getD_eq_getElem?_getD]
theorem mem_set {α : Type} : ∀ {l : List α} {i : Nat} {x y : α}, y ∈ l.set i x → y = x ∨ y ∈ l := fun h => by
  rcases List.mem_or_eq_of_mem_set h with h | h
  · exact .inr h
  · exact .inl h
theorem app_valid {n t : Nat} {rows : Rows} {r e : Int} (V : Valid n t rows) (h : 0 ≤ r) (h2 : r < n) (he : 0 ≤ e) (he2 : e < t) (hn : e ∉ row rows r) : Valid n t (app rows r e) := by
  have hm : row rows r ∈ rows := row_mem h (by rw [V.len]; exact h2)
  refine ⟨by rw [app_len, V.len], fun q hq => ?_, fun q hq x hx => ?_⟩
  · rcases mem_set hq with e1 | hq
    · rw [e1]
      refine List.nodup_append.mpr ⟨V.nd _ hm, by simp, fun a ha b hb => ?_⟩
      rw [List.mem_singleton] at hb
      rw [hb]
      intro e2
      rw [e2] at ha
      exact hn ha
    · exact V.nd q hq
  · rcases mem_set hq with e1 | hq
    · rw [e1] at hx
      rcases List.mem_append.mp hx with hx | hx
      · exact V.rg _ hm x hx
      · rw [List.mem_singleton] at hx
        rw [hx]
        exact ⟨he, he2⟩
    · exact V.rg q hq x hx
theorem sum_set_len : ∀ {l : List (List Int)} {i : Nat} {r : List Int} {e : Int}, l[i]? = some r → ((l.set i (r ++ [e])).map List.length).sum = (l.map List.length).sum + 1
  | [], i, r, e, h => by simp at h
  | a :: l, 0, r, e, h => by
    have e1 : a = r := Option.some.inj h
    subst e1
    simp
    omega
  | a :: l, i + 1, r, e, h => by
    have ih := sum_set_len (l := l) (i := i) (r := r) (e := e) (by simpa using h)
    simp only [List.set_cons_succ, List.map_cons, List.sum_cons]
    omega
theorem lens_app {rows : Rows} {r e : Int} (h : 0 ≤ r) (h2 : r < rows.length) : lens (app rows r e) = lens rows + 1 := sum_set_len (row_at h h2)
theorem row_len {t : Nat} {r : List Int} (h : r.Nodup) (hr : ∀ e ∈ r, 0 ≤ e ∧ e < (t : Int)) : r.length ≤ t := by
  have := nodup_sub_len r (ents t) h fun x hx => mem_ents.mpr (hr x hx)
  rwa [ents_len] at this
theorem sum_le : ∀ {l : List (List Int)} {t : Nat}, (∀ r ∈ l, r.length ≤ t) → (l.map List.length).sum ≤ l.length * t
  | [], t, _ => by simp
  | a :: l, t, h => by
    have ih := sum_le (l := l) (t := t) fun r hr => h r (List.mem_cons_of_mem _ hr)
    have := h a (List.mem_cons_self ..)
    simp only [List.map_cons, List.sum_cons, List.length_cons, Nat.add_mul, Nat.one_mul]
    omega
theorem sum_full : ∀ {l : List (List Int)} {t : Nat}, (∀ r ∈ l, r.length ≤ t) → l.length * t ≤ (l.map List.length).sum → ∀ r ∈ l, r.length = t
  | [], t, _, _ => fun r hr => by cases hr
  | a :: l, t, h, hs => by
    have h1 := sum_le (l := l) (t := t) fun r hr => h r (List.mem_cons_of_mem _ hr)
    have h2 := h a (List.mem_cons_self ..)
    simp only [List.map_cons, List.sum_cons, List.length_cons, Nat.add_mul, Nat.one_mul] at hs
    have ih := sum_full (l := l) (t := t) (fun r hr => h r (List.mem_cons_of_mem _ hr)) (by omega)
    intro r hr
    rcases List.mem_cons.mp hr with e | hr
    · rw [e]
      omega
    · exact ih r hr
theorem lens_le {n t : Nat} {rows : Rows} (V : Valid n t rows) : lens rows ≤ n * t := by
  rw [← V.len]
  exact sum_le fun r hr => row_len (V.nd r hr) (V.rg r hr)
theorem lens_full {n t : Nat} {rows : Rows} (V : Valid n t rows) (h : ∀ r ∈ rows, ∀ e : Int, 0 ≤ e → e < t → e ∈ r) : lens rows = n * t := by
  apply Nat.le_antisymm (lens_le V)
  have key : ∀ l : List (List Int), (∀ r ∈ l, t ≤ r.length) → l.length * t ≤ (l.map List.length).sum := by
    intro l
    induction l with
    | nil => intro _; simp
    | cons a l ih =>
      intro h
      have h1 := ih fun r hr => h r (List.mem_cons_of_mem _ hr)
      have h2 := h a (List.mem_cons_self ..)
      simp only [List.map_cons, List.sum_cons, List.length_cons, Nat.add_mul, Nat.one_mul]
      omega
  rw [← V.len]
  refine key rows fun r hr => ?_
  have := nodup_sub_len (ents t) r (ents_nodup t) fun x hx => by
    obtain ⟨a, b⟩ := mem_ents.mp hx
    exact h r hr x a b
  rwa [ents_len] at this

/-! ### offers -/
theorem offer_some {src rd : List Int} {e : Int} (h : offer src rd = some e) : e ∈ src ∧ e ∉ rd := by
  have h1 := List.mem_of_find?_eq_some h
  have h2 := List.find?_some h
  refine ⟨h1, fun hm => ?_⟩
  simp [hm] at h2
theorem offer_none {src rd : List Int} : offer src rd = none ↔ ∀ e ∈ src, e ∈ rd := by
  unfold offer
  rw [List.find?_eq_none]
  constructor
  · intro h e he
    have := h e he
    simpa using this
  · intro h e he
    have := h e he
    simpa using this
theorem held_iff {rows : Rows} {e : Int} : held rows e = true ↔ ∃ r ∈ rows, e ∈ r := by
  simp [held, List.any_eq_true]
theorem unw_nil {t : Nat} {rows : Rows} : unw t rows = [] ↔ ∀ e : Int, 0 ≤ e → e < t → held rows e = true := by
  unfold unw
  rw [List.filter_eq_nil_iff]
  constructor
  · intro h e h1 h2
    have := h e (mem_ents.mpr ⟨h1, h2⟩)
    simpa using this
  · intro h e he
    obtain ⟨h1, h2⟩ := mem_ents.mp he
    simp [h e h1 h2]
theorem unw_head {t : Nat} {rows : Rows} {e : Int} (h : (unw t rows).head? = some e) : 0 ≤ e ∧ e < t ∧ held rows e = false := by
  have hm : e ∈ unw t rows := List.mem_of_mem_head? h
  unfold unw at hm
  obtain ⟨h1, h2⟩ := List.mem_filter.mp hm
  obtain ⟨h3, h4⟩ := mem_ents.mp h1
  exact ⟨h3, h4, by simpa using h2⟩
theorem held_false {rows : Rows} {e : Int} (h : held rows e = false) : ∀ r ∈ rows, e ∉ r := fun r hr he => by
  have : held rows e = true := held_iff.mpr ⟨r, hr, he⟩
  rw [h] at this
  cases this
/-- what is written or pulled stays held -/
theorem held_app {rows : Rows} {r e x : Int} (h : 0 ≤ r) (h2 : r < rows.length) : held (app rows r e) x = (held rows x || decide (x = e)) := by
  rw [Bool.eq_iff_iff, Bool.or_eq_true, held_iff, held_iff, decide_eq_true_iff]
  constructor
  · rintro ⟨q, hq, hx⟩
    rcases mem_set hq with e1 | hq
    · rw [e1] at hx
      rcases List.mem_append.mp hx with hx | hx
      · exact .inl ⟨_, row_mem h h2, hx⟩
      · exact .inr (List.mem_singleton.mp hx)
    · exact .inl ⟨q, hq, hx⟩
  · have hm : row rows r ++ [e] ∈ app rows r e := by
      unfold app
      have : r.toNat < rows.length := by omega
      exact List.mem_of_getElem? (List.getElem?_set_self this)
    rintro (⟨q, hq, hx⟩ | hx)
    · obtain ⟨i, hi, e1⟩ := List.getElem_of_mem hq
      by_cases hir : r.toNat = i
      · refine ⟨_, hm, List.mem_append_left _ ?_⟩
        have : rows[r.toNat]? = some q := by rw [hir, List.getElem?_eq_getElem hi, e1]
        rw [row_at h h2] at this
        rw [Option.some.inj this]
        exact hx
      · refine ⟨q, ?_, hx⟩
        unfold app
        have : (rows.set r.toNat (row rows r ++ [e]))[i]? = some q := by rw [List.getElem?_set_ne hir, List.getElem?_eq_getElem hi, e1]
        exact List.mem_of_getElem? this
    · exact ⟨_, hm, List.mem_append_right _ (by simp [hx])⟩
theorem unw_app {t : Nat} {rows : Rows} {r e : Int} (h : 0 ≤ r) (h2 : r < rows.length) : unw t (app rows r e) = (unw t rows).filter fun x => !decide (x = e) := by
  unfold unw
  rw [List.filter_filter]
  congr 1
  funext x
  rw [held_app h h2]
  cases held rows x <;> simp

/-! ### the run -/
def Lex (a b : Int × Int) : Prop := a.1 < b.1 ∨ (a.1 = b.1 ∧ a.2 ≤ b.2)
/-- the least link with an offer -/
structure Least (L : Int → Int → Prop) (rows : Rows) (s r e : Int) : Prop where
  link : L s r
  off : offer (row rows s) (row rows r) = some e
  least : ∀ s' r', L s' r' → offer (row rows s') (row rows r') ≠ none → Lex (s, r) (s', r')
theorem Least.same {L : Int → Int → Prop} {rows : Rows} {s r e s' r' e' : Int} (a : Least L rows s r e) (b : Least L rows s' r' e') : s = s' ∧ r = r' ∧ e = e' := by
  have h1 := a.least s' r' b.link (by rw [b.off]; exact fun h => nomatch h)
  have h2 := b.least s r a.link (by rw [a.off]; exact fun h => nomatch h)
  have hs : s = s' ∧ r = r' := by
    unfold Lex at h1 h2
    simp only at h1 h2
    omega
  obtain ⟨rfl, rfl⟩ := hs
  have := a.off.symm.trans b.off
  exact ⟨rfl, rfl, Option.some.inj this⟩
def Still (L : Int → Int → Prop) (rows : Rows) : Prop := ∀ s r, L s r → offer (row rows s) (row rows r) = none
inductive Run (L : Int → Int → Prop) (home : Int → Int) (t : Nat) : Rows → List Act → Rows → Prop
  | done {rows : Rows} (h : unw t rows = []) (h2 : Still L rows) : Run L home t rows [] rows
  | pull {rows f : Rows} {s r e : Int} {tr : List Act} (h : unw t rows = []) (h2 : Least L rows s r e) (h3 : Run L home t (app rows r e) tr f) : Run L home t rows (.p s r e :: tr) f
  | write {rows f : Rows} {e : Int} {tr : List Act} (h : (unw t rows).head? = some e) (h2 : Run L home t (app rows (home e) e) tr f) : Run L home t rows (.w e :: tr) f
section
variable {L : Int → Int → Prop} {home : Int → Int} {n t : Nat}
theorem Run.same {rows f : Rows} {tr : List Act} (a : Run L home t rows tr f) : ∀ {tr' : List Act} {f' : Rows}, Run L home t rows tr' f' → tr = tr' ∧ f = f' := by
  induction a with
  | done h h2 =>
    intro tr' f' b
    cases b with
    | done => exact ⟨rfl, rfl⟩
    | pull g g2 g3 =>
      have q := g2.off
      rw [h2 _ _ g2.link] at q
      cases q
    | write g g2 => rw [h] at g; cases g
  | pull h h2 h3 ih =>
    intro tr' f' b
    cases b with
    | done g g2 => have := h2.off; rw [g2 _ _ h2.link] at this; cases this
    | pull g g2 g3 =>
      obtain ⟨rfl, rfl, rfl⟩ := h2.same g2
      obtain ⟨e1, e2⟩ := ih g3
      exact ⟨by rw [e1], e2⟩
    | write g g2 => rw [h] at g; cases g
  | write h h2 ih =>
    intro tr' f' b
    cases b with
    | done g g2 => rw [g] at h; cases h
    | pull g g2 g3 => rw [g] at h; cases h
    | write g g2 =>
      have := h.symm.trans g
      cases this
      obtain ⟨e1, e2⟩ := ih g2
      exact ⟨by rw [e1], e2⟩
def ap (home : Int → Int) (rows : Rows) : Act → Rows
  | .w e => app rows (home e) e
  | .p _ r e => app rows r e
def apAll (home : Int → Int) (rows : Rows) (tr : List Act) : Rows := tr.foldl (ap home) rows
theorem apAll_snoc (rows : Rows) (tr : List Act) (a : Act) : apAll home rows (tr ++ [a]) = ap home (apAll home rows tr) a := by
  unfold apAll
  rw [List.foldl_append]
  rfl
theorem Run.drop {rows f : Rows} {tr : List Act} (a : Run L home t rows tr f) : ∀ k, Run L home t (apAll home rows (tr.take k)) (tr.drop k) f := by
  induction a with
  | done h h2 => intro k; simpa [apAll] using Run.done h h2
  | pull h h2 h3 ih =>
    intro k
    cases k with
    | zero => exact Run.pull h h2 h3
    | succ k => exact ih k
  | write h h2 ih =>
    intro k
    cases k with
    | zero => exact Run.write h h2
    | succ k => exact ih k
theorem Run.end {rows f : Rows} {tr : List Act} (a : Run L home t rows tr f) : Run L home t f [] f := by
  induction a with
  | done h h2 => exact .done h h2
  | pull h h2 h3 ih => exact ih
  | write h h2 ih => exact ih
/-- what the net and the homes are -/
structure Net (L : Int → Int → Prop) (home : Int → Int) (n t : Nat) : Prop where
  l : ∀ s r, L s r → 0 ≤ s ∧ s < n ∧ 0 ≤ r ∧ r < n ∧ s ≠ r
  h : ∀ e : Int, 0 ≤ e → e < t → 0 ≤ home e ∧ home e < n
def ActOk (n t : Nat) : Act → Prop
  | .w e => 0 ≤ e ∧ e < t
  | .p s r e => 0 ≤ s ∧ s < n ∧ 0 ≤ r ∧ r < n ∧ 0 ≤ e ∧ e < t
theorem write_valid {rows : Rows} {e : Int} (N : Net L home n t) (V : Valid n t rows) (h : (unw t rows).head? = some e) : Valid n t (app rows (home e) e) ∧ lens (app rows (home e) e) = lens rows + 1 := by
  obtain ⟨h1, h2, h3⟩ := unw_head h
  obtain ⟨h4, h5⟩ := N.h e h1 h2
  have hl : home e < rows.length := by rw [V.len]; exact h5
  exact ⟨app_valid V h4 h5 h1 h2 (held_false h3 _ (row_mem h4 hl)), lens_app h4 hl⟩
theorem off_valid {rows : Rows} {s r e : Int} (N : Net L home n t) (V : Valid n t rows) (hL : L s r) (h : offer (row rows s) (row rows r) = some e) : (0 ≤ e ∧ e < t) ∧ held rows e = true ∧ Valid n t (app rows r e) ∧ lens (app rows r e) = lens rows + 1 := by
  obtain ⟨s1, s2, r1, r2, _⟩ := N.l s r hL
  obtain ⟨h1, h2⟩ := offer_some h
  have hs : row rows s ∈ rows := row_mem s1 (by rw [V.len]; exact s2)
  obtain ⟨h3, h4⟩ := V.rg _ hs e h1
  exact ⟨⟨h3, h4⟩, held_iff.mpr ⟨_, hs, h1⟩, app_valid V r1 r2 h3 h4 h2, lens_app r1 (by rw [V.len]; exact r2)⟩
theorem Run.valid {rows f : Rows} {tr : List Act} (a : Run L home t rows tr f) (N : Net L home n t) : Valid n t rows → Valid n t f ∧ lens f = lens rows + tr.length ∧ (∀ x ∈ tr, ActOk n t x) := by
  induction a with
  | done h h2 => intro V; exact ⟨V, by simp, fun _ hx => by cases hx⟩
  | @pull rows f s r e tr h h2 h3 ih =>
    intro V
    obtain ⟨he, _, V1, l1⟩ := off_valid N V h2.link h2.off
    obtain ⟨V2, l2, h4⟩ := ih V1
    obtain ⟨s1, s2, r1, r2, _⟩ := N.l _ _ h2.link
    refine ⟨V2, by rw [l2, l1, List.length_cons]; omega, fun x hx => ?_⟩
    rcases List.mem_cons.mp hx with e1 | hx
    · rw [e1]
      exact ⟨s1, s2, r1, r2, he⟩
    · exact h4 x hx
  | @write rows f e tr h h2 ih =>
    intro V
    obtain ⟨V1, l1⟩ := write_valid N V h
    obtain ⟨V2, l2, h4⟩ := ih V1
    obtain ⟨h5, h6, _⟩ := unw_head h
    refine ⟨V2, by rw [l2, l1, List.length_cons]; omega, fun x hx => ?_⟩
    rcases List.mem_cons.mp hx with e1 | hx
    · rw [e1]
      exact ⟨h5, h6⟩
    · exact h4 x hx
theorem Run.valid_take {rows f : Rows} {tr : List Act} (a : Run L home t rows tr f) (N : Net L home n t) : Valid n t rows → ∀ k, Valid n t (apAll home rows (tr.take k)) := by
  induction a with
  | done h h2 => intro V k; simpa [apAll] using V
  | pull h h2 h3 ih =>
    intro V k
    cases k with
    | zero => exact V
    | succ k => exact ih (off_valid N V h2.link h2.off).2.2.1 k
  | write h h2 ih =>
    intro V k
    cases k with
    | zero => exact V
    | succ k => exact ih (write_valid N V h).1 k
theorem Run.fin {rows f : Rows} {tr : List Act} (a : Run L home t rows tr f) : unw t f = [] ∧ Still L f := by
  induction a with
  | done h h2 => exact ⟨h, h2⟩
  | pull h h2 h3 ih => exact ih
  | write h h2 ih => exact ih
theorem unw_off {rows : Rows} {s r e : Int} (N : Net L home n t) (V : Valid n t rows) (hL : L s r) (h : offer (row rows s) (row rows r) = some e) (hu : unw t rows = []) : unw t (app rows r e) = [] := by
  obtain ⟨_, _, r1, r2, _⟩ := N.l _ _ hL
  rw [unw_app r1 (by rw [V.len]; exact r2), hu]
  rfl

theorem still_full {rows : Rows} (N : Net L home n t) (V : Valid n t rows) (h : n * t ≤ lens rows) : Still L rows := fun s r l => by
  obtain ⟨s1, s2, r1, r2, _⟩ := N.l s r l
  have hs : row rows s ∈ rows := row_mem s1 (by rw [V.len]; exact s2)
  have hr : row rows r ∈ rows := row_mem r1 (by rw [V.len]; exact r2)
  have e := sum_full (l := rows) (t := t) (fun q hq => row_len (V.nd q hq) (V.rg q hq)) (by rw [V.len]; exact h) _ hr
  refine offer_none.mpr fun x hx => ?_
  obtain ⟨x1, x2⟩ := V.rg _ hs x hx
  exact nodup_sub_all (m := ents t) (V.nd _ hr) (fun y hy => mem_ents.mpr (V.rg _ hr y hy)) (by rw [ents_len, e]; exact Nat.le_refl _) x (mem_ents.mpr ⟨x1, x2⟩)
theorem unw_first {rows : Rows} {i : Int} (h0 : 0 ≤ i) (h1 : i < t) (hh : ∀ e : Int, 0 ≤ e → e < i → held rows e = true) (hi : held rows i = false) : (unw t rows).head? = some i := by
  unfold unw
  rw [List.head?_filter, List.find?_eq_some_iff_getElem]
  refine ⟨by rw [hi]; rfl, i.toNat, by rw [ents_len]; omega, ?_, fun j hj => ?_⟩
  · have := ents_at (t := t) (i := i.toNat) (by omega)
    rw [List.getElem?_eq_getElem (by rw [ents_len]; omega)] at this
    rw [Option.some.inj this]
    omega
  · have hj2 : j < t := by omega
    have := ents_at (t := t) (i := j) hj2
    rw [List.getElem?_eq_getElem (by rw [ents_len]; exact hj2)] at this
    rw [Option.some.inj this, hh (j : Int) (by omega) (by omega)]
    rfl
/-! ### reachability -/
def Rch (L : Int → Int → Prop) (x y : Int) : Prop := ∀ S : Int → Prop, (∀ a b, L a b → S a → S b) → S x → S y
theorem Rch.refl (x : Int) : Rch L x x := fun _ _ h => h
theorem Rch.step {x y z : Int} (h : Rch L x y) (l : L y z) : Rch L x z := fun S hS hx => hS y z l (h S hS hx)
structure Strong (L : Int → Int → Prop) (n : Nat) : Prop where
  fwd : ∀ x : Int, 0 ≤ x → x < n → Rch L 0 x
  bwd : ∀ x : Int, 0 ≤ x → x < n → Rch (fun a b => L b a) 0 x
/-- settled logs on a strong net: every replica has every entry that some replica has -/
theorem full {f : Rows} (N : Net L home n t) (S : Strong L n) (V : Valid n t f) (hu : unw t f = []) (hs : Still L f) : ∀ r ∈ f, ∀ e : Int, 0 ≤ e → e < t → e ∈ r := by
  intro r hr e h1 h2
  obtain ⟨q, hq, he⟩ := held_iff.mp (unw_nil.mp hu e h1 h2)
  obtain ⟨i, hi, ei⟩ := List.getElem_of_mem hq
  obtain ⟨j, hj, ej⟩ := List.getElem_of_mem hr
  have rowi : ∀ (k : Nat) (hk : k < f.length), row f (k : Int) = f[k] := fun k hk => by
    unfold row
    rw [Int.toNat_natCast, List.getD_eq_getElem?_getD, List.getElem?_eq_getElem hk]
    rfl
  have step : ∀ a b, L a b → e ∈ row f a → e ∈ row f b := fun a b l h => offer_none.mp (hs a b l) e h
  have hi2 : e ∈ row f (i : Int) := by rw [rowi i hi, ei]; exact he
  have h0 : e ∈ row f 0 := by
    apply Classical.byContradiction
    intro hn
    exact S.bwd (i : Int) (by omega) (by rw [V.len] at hi; omega) (fun x => e ∉ row f x) (fun a b l ha hb => ha (step b a l hb)) hn hi2
  have hj2 : e ∈ row f (j : Int) := S.fwd (j : Int) (by omega) (by rw [V.len] at hj; omega) (fun x => e ∈ row f x) step h0
  rw [rowi j hj, ej] at hj2
  exact hj2
end
/-- what a search from 0 has found -/
structure Reached (L : Int → Int → Prop) (n : Nat) (met : List Int) : Prop where
  z : (0 : Int) ∈ met
  nd : met.Nodup
  rg : ∀ x ∈ met, 0 ≤ x ∧ x < n
  snd : ∀ x ∈ met, Rch L 0 x
  cl : ∀ x y, L x y → x ∈ met → y ∈ met
theorem Reached.all {L : Int → Int → Prop} {n : Nat} {met : List Int} (R : Reached L n met) : met.length = n ↔ ∀ x : Int, 0 ≤ x → x < n → Rch L 0 x := by
  have key : ∀ x, Rch L 0 x → x ∈ met := fun x h => h (fun y => y ∈ met) (fun a b l ha => R.cl a b l ha) R.z
  have hl := nodup_sub_len met (ents n) R.nd fun x hx => mem_ents.mpr (R.rg x hx)
  rw [ents_len] at hl
  constructor
  · intro e x h1 h2
    exact R.snd x (nodup_sub_all R.nd (fun x hx => mem_ents.mpr (R.rg x hx)) (by rw [ents_len, e]; exact Nat.le_refl _) x (mem_ents.mpr ⟨h1, h2⟩))
  · intro h
    have := nodup_sub_len (ents n) met (ents_nodup n) fun x hx => by
      obtain ⟨h1, h2⟩ := mem_ents.mp hx
      exact key x (h x h1 h2)
    rw [ents_len] at this
    omega

/-! ### faults -/
def okRow (t : Nat) (r : List Int) : Bool := decide r.Nodup && r.all fun e => decide (0 ≤ e) && decide (e < (t : Int))
theorem okRow_iff {t : Nat} {r : List Int} : okRow t r = true ↔ r.Nodup ∧ ∀ e ∈ r, 0 ≤ e ∧ e < (t : Int) := by
  simp [okRow, List.all_eq_true]
structure FirstBad (t : Nat) (rows : Rows) (i : Nat) : Prop where
  at_ : ∃ r, rows[i]? = some r ∧ okRow t r = false
  pre : ∀ (j : Nat) (r : List Int), j < i → rows[j]? = some r → okRow t r = true
theorem FirstBad.same {t : Nat} {rows : Rows} {i j : Nat} (a : FirstBad t rows i) (b : FirstBad t rows j) : i = j := by
  obtain ⟨r, h1, h2⟩ := a.at_
  obtain ⟨q, g1, g2⟩ := b.at_
  rcases Nat.lt_trichotomy i j with h | h | h
  · have := b.pre i r h h1
    rw [h2] at this
    cases this
  · exact h
  · have := a.pre j q h g1
    rw [g2] at this
    cases this
theorem valid_of {n t : Nat} {rows : Rows} (hl : rows.length = n) (h : ∀ r ∈ rows, okRow t r = true) : Valid n t rows :=
  ⟨hl, fun r hr => (okRow_iff.mp (h r hr)).1, fun r hr => (okRow_iff.mp (h r hr)).2⟩
theorem Valid.ok {n t : Nat} {rows : Rows} (V : Valid n t rows) : ∀ r ∈ rows, okRow t r = true := fun r hr => okRow_iff.mpr ⟨V.nd r hr, V.rg r hr⟩
theorem Valid.noBad {n t : Nat} {rows : Rows} (V : Valid n t rows) {i : Nat} (b : FirstBad t rows i) : False := by
  obtain ⟨r, h1, h2⟩ := b.at_
  have := V.ok r (List.mem_of_getElem? h1)
  rw [h2] at this
  cases this
theorem bad_or {t : Nat} {rows : Rows} : (∀ r ∈ rows, okRow t r = true) ∨ ∃ i, FirstBad t rows i := by
  induction rows with
  | nil => exact .inl fun r hr => by cases hr
  | cons a l ih =>
    cases e : okRow t a with
    | false => exact .inr ⟨0, ⟨a, rfl, e⟩, fun j r hj _ => absurd hj (Nat.not_lt_zero _)⟩
    | true =>
      rcases ih with h | ⟨i, h⟩
      · refine .inl fun r hr => ?_
        rcases List.mem_cons.mp hr with e1 | hr
        · rw [e1]
          exact e
        · exact h r hr
      · obtain ⟨r, h1, h2⟩ := h.at_
        refine .inr ⟨i + 1, ⟨r, h1, h2⟩, fun j q hj hq => ?_⟩
        cases j with
        | zero => rw [← Option.some.inj hq]; exact e
        | succ j => exact h.pre j q (Nat.lt_of_succ_lt_succ hj) hq
/-- the law's own look at an item -/
theorem bad_item {t : Nat} {r : List Int} : okRow t r = false ↔ ∃ e ∈ r, e < 0 ∨ (t : Int) ≤ e ∨ 1 < r.count e := by
  rw [← Bool.not_eq_true, okRow_iff]
  constructor
  · intro h
    apply Classical.byContradiction
    intro hn
    refine h ⟨?_, fun e he => ?_⟩
    · rw [List.nodup_iff_count]
      intro e
      by_cases he : e ∈ r
      · apply Classical.byContradiction
        intro hc
        exact hn ⟨e, he, .inr (.inr (by omega))⟩
      · rw [List.count_eq_zero_of_not_mem he]
        omega
    · apply Classical.byContradiction
      intro hc
      exact hn ⟨e, he, by omega⟩
  · rintro ⟨e, he, h1⟩ ⟨h2, h3⟩
    have h4 := h3 e he
    have h5 := (List.nodup_iff_count.mp h2) e
    omega
/-- the first link of a sorted list with an offer is the least one -/
theorem least_of {L : Int → Int → Prop} {rows : Rows} {ps : List (Int × Int)} (hs : ps.Pairwise Lex) (hL : ∀ s r, L s r ↔ (s, r) ∈ ps) {i : Nat} {s r e : Int} (hi : ps[i]? = some (s, r))
    (hn : ∀ (j : Nat) (s' r' : Int), j < i → ps[j]? = some (s', r') → offer (row rows s') (row rows r') = none) (he : offer (row rows s) (row rows r) = some e) : Least L rows s r e := by
  refine ⟨(hL s r).mpr (List.mem_of_getElem? hi), he, fun s' r' l ho => ?_⟩
  obtain ⟨j, hj, ej⟩ := List.getElem_of_mem ((hL s' r').mp l)
  obtain ⟨hi', ei⟩ := List.getElem?_eq_some_iff.mp hi
  rcases Nat.lt_trichotomy j i with h | h | h
  · exact absurd (hn j s' r' h (by rw [List.getElem?_eq_getElem hj, ej])) ho
  · subst h
    rw [ei] at ej
    cases ej
    exact .inr ⟨rfl, Int.le_refl _⟩
  · have := (List.pairwise_iff_getElem.mp hs) i j hi' hj h
    rw [ei, ej] at this
    exact this
end Ps

set_option maxHeartbeats 2000000
/-! PsBase: the text by places, what the heap holds, what stays, short rules. -/
namespace Ps
open PySem PySem.Spec PyProof.Rows L2

/-! ### the text -/
def top (i : Nat) : Stmt := PySem.Challenge.pw_pullstore_k23_whole_finishing.main.body.getD i (.Pass ⟨0, 0, 0, 0⟩)
abbrev dd (x : Str) (i : Nat) : He.DefD := ⟨(x, none), x, x, defArgs (top i), defBody (top i), defScope (top i), [], []⟩
abbrev dm (C m q : Str) (i j : Nat) : He.DefD := ⟨(C, some m), m, q, defArgs (inClass (top i) j), defBody (inClass (top i) j), defScope (inClass (top i) j), [], []⟩
/-- the defs of the top -/
def fnL : List He.DefD := [dd "copy_logs" 9, dd "check_logs" 10, dd "unwritten" 11, dd "_is_log" 12, dd "spread" 14, dd "is_strong" 15, dd "check_strong" 16, dd "offered" 19, dd "place_of" 20, dd "action_entry" 21, dd "appended" 22, dd "_append_to" 23,
  dd "_first_links" 25, dd "settle_from" 26, dd "finish_from" 28, dd "finish" 29, dd "finished_logs" 30, dd "_check_count" 33, dd "_is_below" 34, dd "_law_box" 38, dd "_law_draw" 39, dd "_law_order" 40, dd "_law_tree" 41, dd "_law_links" 42,
  dd "_law_reach" 43, dd "_law_strong" 44, dd "_law_same" 45, dd "_law_offer" 46, dd "_law_run" 47, dd "_law_bad" 48, dd "_law_spoil" 49, dd "_law_end" 50, dd "_law_rows" 51, dd "_law_told" 52, dd "_law_asked" 53, dd "_law_after" 54, dd "law" 55,
  dm "Net" "__init__" "Net.__init__" 32 1, dm "Cluster" "__init__" "Cluster.__init__" 36 1, dm "Cluster" "home_of" "Cluster.home_of" 36 3]
def frees : List Str := ["len", "list", "range", "enumerate", "set", "all", "sorted", "min", "abs", "int", "isinstance", "str", "bool", "tuple", "sum", "ValueError", "super"]
def glos : List Str := ["Net", "Cluster", "StoreError", "NotStrong", "InvalidLogs"]

/-! ### what stays -/
def NT (o : HO) : Prop := ∀ ps, o ≠ .tbl ps
theorem nt_lst {xs : List V} : NT (.lst xs) := fun _ z => nomatch z
theorem nt_tup {xs : List V} : NT (.tup xs) := fun _ z => nomatch z
theorem nt_ins {C dx : Addr} {fs : List (Str × V)} : NT (.ins C dx fs) := fun _ z => nomatch z
theorem nt_dK {kvs : List (Key × V)} : NT (.dK kvs) := fun _ z => nomatch z
/-- what was tracked at other places than m's stays; code tables stay code tables -/
structure Kp (m : List Addr) (H H' : Hp) : Prop where
  k : ∀ a o, H a = some o → a ∉ m → NT o → H' a = some o
  t : ∀ P, GxR.TabG H P → GxR.TabG H' P
  f : ∀ a, H' a = none → H a = none
theorem Kp.refl {m : List Addr} (H : Hp) : Kp m H H := ⟨fun _ _ h _ _ => h, fun _ h => h, fun _ h => h⟩
theorem Kp.trans {m : List Addr} {H H1 H2 : Hp} (a : Kp m H H1) (b : Kp m H1 H2) : Kp m H H2 := ⟨fun x o h n t => b.k x o (a.k x o h n t) n t, fun P h => b.t P (a.t P h), fun x h => a.f x (b.f x h)⟩
theorem Kp.mono {m m' : List Addr} {H H' : Hp} (e : Kp m H H') (h : ∀ a ∈ m, a ∈ m') : Kp m' H H' := ⟨fun x o q n t => e.k x o q (fun z => n (h x z)) t, e.t, e.f⟩
theorem Kp.up {m : List Addr} {H H' : Hp} (e : Kp [] H H') : Kp m H H' := e.mono fun _ h => absurd h (by simp)
theorem Kp.new {m : List Addr} {H : Hp} {p : Addr} {o : HO} (hp : H p = none) : Kp m H (upd H p o) :=
  ⟨fun a u h _ _ => by rw [upd_ne (ne_of_none h hp)]; exact h, fun P ⟨ps, h, t⟩ => ⟨ps, by rw [upd_ne (ne_of_none h hp)]; exact h, t⟩, fun a h => by
    by_cases ha : a = p
    · rw [ha]; exact hp
    · rw [upd_ne ha] at h; exact h⟩
theorem Kp.upf {H : Hp} {p a : Addr} {o : HO} (h : upd H p o a = none) : a ≠ p ∧ H a = none := by
  by_cases ha : a = p
  · rw [ha, upd_same] at h; cases h
  · rw [upd_ne ha] at h; exact ⟨ha, h⟩
/-- an object that H does not track is made or changed -/
theorem Kp.mut {m : List Addr} {H H' : Hp} {p : Addr} {o : HO} (e : Kp m H H') (hp : H p = none) : Kp m H (upd H' p o) :=
  ⟨fun a u h n t => by rw [upd_ne (ne_of_none h hp)]; exact e.k a u h n t, fun P h => by
    obtain ⟨ps, h1, t1⟩ := id h
    obtain ⟨ps', h2, t2⟩ := e.t P h
    exact ⟨ps', by rw [upd_ne (ne_of_none h1 hp)]; exact h2, t2⟩, fun a h => e.f a (Kp.upf h).2⟩
/-- an object of m is changed -/
theorem Kp.set {m : List Addr} {H H' : Hp} {p : Addr} {u o : HO} (e : Kp m H H') (hm : p ∈ m) (hu : H p = some u) (nt : NT u) : Kp m H (upd H' p o) :=
  ⟨fun a v h n t => by rw [upd_ne (fun z => n (by rw [z]; exact hm))]; exact e.k a v h n t, fun P h => by
    obtain ⟨ps, h1, t1⟩ := id h
    obtain ⟨ps', h2, t2⟩ := e.t P h
    refine ⟨ps', ?_, t2⟩
    rw [upd_ne (fun z => ?_)]
    · exact h2
    · rw [z, hu] at h1
      exact nt ps (Option.some.inj h1), fun a h => e.f a (Kp.upf h).2⟩
theorem Kp.same {m : List Addr} {H H' : Hp} (e : Same H H') (f : ∀ a, H' a = none → H a = none) : Kp m H H' := ⟨fun a o h _ _ => e a o h, fun P ⟨ps, h, t⟩ => ⟨ps, e _ _ h, t⟩, f⟩
theorem Kp.ne {m : List Addr} {H H' : Hp} {a p : Addr} {o : HO} (e : Kp m H H') (h : H a = some o) (hp : H' p = none) : a ≠ p := ne_of_none h (e.f p hp)
/-- forget the changes at what was not there -/
theorem Kp.drop {m m' : List Addr} {H H' : Hp} (e : Kp m H H') (h : ∀ a ∈ m, a ∈ m' ∨ H a = none) : Kp m' H H' :=
  ⟨fun a o q n t => e.k a o q (fun z => by
    rcases h a z with y | y
    · exact n y
    · rw [q] at y; cases y) t, e.t, e.f⟩
theorem sqK {K : PySem.W.Frag} {m : List Addr} {H H' : Hp} {a : Addr} {xs : List V} (e : Kp m H H') (n : a ∉ m) (h : SqL K H a xs) : SqL K H' a xs := by
  rcases h with (h | ⟨o, h⟩) | h
  · exact .inl (.inl (e.k _ _ h n nt_lst))
  · exact .inl (.inr ⟨o, e.k _ _ h n fun _ z => nomatch z⟩)
  · exact .inr h

/-! ### lists in the heap -/
def IL (H : Hp) (p : Addr) (ns : List Int) : Prop := H p = some (.lst (ns.map V.int))
/-- a list of objects: their addresses and what they are -/
structure SL {α : Type} (H : Hp) (p : Addr) (g : α → HO) (zs : List (Addr × α)) : Prop where
  at_ : H p = some (.lst (zs.map fun z => V.ref z.1))
  all : ∀ z ∈ zs, H z.1 = some (g z.2)
def gR (r : List Int) : HO := .lst (r.map V.int)
def gP (q : Int × Int) : HO := .tup [.int q.1, .int q.2]
def gA : Act → HO
  | .w e => .tup [.str "write", .int e]
  | .p s r e => .tup [.str "pull", .int s, .int r, .int e]
theorem nt_gR {r : List Int} : NT (gR r) := nt_lst
theorem nt_gP {q : Int × Int} : NT (gP q) := nt_tup
theorem nt_gA {q : Act} : NT (gA q) := by cases q <;> exact nt_tup
theorem IL.sq {K : PySem.W.Frag} {H : Hp} {p : Addr} {ns : List Int} (h : IL H p ns) : SqL K H p (ns.map V.int) := SqL.of h
theorem SL.sq {K : PySem.W.Frag} {α : Type} {g : α → HO} {H : Hp} {p : Addr} {zs : List (Addr × α)} (h : SL H p g zs) : SqL K H p (zs.map fun z => V.ref z.1) := SqL.of h.at_
theorem IL.kp {m : List Addr} {H H' : Hp} {p : Addr} {ns : List Int} (h : IL H p ns) (e : Kp m H H') (n : p ∉ m) : IL H' p ns := e.k _ _ h n nt_lst
theorem SL.kp {m : List Addr} {α : Type} {g : α → HO} {H H' : Hp} {p : Addr} {zs : List (Addr × α)} (h : SL H p g zs) (e : Kp m H H') (n : p ∉ m) (n2 : ∀ z ∈ zs, z.1 ∉ m) (nt : ∀ x, NT (g x)) : SL H' p g zs :=
  ⟨e.k _ _ h.at_ n nt_lst, fun z hz => e.k _ _ (h.all z hz) (n2 z hz) (nt _)⟩
theorem nil_not {a : Addr} : a ∉ ([] : List Addr) := fun h => nomatch h
theorem IL.kp0 {H H' : Hp} {p : Addr} {ns : List Int} (h : IL H p ns) (e : Kp [] H H') : IL H' p ns := h.kp e nil_not
theorem SL.kp0 {α : Type} {g : α → HO} {H H' : Hp} {p : Addr} {zs : List (Addr × α)} (h : SL H p g zs) (e : Kp [] H H') (nt : ∀ x, NT (g x)) : SL H' p g zs := h.kp e nil_not (fun _ _ => nil_not) nt
theorem il_ne {H : Hp} {a b : Addr} {ns : List Int} {x : Addr} {xs : List V} (h : IL H a ns) (hb : H b = some (.lst (.ref x :: xs))) : a ≠ b := fun z => by
  unfold IL at h
  rw [z, hb] at h
  injection h with h
  injection h with h
  cases ns with
  | nil => cases h
  | cons n ns => injection h with h _; cases h

/-! ### the box of draws: at b, its cells at c -/
structure Box (H : Hp) (b c : Addr) : Prop where
  ex : ∃ (cells : List Int) (at_ cy sd : Int), H b = some (.lst [.ref c, .int at_, .int cy, .int sd]) ∧ IL H c cells ∧ (∀ x ∈ cells, 0 ≤ x) ∧ 0 ≤ at_ ∧ 0 ≤ cy ∧ 0 ≤ sd ∧ sd < 2147483647
section
variable {H H' : Hp} {a b c p : Addr}
theorem Box.il {ns : List Int} (B : Box H b c) (h : IL H a ns) : a ∉ [b] := by
  obtain ⟨cells, at_, cy, sd, hb, _⟩ := B.ex
  exact fun z => il_ne h hb (List.mem_singleton.mp z)
theorem Box.tup {xs : List V} (B : Box H b c) (h : H a = some (.tup xs)) : a ∉ [b] := by
  obtain ⟨cells, at_, cy, sd, hb, _⟩ := B.ex
  intro z
  rw [List.mem_singleton.mp z, hb] at h
  cases h
theorem Box.ins {C dx : Addr} {fs : List (Str × V)} (B : Box H b c) (h : H a = some (.ins C dx fs)) : a ∉ [b] := by
  obtain ⟨cells, at_, cy, sd, hb, _⟩ := B.ex
  intro z
  rw [List.mem_singleton.mp z, hb] at h
  cases h
theorem Box.refs {as : List Addr} (B : Box H b c) (h : H a = some (.lst (as.map V.ref))) : a ∉ [b] := by
  obtain ⟨cells, at_, cy, sd, hb, _⟩ := B.ex
  intro z
  rw [List.mem_singleton.mp z, hb] at h
  injection h with h
  injection h with h
  match as, h with
  | [], h => cases h
  | [_], h => cases h
  | _ :: y :: _, h =>
    injection h with _ h
    injection h with h _
    cases h
theorem Box.sl {α : Type} {g : α → HO} {zs : List (Addr × α)} (B : Box H b c) (h : SL H a g zs) : a ∉ [b] :=
  B.refs (as := zs.map (·.1)) (by rw [List.map_map]; exact h.at_)
theorem Box.nb (B : Box H b c) (h : H p = none) : b ≠ p := by
  obtain ⟨cells, at_, cy, sd, hb, _⟩ := B.ex
  exact ne_of_none hb h
theorem Box.nc (B : Box H b c) (h : H p = none) : c ≠ p := by
  obtain ⟨cells, at_, cy, sd, _, hc, _⟩ := B.ex
  exact ne_of_none hc h
theorem Box.new (B : Box H b c) (h : H p = none) : p ∉ [b] := fun z => B.nb h (List.mem_singleton.mp z).symm
theorem Box.kp {m : List Addr} (B : Box H b c) (e : Kp m H H') (h1 : b ∉ m) (h2 : c ∉ m) : Box H' b c := by
  obtain ⟨cells, at_, cy, sd, hb, hc, r⟩ := B.ex
  exact ⟨cells, at_, cy, sd, e.k _ _ hb h1 nt_lst, hc.kp e h2, r⟩
theorem Box.kp0 (B : Box H b c) (e : Kp [] H H') : Box H' b c := B.kp e nil_not nil_not
theorem Box.up (B : Box H b c) {o : HO} (h1 : b ≠ p) (h2 : c ≠ p) : Box (upd H p o) b c := by
  obtain ⟨cells, at_, cy, sd, hb, hc, r⟩ := B.ex
  exact ⟨cells, at_, cy, sd, by rw [upd_ne h1]; exact hb, by show upd _ _ _ _ = _; rw [upd_ne h2]; exact hc, r⟩
theorem Box.upN (B : Box H b c) {o : HO} (h : H p = none) : Box (upd H p o) b c := B.up (B.nb h) (B.nc h)
theorem IL.box {ns : List Int} (h : IL H p ns) (B : Box H b c) (e : Kp [b] H H') : IL H' p ns := h.kp e (B.il h)
theorem SL.boxR {zs : List (Addr × List Int)} (h : SL H p gR zs) (B : Box H b c) (e : Kp [b] H H') : SL H' p gR zs := h.kp e (B.sl h) (fun z hz => B.il (h.all z hz)) fun _ => nt_gR
theorem SL.boxP {zs : List (Addr × Int × Int)} (h : SL H p gP zs) (B : Box H b c) (e : Kp [b] H H') : SL H' p gP zs := h.kp e (B.sl h) (fun z hz => B.tup (h.all z hz)) fun _ => nt_gP
theorem IL.up {ns : List Int} {o : HO} (h : IL H p ns) (n : p ≠ a) : IL (upd H a o) p ns := by
  show upd _ _ _ _ = _
  rw [upd_ne n]
  exact h
theorem IL.upN {ns : List Int} {o : HO} (h : IL H p ns) (n : H a = none) : IL (upd H a o) p ns := h.up (ne_of_none h n)
theorem IL.self {ns : List Int} : IL (upd H p (.lst (ns.map V.int))) p ns := upd_same
theorem SL.upN {α : Type} {g : α → HO} {zs : List (Addr × α)} {o : HO} (h : SL H p g zs) (n : H a = none) : SL (upd H a o) p g zs :=
  ⟨by rw [upd_ne (ne_of_none h.at_ n)]; exact h.at_, fun z hz => by rw [upd_ne (ne_of_none (h.all z hz) n)]; exact h.all z hz⟩
theorem SL.up {α : Type} {g : α → HO} {zs : List (Addr × α)} {o : HO} (h : SL H p g zs) (n : p ≠ a) (n2 : ∀ z ∈ zs, z.1 ≠ a) : SL (upd H a o) p g zs :=
  ⟨by rw [upd_ne n]; exact h.at_, fun z hz => by rw [upd_ne (n2 z hz)]; exact h.all z hz⟩
theorem SL.nil {α : Type} {g : α → HO} : SL (upd H p (.lst [])) p g ([] : List (Addr × α)) := ⟨upd_same, fun _ h => nomatch h⟩
/-- a new object is put at the end -/
theorem SL.snoc {α : Type} {g : α → HO} {zs : List (Addr × α)} {t : Addr} {x : α} (h : SL H p g zs) (ht : H t = none) (np : ∀ z ∈ zs, z.1 ≠ p) :
    SL (upd (upd H t (g x)) p (.lst ((zs.map fun z => V.ref z.1) ++ [.ref t]))) p g (zs ++ [(t, x)]) := by
  refine ⟨by rw [upd_same, List.map_append]; rfl, fun z hz => ?_⟩
  rcases List.mem_append.mp hz with hz | hz
  · rw [upd_ne (np z hz), upd_ne (ne_of_none (h.all z hz) ht)]
    exact h.all z hz
  · rw [List.mem_singleton.mp hz]
    show upd _ _ _ t = _
    rw [upd_ne (ne_of_none h.at_ ht).symm, upd_same]
/-- a tracked object is put at the end -/
theorem SL.snoc' {α : Type} {g : α → HO} {zs : List (Addr × α)} {t : Addr} {x : α} (h : SL H p g zs) (ht : H t = some (g x)) (htp : t ≠ p) (np : ∀ z ∈ zs, z.1 ≠ p) :
    SL (upd H p (.lst ((zs.map fun z => V.ref z.1) ++ [.ref t]))) p g (zs ++ [(t, x)]) := by
  refine ⟨by rw [upd_same, List.map_append]; rfl, fun z hz => ?_⟩
  rcases List.mem_append.mp hz with hz | hz
  · rw [upd_ne (np z hz)]
    exact h.all z hz
  · rw [List.mem_singleton.mp hz]
    show upd _ _ _ t = _
    rw [upd_ne htp]
    exact ht
theorem SL.npP {zs : List (Addr × Int × Int)} (h : SL H p gP zs) : ∀ z ∈ zs, z.1 ≠ p := fun z hz e => by
  have h1 := h.all z hz
  rw [e, h.at_] at h1
  cases h1
theorem SL.npA {zs : List (Addr × Act)} (h : SL H p gA zs) : ∀ z ∈ zs, z.1 ≠ p := fun z hz e => by
  have h1 := h.all z hz
  rw [e, h.at_] at h1
  revert h1
  cases z.2 <;> (intro h1; cases h1)
end
theorem map_eraseIdx {α β : Type} (f : α → β) : ∀ (l : List α) (i : Nat), (l.map f).eraseIdx i = (l.eraseIdx i).map f
  | [], _ => rfl
  | _ :: _, 0 => rfl
  | a :: l, i + 1 => by
    show f a :: (l.map f).eraseIdx i = f a :: (l.eraseIdx i).map f
    rw [map_eraseIdx f l i]
theorem map_int_at {ns : List Int} {i : Nat} {y : V} (h : (ns.map V.int)[i]? = some y) : ∃ x, ns[i]? = some x ∧ y = V.int x := by
  rw [List.getElem?_map] at h
  cases e : ns[i]? with
  | none => rw [e] at h; cases h
  | some x => rw [e] at h; exact ⟨x, rfl, (Option.some.inj h).symm⟩
theorem map_ref_at {α : Type} {zs : List (Addr × α)} {i : Nat} {y : V} (h : (zs.map fun z => V.ref z.1)[i]? = some y) : ∃ z, zs[i]? = some z ∧ y = V.ref z.1 := by
  rw [List.getElem?_map] at h
  cases e : zs[i]? with
  | none => rw [e] at h; cases h
  | some x => rw [e] at h; exact ⟨x, rfl, (Option.some.inj h).symm⟩
theorem at_int {ns : List Int} {z x : Int} (h0 : 0 ≤ z) (h : ns[z.toNat]? = some x) : atI (ns.map V.int) z = some (V.int x) := by
  have : (ns.map V.int)[z.toNat]? = some (V.int x) := by rw [List.getElem?_map, h]; rfl
  have := atI_nat this
  rwa [Int.toNat_of_nonneg h0] at this
theorem at_ref {α : Type} {zs : List (Addr × α)} {z : Int} {x : Addr × α} (h0 : 0 ≤ z) (h : zs[z.toNat]? = some x) : atI (zs.map fun z => V.ref z.1) z = some (V.ref x.1) := by
  have : (zs.map fun z => V.ref z.1)[z.toNat]? = some (V.ref x.1) := by rw [List.getElem?_map, h]; rfl
  have := atI_nat this
  rwa [Int.toNat_of_nonneg h0] at this

/-! ### defs -/
/-- the def of the module's name x keeps the promise sp -/
structure Def (P : Program) (w : World) (K : PySem.W.Frag) (mg : Str → Option Value) (base : Heap) (CX : CXT) (k : Nat) (x : Str) (ps : List Str) (sp : Sp) : Prop where
  ex : ∃ (f : Addr) (fd : FuncData), FnOk P w K mg base CX k f fd ps sp ∧ mg x = some (.ref f) ∧ PySem.W.keepIn K (.ref f) = true ∧ Binds K fd ps []
/-- what the top has left -/
structure Txt (K : PySem.W.Frag) (mg : Str → Option Value) : Prop where
  d : ∀ (i : Nat) (d : He.DefD), fnL[i]? = some d → ∃ fd, FunD K d.name d.qual d.params d.body d.scope (d.dvs K) (d.kws K) (He.fAd K d.at_) fd
  g : ∀ (i : Nat) (d : He.DefD), fnL[i]? = some d → d.at_.2 = none → mg d.at_.1 = some (.ref (He.fAd K d.at_))
  n : ∀ (i : Nat) (x : Str), frees[i]? = some x → mg x = none
section
variable {P : Program} {w : World} {K : PySem.W.Frag} {mg : Str → Option Value} {base : Heap}
/-- a def that lets no exception out -/
theorem Txt.def0 {x : Str} {i j k : Nat} {N ps : List Str} {sp : Sp} (T : Txt K mg) (h : fnL[j]? = some (dd x i)) (S : FnScope N ps (defScope (top i))) (len : ∀ vs H Q E, sp vs H Q E → vs.length = ps.length)
    (b : ∀ (kV doc pm : Value) (an : Option Addr) (cdv ct : Value) (us : List Value), us.length = ps.length → bindArgs (PySem.W.fnOf x x (defArgs (top i)) (defBody (top i)) (defScope (top i)) .none kV doc pm an cdv ct) ⟨us, []⟩ = pure (ps.zip us))
    (body : ∀ (f : Addr) (cdv : Value) (A : Around) (outer : List Env) (s : Shared) (H : Hp) (vs : List V) (Q : VK) (E : XK), Room k (A.deeper (envOfC x (defScope (top i)) s.heap.objs.size f cdv)) → sp vs H Q E →
      ∃ t, PSs (cxOf CX0 P w K mg base N x (defScope (top i)) f cdv A outer s H E).nox (defBody (top i)) t ∧ t { nx := fun _ H' => Q .non H', rt := Q } (start N vs) H) : Def P w K mg base CX0 (k + 1) x ps sp := by
  obtain ⟨fd, F⟩ := T.d j _ h
  have hm := T.g j _ h rfl
  have B : Binds K fd ps [] := FunD.bindsN F b
  exact ⟨He.fAd K (x, none), fd, FunD.ok F S len fun cdv A outer s H vs Q E hr hs => by
    obtain ⟨t, h1, h2⟩ := body _ cdv A outer s H vs Q E hr hs
    exact ⟨t, h1.nox, h2⟩, hm, F.kp, B⟩
end
section
variable {X : Cx} {e : Expr} {es : List Expr} {x : Str} {k : Nat} {ps : List Str} {sp : Sp} {t : TA} {p pos : Pos}
theorem pe_fn (D : Def X.prog X.w X.K X.mg X.base CX0 k x ps sp) (hr : Room k X.A) (ha : PA X (e :: es) t) (hg : Gl X x := by rfl) (hdb : (x == ("__debug__" : Str)) = false := by decide)
    (he : starEach (e :: es) X.env = (false, eval e X.env) :: starEach es X.env := by rfl) (hpl : (backTo pos (starEach es X.env)).any (·.1) = false := by rfl) :
    PE X (.Call (.Name x p) (e :: es) [] pos) (tCall sp [] E0 t) := by
  obtain ⟨f, fd, F, hm, hk, hb⟩ := D.ex
  exact pe_call F hr hg hm hk hb .nil pass0 ha hdb he hpl
end
theorem u65 {k : Nat} {A : Around} (r : Room k A) : A.units + 65 < cLine := by have := r.un; omega
/-- the tests' ends -/
theorem iteB {c : Bool} {A B : Prop} (h1 : c = true → A) (h2 : c = false → B) : if c = true then A else B := by
  cases c with
  | true => exact h1 rfl
  | false => exact h2 rfl
theorem iteD {p : Prop} [Decidable p] {A B : Prop} (h1 : p → A) (h2 : ¬ p → B) : if decide p = true then A else B := by
  by_cases h : p
  · rw [decide_eq_true h]; exact h1 h
  · rw [decide_eq_false h]; exact h2 h
theorem iteN {p : Prop} [Decidable p] {A B : Prop} (h1 : ¬ p → A) (h2 : p → B) : if (!decide p) = true then A else B := by
  by_cases h : p
  · rw [decide_eq_true h]; exact h2 h
  · rw [decide_eq_false h]; exact h1 h
/-- a comprehension without a test -/
theorem yesT {σ : L2.St} {H : Hp} {A B : Hp → Prop} (h : A H) : tYes σ H fun b H3 => if b = true then A H3 else B H3 := by
  show (if true = true then A H else B H)
  rw [if_pos rfl]
  exact h
theorem small {n : Nat} (h : n ≤ 100000) : n < sizeLine := Nat.lt_of_le_of_lt h (by decide)
theorem smallE {n : Nat} (h : n ≤ 100000) : n ≤ sizeLine := Nat.le_of_lt (small h)
theorem atI_int {α : Type} {xs : List α} {z : Int} {v : α} (h0 : 0 ≤ z) (h : xs[z.toNat]? = some v) : atI xs z = some v := by
  have := atI_nat h
  rwa [Int.toNat_of_nonneg h0] at this
theorem ixN_int {n : Nat} {z : Int} (h0 : 0 ≤ z) (h : z < n) : ixN n z = some z.toNat := by
  unfold ixN
  rw [if_pos h0, if_pos h]
end Ps

set_option maxHeartbeats 4000000
/-! PsData: lists as data of any depth; tests whose answer does not matter. -/
namespace Ps
open PySem PySem.Spec PyProof.Rows L2

theorem all_flat (ns : List Int) : (ns.map V.int).all flatV = true := by
  rw [List.all_map, List.all_eq_true]
  intro _ _
  rfl
theorem inV_int (x : Int) (ns : List Int) : inV (.int x) (ns.map V.int) = ns.contains x := by
  unfold inV
  rw [List.any_map]
  induction ns with
  | nil => rfl
  | cons y ns ih =>
    rw [List.any_cons, List.contains_cons, ih]
    have e : (x == y) = (y == x) := by
      by_cases h : x = y
      · rw [h]
      · rw [beq_eq_false_iff_ne.mpr h, beq_eq_false_iff_ne.mpr (Ne.symm h)]
    rw [e]
    rfl
/-! ### data -/
def dI (ns : List Int) : PyData := .list (ns.map PyData.int)
def dR (rows : Rows) : PyData := .list (rows.map dI)
def dP (q : Int × Int) : PyData := .tuple [.int q.1, .int q.2]
def dPs (ps : List (Int × Int)) : PyData := .list (ps.map dP)
def dA : Act → PyData
  | .w e => .tuple [.str "write", .int e]
  | .p s r e => .tuple [.str "pull", .int s, .int r, .int e]
def dT (tr : List Act) : PyData := .list (tr.map dA)
theorem canAll : ∀ {ds : List PyData}, (∀ d ∈ ds, d.canLay0 = true) → PyData.canLayAll0 ds = true
  | [], _ => rfl
  | d :: ds, h => by
    rw [PyData.canLayAll0, h d (List.mem_cons_self ..), canAll fun x hx => h x (List.mem_cons_of_mem _ hx)]
    rfl
theorem depAll : ∀ {ds : List PyData} {k : Nat}, (∀ d ∈ ds, d.depth ≤ k) → PyData.depthAll ds ≤ k
  | [], _, _ => by rw [PyData.depthAll]; exact Nat.zero_le _
  | d :: ds, k, h => by
    rw [PyData.depthAll]
    exact Nat.max_le.mpr ⟨h d (List.mem_cons_self ..), depAll fun x hx => h x (List.mem_cons_of_mem _ hx)⟩
structure Nice (k : Nat) (d : PyData) : Prop where
  can : d.canLay0 = true
  dep : d.depth ≤ k
theorem Nice.int (i : Int) : Nice 0 (.int i) := ⟨by rw [PyData.canLay0], by rw [PyData.depth]; exact Nat.le_refl _⟩
theorem Nice.non : Nice 0 .none := ⟨by rw [PyData.canLay0], by rw [PyData.depth]; exact Nat.le_refl _⟩
theorem Nice.str {x : Str} (h : PyData.strOk x = true) : Nice 0 (.str x) := ⟨by rw [PyData.canLay0]; exact h, by rw [PyData.depth]; exact Nat.le_refl _⟩
theorem Nice.list {k : Nat} {ds : List PyData} (h : ∀ d ∈ ds, Nice k d) : Nice (k + 1) (.list ds) :=
  ⟨by rw [PyData.canLay0]; exact canAll fun d hd => (h d hd).can, by rw [PyData.depth]; exact Nat.succ_le_succ (depAll fun d hd => (h d hd).dep)⟩
theorem Nice.tuple {k : Nat} {ds : List PyData} (h : ∀ d ∈ ds, Nice k d) : Nice (k + 1) (.tuple ds) :=
  ⟨by rw [PyData.canLay0]; exact canAll fun d hd => (h d hd).can, by rw [PyData.depth]; exact Nat.succ_le_succ (depAll fun d hd => (h d hd).dep)⟩
theorem Nice.mono {j k : Nat} {d : PyData} (h : Nice j d) (e : j ≤ k) : Nice k d := ⟨h.can, Nat.le_trans h.dep e⟩
theorem Nice.shaped {k : Nat} {d : PyData} (h : Nice k d) (hk : k ≤ 64) : SeqAt.shaped d = true := by
  unfold SeqAt.shaped
  rw [h.can, decide_eq_true (Nat.le_trans h.dep hk)]
  rfl
theorem Nice.refl {k : Nat} {d : PyData} (h : Nice k d) : PyData.eqv d d = true := PySem.SeqAt.eqv_refl d h.can
theorem nice_dI (ns : List Int) : Nice 1 (dI ns) := Nice.list fun d hd => by
  obtain ⟨i, _, rfl⟩ := List.mem_map.mp hd
  exact Nice.int i
theorem nice_dR (rows : Rows) : Nice 2 (dR rows) := Nice.list fun d hd => by
  obtain ⟨i, _, rfl⟩ := List.mem_map.mp hd
  exact nice_dI i
theorem nice_dP (q : Int × Int) : Nice 1 (dP q) := Nice.tuple fun d hd => by
  rcases List.mem_cons.mp hd with rfl | hd
  · exact Nice.int _
  · rw [List.mem_singleton.mp hd]
    exact Nice.int _
theorem nice_dPs (ps : List (Int × Int)) : Nice 2 (dPs ps) := Nice.list fun d hd => by
  obtain ⟨i, _, rfl⟩ := List.mem_map.mp hd
  exact nice_dP i
theorem nice_dA : ∀ a : Act, Nice 1 (dA a)
  | .w e => Nice.tuple fun d hd => by
    rcases List.mem_cons.mp hd with rfl | hd
    · exact Nice.str (by decide +kernel)
    · rw [List.mem_singleton.mp hd]
      exact Nice.int _
  | .p s r e => Nice.tuple fun d hd => by
    rcases List.mem_cons.mp hd with rfl | hd
    · exact Nice.str (by decide +kernel)
    · rcases List.mem_cons.mp hd with rfl | hd
      · exact Nice.int _
      · rcases List.mem_cons.mp hd with rfl | hd
        · exact Nice.int _
        · rw [List.mem_singleton.mp hd]
          exact Nice.int _
theorem nice_dT (tr : List Act) : Nice 2 (dT tr) := Nice.list fun d hd => by
  obtain ⟨i, _, rfl⟩ := List.mem_map.mp hd
  exact nice_dA i
section
variable {K : PySem.W.Frag} {H : Hp}
theorem dp_ints : ∀ ns : List Int, DpAll K H (ns.map V.int) (ns.map PyData.int)
  | [] => .nil
  | n :: ns => .cons (.int n) (dp_ints ns)
theorem dp_I {p : Addr} {ns : List Int} (h : IL H p ns) : Dp K H (.ref p) (dI ns) := .lst (SqL.of h) (dp_ints ns)
theorem dp_all {α : Type} {f : α → PyData} : ∀ {zs : List (Addr × α)}, (∀ z ∈ zs, Dp K H (.ref z.1) (f z.2)) → DpAll K H (zs.map fun z => V.ref z.1) (zs.map fun z => f z.2)
  | [], _ => .nil
  | z :: zs, h => .cons (h z (List.mem_cons_self ..)) (dp_all fun x hx => h x (List.mem_cons_of_mem _ hx))
theorem map_snd {α β : Type} (f : α → β) (zs : List (Addr × α)) : (zs.map fun z => f z.2) = (zs.map (·.2)).map f := by
  rw [List.map_map]
  rfl
theorem dp_R {p : Addr} {zs : List (Addr × List Int)} (h : SL H p gR zs) : Dp K H (.ref p) (dR (zs.map (·.2))) := by
  unfold dR
  rw [← map_snd]
  exact .lst (SqL.of h.at_) (dp_all fun z hz => dp_I (h.all z hz))
theorem dp_P {t : Addr} {q : Int × Int} (h : H t = some (gP q)) : Dp K H (.ref t) (dP q) := .tup (SqT.of h) (.cons (.int _) (.cons (.int _) .nil))
theorem dp_Ps {p : Addr} {zs : List (Addr × Int × Int)} (h : SL H p gP zs) : Dp K H (.ref p) (dPs (zs.map (·.2))) := by
  unfold dPs
  rw [← map_snd]
  exact .lst (SqL.of h.at_) (dp_all fun z hz => dp_P (h.all z hz))
theorem dp_A {t : Addr} : ∀ {a : Act}, H t = some (gA a) → Dp K H (.ref t) (dA a)
  | .w e, h => .tup (SqT.of h) (.cons (.str _) (.cons (.int _) .nil))
  | .p s r e, h => .tup (SqT.of h) (.cons (.str _) (.cons (.int _) (.cons (.int _) (.cons (.int _) .nil))))
theorem dp_T {p : Addr} {zs : List (Addr × Act)} (h : SL H p gA zs) : Dp K H (.ref p) (dT (zs.map (·.2))) := by
  unfold dT
  rw [← map_snd]
  exact .lst (SqL.of h.at_) (dp_all fun z hz => dp_A (h.all z hz))
end
theorem eqv_ints : ∀ a b : List Int, PyData.eqvAll (a.map PyData.int) (b.map PyData.int) = decide (a = b)
  | [], [] => by rw [List.map_nil, PyData.eqvAll]; rfl
  | [], _ :: _ => by rw [List.map_nil, List.map_cons, PyData.eqvAll]; rfl
  | _ :: _, [] => by rw [List.map_nil, List.map_cons, PyData.eqvAll]; rfl
  | x :: xs, y :: ys => by
    rw [List.map_cons, List.map_cons, PyData.eqvAll, PyData.eqv, eqv_ints xs ys]
    by_cases h : x = y
    · subst h
      by_cases h2 : xs = ys
      · subst h2
        simp
      · rw [decide_eq_false h2, decide_eq_false (fun e => h2 (List.cons.inj e).2), Bool.and_false]
    · rw [beq_eq_false_iff_ne.mpr h, decide_eq_false (fun e => h (List.cons.inj e).1), Bool.false_and]
theorem eqv_dI (a b : List Int) : PyData.eqv (dI a) (dI b) = decide (a = b) := by
  unfold dI
  rw [PyData.eqv]
  exact eqv_ints a b

/-! ### a test with an answer that does not matter -/
def AnyT (t : TT) (σ : L2.St) (H : Hp) : Prop := ∀ Q : Bool → Hp → Prop, (∀ b, Q b H) → t σ H Q
section
variable {σ : L2.St} {H : Hp} {t u : TT} {ta tb : TE} {x y : V} {D : Ends} {t1 t2 : TS}
theorem any_eq (ha : L2.Val ta σ H x) (hb : L2.Val tb σ H y) (hs : scal x y = true) : AnyT (tTest (tOp rEq ta tb)) σ H := fun Q q => ha _ (hb _ ⟨hs, _, rfl, q _⟩)
theorem any_or (h : AnyT t σ H) (g : AnyT u σ H) : AnyT (tOr t u) σ H := fun Q q => h _ fun b => by
  cases b with
  | true => exact q true
  | false => exact g _ q
theorem any_and (h : AnyT t σ H) (g : AnyT u σ H) : AnyT (tAnd t u) σ H := fun Q q => h _ fun b => by
  cases b with
  | true => exact g _ q
  | false => exact q false
theorem if_any (h : AnyT t σ H) (h1 : t1 D σ H) (h2 : t2 D σ H) : tIfS t t1 t2 D σ H := h _ fun b => by
  cases b with
  | true => exact h1
  | false => exact h2
/-- .. and what it leaves -/
def TW (t : TT) (σ : L2.St) (H : Hp) (R : Hp → Prop) : Prop := ∀ Q : Bool → Hp → Prop, (∀ b H', R H' → Q b H') → t σ H Q
variable {R : Hp → Prop}
theorem tw_any (h : AnyT t σ H) (r : R H) : TW t σ H R := fun Q q => h _ fun b => q b _ r
theorem tw_or (h : TW t σ H R) (g : ∀ H', R H' → TW u σ H' R) : TW (tOr t u) σ H R := fun Q q => h _ fun b H' r => by
  cases b with
  | true => exact q true _ r
  | false => exact g _ r _ q
theorem tw_and (h : TW t σ H R) (g : ∀ H', R H' → TW u σ H' R) : TW (tAnd t u) σ H R := fun Q q => h _ fun b H' r => by
  cases b with
  | true => exact g _ r _ q
  | false => exact q false _ r
theorem if_tw (h : TW t σ H R) (h1 : ∀ H', R H' → t1 D σ H') (h2 : ∀ H', R H' → t2 D σ H') : tIfS t t1 t2 D σ H := h _ fun b H' r => by
  cases b with
  | true => exact h1 _ r
  | false => exact h2 _ r
theorem any_eqi {i : Nat} {k n : Int} (h : σ[i]? = some (some (.int k))) : AnyT (tTest (tOp rEq (tVar i) (tC (.int n)))) σ H := any_eq (L2.val_var h) L2.val_c rfl
end
end Ps

set_option maxHeartbeats 4000000
/-! PsLogs: logs in the heap: read, copied, changed. -/
namespace Ps
open PySem PySem.Spec PyProof.Rows L2

def LinkOk (n : Int) (q : Int × Int) : Prop := 0 ≤ q.1 ∧ q.1 < n ∧ 0 ≤ q.2 ∧ q.2 < n ∧ q.1 ≠ q.2
theorem rgV_ents {n : Int} : rgV 0 n = (ents n.toNat).map V.int := by
  unfold rgV ents
  rw [List.map_map, show (n - 0).toNat = n.toNat by omega]
  congr 1
  funext i
  show V.int (0 + (i : Int)) = V.int (i : Int)
  rw [Int.zero_add]
theorem SL.npR {H : Hp} {p : Addr} {zs : List (Addr × List Int)} (h : SL H p gR zs) : ∀ z ∈ zs, z.1 ≠ p := fun z hz e => by
  have h1 := h.all z hz
  rw [e, h.at_] at h1
  injection h1 with h1
  have h2 : (zs.map fun z => V.ref z.1) = z.2.map V.int := by injection h1
  cases zs with
  | nil => cases hz
  | cons a zs =>
    rw [List.map_cons] at h2
    cases q : z.2 with
    | nil => rw [q] at h2; cases h2
    | cons n ns => rw [q, List.map_cons] at h2; injection h2 with h2 _; cases h2
theorem SL.setAt {H : Hp} {p : Addr} {zs : List (Addr × List Int)} {i : Nat} {z : Addr × List Int} {r : List Int} (h : SL H p gR zs) (hi : zs[i]? = some z) (nd : (zs.map (·.1)).Nodup) : SL (upd H z.1 (gR r)) p gR (zs.set i (z.1, r)) := by
  have hz : z ∈ zs := List.mem_of_getElem? hi
  have hl : i < zs.length := (List.getElem?_eq_some_iff.mp hi).1
  refine ⟨?_, fun y hy => ?_⟩
  · rw [upd_ne (h.npR z hz).symm, h.at_]
    congr 2
    apply List.ext_getElem?
    intro j
    rw [List.getElem?_map, List.getElem?_map]
    by_cases hj : i = j
    · subst hj
      rw [List.getElem?_set_self hl, hi]
      rfl
    · rw [List.getElem?_set_ne hj]
  · obtain ⟨j, hj, e⟩ := List.getElem_of_mem hy
    have e' : (zs.set i (z.1, r))[j]? = some y := by rw [List.getElem?_eq_getElem hj, e]
    by_cases hij : i = j
    · subst hij
      rw [List.getElem?_set_self hl] at e'
      have ey := Option.some.inj e'
      rw [← ey]
      exact upd_same
    · rw [List.getElem?_set_ne hij] at e'
      have hy' : y ∈ zs := List.mem_of_getElem? e'
      rw [upd_ne]
      · exact h.all y hy'
      · intro q
        have h1 : (zs.map (·.1))[i]? = some z.1 := by rw [List.getElem?_map, hi]; rfl
        have h2 : (zs.map (·.1))[j]? = some z.1 := by rw [List.getElem?_map, e', ← q]; rfl
        exact hij (nd_ix nd h1 h2)
/-- logs at p that are new since H0: they may be changed -/
structure Lg (H0 H : Hp) (p : Addr) (rows : Rows) : Prop where
  new : H0 p = none
  ex : ∃ zs : List (Addr × List Int), SL H p gR zs ∧ (zs.map (·.1)).Nodup ∧ zs.map (·.2) = rows ∧ ∀ z ∈ zs, H0 z.1 = none
section
variable {H0 H H' : Hp} {p : Addr} {rows : Rows} {m : List Addr}
theorem Lg.kp (h : Lg H0 H p rows) (e : Kp m H H') (hm : ∀ a ∈ m, H0 a ≠ none) : Lg H0 H' p rows := by
  obtain ⟨zs, h1, h2, h3, h4⟩ := h.ex
  exact ⟨h.new, zs, h1.kp e (fun z => hm p z h.new) (fun z hz q => hm z.1 q (h4 z hz)) (fun _ => nt_gR), h2, h3, h4⟩
theorem Lg.kp0 (h : Lg H0 H p rows) (e : Kp [] H H') : Lg H0 H' p rows := h.kp e fun _ z => nomatch z
theorem Lg.box {b c : Addr} (h : Lg H0 H p rows) (B : Box H0 b c) (e : Kp [b] H H') : Lg H0 H' p rows := h.kp e fun a ha => by
  rw [List.mem_singleton.mp ha]
  obtain ⟨cells, at_, cy, sd, hb, _⟩ := B.ex
  rw [hb]
  exact fun z => nomatch z
/-- the logs stand apart from a new object -/
theorem Lg.excl {t : Addr} {o o' : HO} (h : Lg H0 H p rows) (ht : H t = none) : Lg (upd H0 t o) (upd H t o') p rows := by
  obtain ⟨zs, h1, h2, h3, h4⟩ := h.ex
  exact ⟨by rw [upd_ne (ne_of_none h1.at_ ht)]; exact h.new, zs, h1.upN ht, h2, h3, fun z hz => by rw [upd_ne (ne_of_none (h1.all z hz) ht)]; exact h4 z hz⟩
theorem Lg.sl (h : Lg H0 H p rows) : ∃ zs : List (Addr × List Int), SL H p gR zs ∧ zs.map (·.2) = rows := by
  obtain ⟨zs, h1, h2, h3, h4⟩ := h.ex
  exact ⟨zs, h1, h3⟩
theorem Lg.back {m : List Addr} {H00 : Hp} (h : Lg H0 H p rows) (e : Kp m H00 H0) : Lg H00 H p rows := by
  obtain ⟨zs, h1, h2, h3, h4⟩ := h.ex
  exact ⟨e.f p h.new, zs, h1, h2, h3, fun z hz => e.f _ (h4 z hz)⟩
/-- the row at a place is read -/
theorem sl_row {zs : List (Addr × List Int)} (h : SL H p gR zs) (e : zs.map (·.2) = rows) {r : Int} (h0 : 0 ≤ r) (h1 : r < rows.length) : ∃ z, zs[r.toNat]? = some z ∧ atI (zs.map fun z => V.ref z.1) r = some (.ref z.1) ∧ IL H z.1 (row rows r) := by
  have hl : r.toNat < zs.length := by rw [← e, List.length_map] at h1; omega
  have hz : zs[r.toNat]? = some zs[r.toNat] := List.getElem?_eq_getElem hl
  refine ⟨zs[r.toNat], hz, at_ref h0 hz, ?_⟩
  have h2 := h.all _ (List.getElem_mem hl)
  have h3 : row rows r = (zs[r.toNat]).2 := by
    have := row_at h0 h1
    rw [← e, List.getElem?_map, hz] at this
    rw [← e]
    exact (Option.some.inj this).symm
  rw [h3]
  exact h2
/-- a row grows -/
theorem Lg.app (h : Lg H0 H p rows) {r e : Int} (h0 : 0 ≤ r) (h1 : r < rows.length) : ∃ (xs : List V) (a : Addr), H p = some (.lst xs) ∧ atI xs r = some (.ref a) ∧ H a = some (.lst ((row rows r).map V.int)) ∧ H0 a = none ∧
    Lg H0 (upd H a (.lst ((row rows r).map V.int ++ [.int e]))) p (app rows r e) := by
  obtain ⟨zs, h2, h3, h4, h5⟩ := h.ex
  obtain ⟨z, hz, hat, hrow⟩ := sl_row h2 h4 h0 h1
  have hz' := List.mem_of_getElem? hz
  refine ⟨_, z.1, h2.at_, hat, hrow, h5 z hz', h.new, zs.set r.toNat (z.1, row rows r ++ [e]), ?_, ?_, ?_, ?_⟩
  · have := h2.setAt (r := row rows r ++ [e]) hz h3
    unfold gR at this
    rw [List.map_append] at this
    exact this
  · have e1 : (zs.set r.toNat (z.1, row rows r ++ [e])).map (·.1) = zs.map (·.1) := by
      rw [List.map_set]
      apply List.ext_getElem?
      intro j
      by_cases hj : r.toNat = j
      · subst hj
        have hl : r.toNat < (zs.map (·.1)).length := by rw [List.length_map]; exact (List.getElem?_eq_some_iff.mp hz).1
        rw [List.getElem?_set_self hl, List.getElem?_map, hz]
        rfl
      · rw [List.getElem?_set_ne hj]
    rw [e1]
    exact h3
  · rw [List.map_set, h4]
    rfl
  · intro y hy
    rcases List.mem_or_eq_of_mem_set hy with hy | hy
    · exact h5 y hy
    · rw [hy]
      exact h5 z hz'
/-- a row is replaced -/
theorem Lg.put (h : Lg H0 H p rows) {r : Int} (h0 : 0 ≤ r) (h1 : r < rows.length) : ∃ (xs : List V) (a : Addr), H p = some (.lst xs) ∧ xs.length = rows.length ∧ atI xs r = some (.ref a) ∧ H a = some (.lst ((row rows r).map V.int)) ∧ H0 a = none ∧
    ∀ r' : List Int, Lg H0 (upd H a (.lst (r'.map V.int))) p (rows.set r.toNat r') := by
  obtain ⟨zs, h2, h3, h4, h5⟩ := h.ex
  obtain ⟨z, hz, hat, hrow⟩ := sl_row h2 h4 h0 h1
  have hz' := List.mem_of_getElem? hz
  refine ⟨_, z.1, h2.at_, by rw [List.length_map, ← h4, List.length_map], hat, hrow, h5 z hz', fun r' => ⟨h.new, zs.set r.toNat (z.1, r'), h2.setAt (r := r') hz h3, ?_, ?_, ?_⟩⟩
  · have e1 : (zs.set r.toNat (z.1, r')).map (·.1) = zs.map (·.1) := by
      rw [List.map_set]
      apply List.ext_getElem?
      intro j
      by_cases hj : r.toNat = j
      · subst hj
        have hl : r.toNat < (zs.map (·.1)).length := by rw [List.length_map]; exact (List.getElem?_eq_some_iff.mp hz).1
        rw [List.getElem?_set_self hl, List.getElem?_map, hz]
        rfl
      · rw [List.getElem?_set_ne hj]
    rw [e1]
    exact h3
  · rw [List.map_set, h4]
  · intro y hy
    rcases List.mem_or_eq_of_mem_set hy with hy | hy
    · exact h5 y hy
    · rw [hy]
      exact h5 z hz'
theorem SL.put {α : Type} {g : α → HO} {zs : List (Addr × α)} {j : Nat} {t : Addr} {x : α} (h : SL H p g zs) (ht : H t = some (g x)) (ntp : t ≠ p) (np : ∀ z ∈ zs, z.1 ≠ p) : SL (upd H p (.lst ((zs.map fun z => V.ref z.1).set j (.ref t)))) p g (zs.set j (t, x)) := by
  refine ⟨by rw [upd_same, List.map_set], fun z hz => ?_⟩
  rcases List.mem_or_eq_of_mem_set hz with hz | hz
  · rw [upd_ne (np z hz)]
    exact h.all z hz
  · rw [hz]
    show upd _ _ _ t = _
    rw [upd_ne ntp]
    exact ht
theorem SL.sub {α : Type} {g : α → HO} {zs ws : List (Addr × α)} {q : Addr} (h : SL H p g zs) (hq : H q = none) (hs : ∀ z ∈ ws, z ∈ zs) : SL (upd H q (.lst (ws.map fun z => V.ref z.1))) q g ws :=
  ⟨upd_same, fun z hz => by rw [upd_ne (ne_of_none (h.all z (hs z hz)) hq)]; exact h.all z (hs z hz)⟩
end
/-- list(x), x a list or a tuple -/
def rLO (K : PySem.W.Frag) : List V → Hp → VK → Prop := fun xs H Q => ∃ p ys, xs = [.ref p] ∧ (SqL K H p ys ∨ SqT K H p ys) ∧ ∀ l, H l = none → Q (.ref l) (upd H l (.lst ys))
/-- [list(row) for row in rows] -/
theorem copy_rows {K : PySem.W.Frag} {H : Hp} {p D : Addr} {zs : List (Addr × List Int)} {σ : L2.St} {i : Nat} {vs : List Nat} {Qd : Hp → Prop} (hS : SL H p gR zs) (hD : H D = none) (hl : zs.length ≤ 100000)
    (h1 : ∀ v, ((wipe σ vs).set i (some v))[i]? = some (some v)) (h2 : ∀ v, wipe ((wipe σ vs).set i (some v)) vs = wipe σ vs)
    (k : ∀ H', Lg H H' D (zs.map (·.2)) → Kp [] H H' → Qd H') :
    ∃ W : Nat → Nat → Hp → Prop, (∃ m, W 0 m (upd H D (.lst []))) ∧ ∀ j m H, W j m H →
      ((Itl K p).stop j H ∧ Qd H) ∨ ((Itl K p).go j H ∧ ∃ Nx : Hp → Prop, (∀ H', Nx H' → ∃ m', m' < m ∧ W (j + 1) m' H') ∧ ∀ x H', (Itl K p).yld j H x H' → gName i x (wipe σ vs) H' fun σ2 H2 => wipe σ2 vs = wipe σ vs ∧ tYes σ2 H2 fun b H3 =>
        if b = true then tCB (rLO K) (tCons (tVar i) tNil) σ2 H3 fun y H4 => ∃ acc, H4 D = some (.lst acc) ∧ acc.length < sizeLine ∧ Nx (upd H4 D (.lst (acc ++ [y]))) else Nx H3) := by
  refine lc_list (K := K) (a := p) (xs := zs.map fun z => V.ref z.1) (fun j H1 => Kp [] H H1 ∧ ∃ ws : List (Addr × List Int), SL H1 D gR ws ∧ (ws.map (·.1)).Nodup ∧ ws.map (·.2) = (zs.map (·.2)).take j ∧ ∀ z ∈ ws, H z.1 = none)
    ⟨Kp.new hD, [], SL.nil, List.nodup_nil, rfl, fun _ h => nomatch h⟩ (fun j H1 _ ⟨e, _⟩ => (hS.kp0 e fun _ => nt_gR).sq) ?_ ?_
  · rintro j y H1 hj ⟨E1, ws, hw, nd, ew, nw⟩
    obtain ⟨z, hz, rfl⟩ := map_ref_at hj
    have hzm := List.mem_of_getElem? hz
    have hz1 : H1 z.1 = some (gR z.2) := (hS.kp0 E1 fun _ => nt_gR).all z hzm
    have wl : ws.length ≤ j := by
      have := congrArg List.length ew
      rw [List.length_map, List.length_take] at this
      omega
    have jl : j < zs.length := (List.getElem?_eq_some_iff.mp hz).1
    refine ⟨h2 _, yesT ?_⟩
    refine ⟨_, h1 _, z.1, _, rfl, .inl (SqL.of hz1), fun t ht => ?_⟩
    have ht0 := E1.f t ht
    have nDt : D ≠ t := ne_of_none hw.at_ ht
    refine ⟨_, by rw [upd_ne nDt]; exact hw.at_, small (by rw [List.length_map]; omega), (E1.mut ht0).mut hD, ws ++ [(t, z.2)], ?_, ?_, ?_, ?_⟩
    · exact hw.snoc (x := z.2) ht hw.npR
    · rw [List.map_append, List.nodup_append]
      refine ⟨nd, by simp, fun a ha b hb q => ?_⟩
      obtain ⟨y, hy, ey⟩ := List.mem_map.mp ha
      rw [List.mem_map] at hb
      obtain ⟨y2, hy2, ey2⟩ := hb
      rw [List.mem_singleton.mp hy2] at ey2
      have h5 := hw.all y hy
      rw [ey, q, ← ey2] at h5
      rw [show ((t, z.2) : Addr × List Int).1 = t from rfl, ht] at h5
      cases h5
    · rw [List.map_append, ew, List.take_succ, List.getElem?_map, hz]
      rfl
    · intro y hy
      rcases List.mem_append.mp hy with hy | hy
      · exact nw y hy
      · rw [List.mem_singleton.mp hy]
        exact ht0
  · rintro H1 ⟨E1, ws, hw, nd, ew, nw⟩
    refine k H1 ⟨hD, ws, hw, nd, ?_, nw⟩ E1
    rw [ew, List.length_map]
    exact List.take_of_length_le (by rw [List.length_map]; exact Nat.le_refl _)
/-- [row for row in rows if x in row]: empty iff x is not held -/
theorem held_rows {K : PySem.W.Frag} {H : Hp} {p D : Addr} {zs : List (Addr × List Int)} {σ : L2.St} {i l : Nat} {x : Int} {vs : List Nat} {Qd : Hp → Prop} (hS : SL H p gR zs) (hD : H D = none) (hl : zs.length ≤ 100000)
    (h1 : ∀ v, ((wipe σ vs).set i (some v))[i]? = some (some v)) (h2 : ∀ v, wipe ((wipe σ vs).set i (some v)) vs = wipe σ vs) (h3 : ∀ v, ((wipe σ vs).set i (some v))[l]? = some (some (.int x)))
    (k : ∀ H' xs, H' D = some (.lst xs) → xs.isEmpty = !held (zs.map (·.2)) x → Kp [] H H' → Qd H') :
    ∃ W : Nat → Nat → Hp → Prop, (∃ m, W 0 m (upd H D (.lst []))) ∧ ∀ j m H, W j m H →
      ((Itl K p).stop j H ∧ Qd H) ∨ ((Itl K p).go j H ∧ ∃ Nx : Hp → Prop, (∀ H', Nx H' → ∃ m', m' < m ∧ W (j + 1) m' H') ∧ ∀ x H', (Itl K p).yld j H x H' → gName i x (wipe σ vs) H' fun σ2 H2 => wipe σ2 vs = wipe σ vs ∧ tTest (tOp (rIn K false) (tVar l) (tVar i)) σ2 H2 fun b H3 =>
        if b = true then tVar i σ2 H3 fun y H4 => ∃ acc, H4 D = some (.lst acc) ∧ acc.length < sizeLine ∧ Nx (upd H4 D (.lst (acc ++ [y]))) else Nx H3) := by
  refine lc_list (K := K) (a := p) (xs := zs.map fun z => V.ref z.1) (fun j H1 => Kp [] H H1 ∧ ∃ xs, H1 D = some (.lst xs) ∧ xs.isEmpty = !held ((zs.map (·.2)).take j) x ∧ xs.length ≤ j)
    ⟨Kp.new hD, [], upd_same, rfl, Nat.le_refl _⟩ (fun j H1 _ ⟨e, _⟩ => (hS.kp0 e fun _ => nt_gR).sq) ?_ ?_
  · rintro j y H1 hj ⟨E1, xs, hx, ex, lx⟩
    obtain ⟨z, hz, rfl⟩ := map_ref_at hj
    have hz1 : H1 z.1 = some (gR z.2) := (hS.kp0 E1 fun _ => nt_gR).all z (List.mem_of_getElem? hz)
    have jl : j < zs.length := (List.getElem?_eq_some_iff.mp hz).1
    have tk : (zs.map (·.2)).take (j + 1) = (zs.map (·.2)).take j ++ [z.2] := by
      rw [List.take_succ, List.getElem?_map, hz]
      rfl
    have hh : held ((zs.map (·.2)).take (j + 1)) x = (held ((zs.map (·.2)).take j) x || z.2.contains x) := by
      rw [tk]
      unfold held
      rw [List.any_append]
      simp
    refine ⟨h2 _, _, h3 _, _, h1 _, z.1, _, rfl, .inl (SqL.of hz1), rfl, ?_, _, rfl, ?_⟩
    · rw [List.all_map, List.all_eq_true]
      intro _ _
      rfl
    · show (if (if false = true then _ else inV (V.int x) (z.2.map V.int)) = true then _ else _)
      rw [if_neg Bool.false_ne_true, inV_int]
      refine iteB (fun hc => ?_) fun hc => ⟨E1, xs, hx, by rw [hh, hc, Bool.or_false]; exact ex, Nat.le_succ_of_le lx⟩
      refine ⟨_, h1 _, xs, hx, small (by omega), E1.mut hD, xs ++ [V.ref z.1], upd_same, ?_, by rw [List.length_append]; exact Nat.succ_le_succ lx⟩
      rw [hh, hc, Bool.or_true]
      cases xs <;> rfl
  · rintro H1 ⟨E1, xs, hx, ex, lx⟩
    refine k H1 xs hx ?_ E1
    rw [ex, List.length_map, List.take_of_length_le (by rw [List.length_map]; exact Nat.le_refl _)]
end Ps

set_option maxHeartbeats 4000000
/-! PsD1: draws and offers. -/
namespace Ps
open PySem PySem.Spec PyProof.Rows L2
section
variable {P : Program} {w : World} {K : PySem.W.Frag} {mg : Str → Option Value} {base : Heap}
/-! ### _law_draw -/
def spDraw : Sp := fun vs H Q _ => ∃ (b c : Addr) (m : Int), vs = [.ref b, .int m] ∧ Box H b c ∧ 0 < m ∧ m < 1073741824 ∧ ∀ (v : Int) (H' : Hp), 0 ≤ v → v < m → Box H' b c → Kp [b] H H' → Q (.int v) H'
abbrev N__law_draw : List Str := ["_law_box_here", "_law_many", "_law_worth", "_law_cells", "_law_at", "_law_cell", "_law_mixed"]
theorem sc__law_draw : FnScope N__law_draw ["_law_box_here", "_law_many"] (defScope (top 39)) := ⟨rfl, rfl, rfl, by decide +kernel, rfl, by decide +kernel, by decide +kernel⟩
theorem box_set {H : Hp} {b c : Addr} {a0 y0 s0 at_ cy sd : Int} {cells : List Int} (h : H b = some (.lst [.ref c, .int a0, .int y0, .int s0])) (hc : IL H c cells) (h1 : ∀ x ∈ cells, 0 ≤ x) (h2 : 0 ≤ at_) (h3 : 0 ≤ cy) (h4 : 0 ≤ sd) (h5 : sd < 2147483647) :
    Box (upd H b (.lst [.ref c, .int at_, .int cy, .int sd])) b c ∧ Kp [b] H (upd H b (.lst [.ref c, .int at_, .int cy, .int sd])) :=
  ⟨⟨cells, at_, cy, sd, upd_same, (by show upd _ _ _ _ = _; rw [upd_ne (il_ne hc h)]; exact hc), h1, h2, h3, h4, h5⟩, (Kp.refl H).set (List.mem_singleton.mpr rfl) h nt_lst⟩
theorem d__law_draw (T : Txt K mg) : Def P w K mg base CX0 1 "_law_draw" ["_law_box_here", "_law_many"] spDraw := by
  refine T.def0 (i := 39) (j := 20) (N := N__law_draw) rfl sc__law_draw (fun vs H Q E h => ?_) (fun _ _ _ _ _ _ us hl => match us, hl with | [_, _], _ => rfl) (fun f cdv A outer s H vs Q E hr h => ?_)
  · obtain ⟨b, c, m, rfl, _⟩ := h
    rfl
  · obtain ⟨b, c, m, rfl, B, m0, m1, hQ⟩ := h
    obtain ⟨cells, at_, cy, sd, hb, hc, p1, p2, p3, p4, p5⟩ := B.ex
    have i0 : ∀ {H' : Hp} {a y s : Int}, H' b = some (.lst [.ref c, .int a, .int y, .int s]) → SqL K H' b [.ref c, .int a, .int y, .int s] := fun h => SqL.of h
    refine ⟨_, (pss_cons (ps_if (pt_cmpR op_gt (pe_ix ix_list (pv 0) pe_int (fun _ _ => rfl)) pe_int (nomark _))
 (pss_cons (ps_set (i := 2) sc__law_draw.nd rfl (Or.inl rfl) (pe_op op_mod (pe_callTy call_int1 (by rfl) (T.n 9 _ rfl) (by decide +kernel) (pa_cons (pe_ix ix_list (pv 0) pe_int (fun _ _ => rfl)) pa_nil)) (pv 1)))
 (pss_cons (ps_asg (pe_op op_fdiv (pe_ix ix_list (pv 0) pe_int (fun _ _ => rfl)) (pv 1)) (pg_sub (pv 0) pe_int set_list))
 (pss_one (ps_ret (pv 2)))))
 pss_nil)
 (pss_cons (ps_set (i := 3) sc__law_draw.nd rfl (Or.inl rfl) (pe_ix ix_list (pv 0) pe_int (fun _ _ => rfl)))
 (pss_cons (ps_set (i := 4) sc__law_draw.nd rfl (Or.inl rfl) (pe_ix ix_list (pv 0) pe_int (fun _ _ => rfl)))
 (pss_cons (ps_asg (pe_op op_add (pv 4) pe_int) (pg_sub (pv 0) pe_int set_list))
 (pss_cons (ps_set (i := 5) sc__law_draw.nd rfl (Or.inl rfl) pe_int)
 (Evl.pss_cut (ps_if (pt_cmpR op_lt (pv 4) (pe_callB call_len_seq (by rfl) (T.n 0 _ rfl) (by decide +kernel) (pa_cons (pv 3) pa_nil)) (nomark _))
 (pss_one (ps_set (i := 5) sc__law_draw.nd rfl (Or.inl rfl) (pe_ix ix_list (pv 3) (pv 4) (fun _ _ => rfl))))
 pss_nil)
 (pss_cons (ps_if (pt_cmpR op_ge (pv 5) (pe_op op_pow pe_int pe_int) (nomark _))
 (pss_cons (ps_asg (pe_op op_fdiv (pv 5) (pv 1)) (pg_sub (pv 0) pe_int set_list))
 (pss_one (ps_ret (pe_op op_mod (pe_callTy call_int1 (by rfl) (T.n 9 _ rfl) (by decide +kernel) (pa_cons (pv 5) pa_nil)) (pv 1)))))
 pss_nil)
 (pss_cons (ps_asg (pe_op op_mod (pe_callTy call_int1 (by rfl) (T.n 9 _ rfl) (by decide +kernel) (pa_cons (pe_op op_add (pe_op op_add (pe_op op_add (pe_op op_mul (pe_ix ix_list (pv 0) pe_int (fun _ _ => rfl)) pe_int) (pe_op op_mul (pv 5) pe_int)) (pe_op op_mul (pv 4) pe_int)) pe_int) pa_nil)) pe_int) (pg_sub (pv 0) pe_int set_list))
 (pss_cons (ps_set (i := 6) sc__law_draw.nd rfl (Or.inl rfl) (pe_op op_mod (pe_callTy call_int1 (by rfl) (T.n 9 _ rfl) (by decide +kernel) (pa_cons (pe_op op_add (pe_op op_mul (pe_ix ix_list (pv 0) pe_int (fun _ _ => rfl)) pe_int) (pe_op op_mul (pe_op op_fdiv (pe_ix ix_list (pv 0) pe_int (fun _ _ => rfl)) pe_int) pe_int)) pa_nil)) pe_int))
 (pss_one (ps_ret (pe_op op_mod (pe_callTy call_int1 (by rfl) (T.n 9 _ rfl) (by decide +kernel) (pa_cons (pe_op op_fdiv (pv 6) pe_int) pa_nil)) (pv 1))))))))))))), ?_⟩
    refine ⟨_, rfl, b, _, 2, .int cy, rfl, rfl, i0 hb, rfl, cy, 0, rfl, rfl, _, rfl, iteD (fun hcy => ?_) fun hcy => ?_⟩
    · refine ⟨_, rfl, b, _, 2, .int cy, rfl, rfl, i0 hb, rfl, .inl ⟨cy, rfl, _, rfl, cy, m, rfl, rfl, m0, ?_⟩⟩
      refine ⟨_, rfl, b, _, 2, .int cy, rfl, rfl, i0 hb, rfl, _, rfl, cy, m, rfl, rfl, ⟨m0, m1⟩, _, rfl, b, _, 2, 2, rfl, rfl, hb, rfl, ?_⟩
      obtain ⟨B', E'⟩ := box_set (at_ := at_) (cy := cy / m) (sd := sd) hb hc p1 p2 (Int.ediv_nonneg (by omega) (by omega)) p4 p5
      exact ⟨_, rfl, hQ _ _ (Int.emod_nonneg _ (by omega)) (Int.emod_lt_of_pos _ m0) B' E'⟩
    · have hcy0 : cy = 0 := by omega
      subst hcy0
      refine ⟨_, rfl, b, _, 0, .ref c, rfl, rfl, i0 hb, rfl, ?_⟩
      refine ⟨_, rfl, b, _, 1, .int at_, rfl, rfl, i0 hb, rfl, ?_⟩
      refine ⟨_, rfl, at_, 1, rfl, rfl, _, rfl, b, _, 1, 1, rfl, rfl, hb, rfl, ?_⟩
      obtain ⟨B1, E1⟩ := box_set (at_ := at_ + 1) (cy := 0) (sd := sd) hb hc p1 (by omega) p3 p4 p5
      have hc1 : IL (upd H b (.lst [.ref c, .int (at_ + 1), .int 0, .int sd])) c cells := hc.box B E1
      have hb1 : (upd H b (.lst [.ref c, .int (at_ + 1), .int 0, .int sd])) b = some (.lst [.ref c, .int (at_ + 1), .int 0, .int sd]) := upd_same
      show tSeq _ _ _ _ (upd H b (.lst [.ref c, .int (at_ + 1), .int 0, .int sd]))
      generalize upd H b (.lst [.ref c, .int (at_ + 1), .int 0, .int sd]) = H1 at B1 E1 hc1 hb1
      refine ⟨fun σ' H' => ∃ x : Int, 0 ≤ x ∧ H' = H1 ∧ σ' = [some (.ref b), some (.int m), none, some (.ref c), some (.int at_), some (.int x), none], ?_, ?_⟩
      · refine ⟨_, rfl, _, rfl, c, _, rfl, .inl hc1.sq, at_, _, rfl, rfl, _, rfl, iteD (fun ha => ?_) fun ha => ?_⟩
        · rw [List.length_map] at ha
          have hlt : at_.toNat < cells.length := by omega
          refine ⟨_, rfl, _, rfl, c, _, at_, .int cells[at_.toNat], rfl, rfl, hc1.sq, atI_int p2 (by rw [List.getElem?_map, List.getElem?_eq_getElem hlt]; rfl), cells[at_.toNat], p1 _ (List.getElem_mem hlt), rfl, rfl⟩
        · exact ⟨0, Int.le_refl _, rfl, rfl⟩
      · rintro σ' H' ⟨x, hx, rfl, rfl⟩
        refine ⟨_, rfl, 10, 18, rfl, rfl, ⟨by decide, by decide, by decide⟩, x, _, rfl, rfl, _, rfl, iteD (fun hx2 => ?_) fun hx2 => ?_⟩
        · refine ⟨_, rfl, _, rfl, x, m, rfl, rfl, ⟨m0, m1⟩, _, rfl, b, _, 2, 2, rfl, rfl, hb1, rfl, ?_⟩
          obtain ⟨B2, E2⟩ := box_set (at_ := at_ + 1) (cy := x / m) (sd := sd) hb1 hc1 p1 (by omega) (Int.ediv_nonneg hx (by omega)) p4 p5
          exact ⟨_, rfl, .inl ⟨x, rfl, _, rfl, x, m, rfl, rfl, m0, hQ _ _ (Int.emod_nonneg _ (by omega)) (Int.emod_lt_of_pos _ m0) B2 (E1.trans E2)⟩⟩
        · have hx3 : x < 1000000000000000000 := by
            have : (10 : Int) ^ (18 : Int).toNat = 1000000000000000000 := by decide
            rw [this] at hx2
            omega
          refine ⟨_, rfl, b, _, 3, .int sd, rfl, rfl, i0 hb1, rfl, sd, 48271, rfl, rfl, .inr ⟨by decide, by decide⟩, _, rfl, x, 69621, rfl, rfl, .inr ⟨by decide, by decide⟩, _, _, rfl, rfl, _, rfl, at_, 16127, rfl, rfl, .inr ⟨by decide, by decide⟩, _, _, rfl, rfl, _, _, rfl, rfl, .inl ⟨_, rfl, _, 2147483647, rfl, rfl, (by show (0 : Int) < 2147483647; decide), _, rfl, b, _, 3, 3, rfl, rfl, hb1, rfl, ?_⟩⟩
          obtain ⟨B2, E2⟩ := box_set (at_ := at_ + 1) (cy := 0) (sd := (sd * 48271 + x * 69621 + at_ * 16127 + 7919) % 2147483647) hb1 hc1 p1 (by omega) (by omega) (Int.emod_nonneg _ (by omega)) (Int.emod_lt_of_pos _ (by omega))
          have hb2 : ∀ s2 : Int, (upd H' b (.lst [.ref c, .int (at_ + 1), .int 0, .int s2])) b = some (.lst [.ref c, .int (at_ + 1), .int 0, .int s2]) := fun _ => upd_same
          refine ⟨_, rfl, b, _, 3, .int _, rfl, rfl, i0 (hb2 _), rfl, _, 16807, rfl, rfl, .inr ⟨by decide, by decide⟩, _, rfl, b, _, 3, .int _, rfl, rfl, i0 (hb2 _), rfl, _, 65536, rfl, rfl, ⟨by decide, by decide⟩, _, 40692, rfl, rfl, .inr ⟨by decide, by decide⟩, _, _, rfl, rfl, .inl ⟨_, rfl, _, 2147483399, rfl, rfl, (by show (0 : Int) < 2147483399; decide), ?_⟩⟩
          exact ⟨_, rfl, _, 16, rfl, rfl, ⟨by decide, by decide⟩, .inl ⟨_, rfl, _, rfl, _, m, rfl, rfl, m0, hQ _ _ (Int.emod_nonneg _ (by omega)) (Int.emod_lt_of_pos _ m0) B2 (E1.trans E2)⟩⟩
/-! ### _law_offer -/
def spOffer (K : PySem.W.Frag) : Sp := fun vs H Q _ => ∃ (a b : Addr) (src rd : List Int), vs = [.ref a, .ref b] ∧ IL H a src ∧ IL H b rd ∧ Q (.int ((offer src rd).getD (-1))) H
abbrev N__law_offer : List Str := ["_law_source", "_law_reader", "_law_item"]
theorem sc__law_offer : FnScope N__law_offer ["_law_source", "_law_reader"] (defScope (top 46)) := ⟨rfl, rfl, rfl, by decide +kernel, rfl, by decide +kernel, by decide +kernel⟩
theorem d__law_offer (T : Txt K mg) : Def P w K mg base CX0 1 "_law_offer" ["_law_source", "_law_reader"] (spOffer K) := by
  refine T.def0 (i := 46) (j := 27) (N := N__law_offer) rfl sc__law_offer (fun vs H Q E h => ?_) (fun _ _ _ _ _ _ us hl => match us, hl with | [_, _], _ => rfl) (fun f cdv A outer s H vs Q E hr h => ?_)
  · obtain ⟨a, b, src, rd, rfl, _⟩ := h
    rfl
  · obtain ⟨a, b, src, rd, rfl, ha, hb, hQ⟩ := h
    refine ⟨_, (pss_cons (ps_for PassesOwn.never rfl (pi_list (pv 0)) (pg_name (i := 2) sc__law_offer.nd rfl (Or.inl rfl))
 (pss_one (ps_if (pt_cmpR op_notIn_seq (pv 2) (pv 1) (by rfl))
 (pss_one (ps_ret (pv 2)))
 pss_nil)))
 (pss_one (ps_ret (pe_un un_neg pe_int)))), ?_⟩
    refine ⟨_, rfl, a, rfl, ⟨_, ha.sq⟩, for_list (K := K) (a := a) (xs := src.map V.int) (fun i σ H' => H' = H ∧ (∃ v, σ = [some (.ref a), some (.ref b), v]) ∧ ∀ (j : Nat) (x : Int), j < i → src[j]? = some x → rd.contains x = true)
      ⟨rfl, ⟨none, rfl⟩, fun j x hj => absurd hj (Nat.not_lt_zero _)⟩ (fun i σ H' _ h => by rw [h.1]; exact ha.sq) ?_ ?_⟩
    · rintro i y σ H' hi ⟨rfl, ⟨v, rfl⟩, hp⟩
      obtain ⟨x, hx, rfl⟩ : ∃ x, src[i]? = some x ∧ y = V.int x := by
        rw [List.getElem?_map] at hi
        cases e : src[i]? with
        | none => rw [e] at hi; cases hi
        | some x => rw [e] at hi; exact ⟨x, rfl, (Option.some.inj hi).symm⟩
      refine ⟨_, rfl, _, rfl, b, _, rfl, .inl hb.sq, rfl, all_flat rd, _, rfl, ?_⟩
      show (if (!inV (V.int x) (rd.map V.int)) = true then _ else _)
      rw [inV_int]
      refine iteB (fun hc => ⟨_, rfl, ?_⟩) fun hc => ⟨rfl, ⟨_, rfl⟩, fun j z hj hz => ?_⟩
      · have e : offer src rd = some x := by
          unfold offer
          rw [List.find?_eq_some_iff_getElem]
          refine ⟨hc, i, (List.getElem?_eq_some_iff.mp hx).1, (List.getElem?_eq_some_iff.mp hx).2, fun j hj => ?_⟩
          have hj2 : j < src.length := Nat.lt_trans hj (List.getElem?_eq_some_iff.mp hx).1
          rw [hp j src[j] hj (List.getElem?_eq_getElem hj2)]
          rfl
        rw [e] at hQ
        exact hQ
      · rcases Nat.lt_succ_iff_lt_or_eq.mp hj with hj | hj
        · exact hp j z hj hz
        · subst hj
          rw [hx] at hz
          cases hz
          simpa using hc
    · rintro σ H' ⟨rfl, ⟨v, rfl⟩, hp⟩
      have e : offer src rd = none := by
        rw [offer_none]
        intro x hx
        obtain ⟨j, hj, e⟩ := List.getElem_of_mem hx
        have := hp j x (by rw [List.length_map]; exact hj) (by rw [List.getElem?_eq_getElem hj, e])
        simpa using this
      rw [e] at hQ
      exact ⟨1, rfl, hQ⟩
end
end Ps

set_option maxHeartbeats 4000000
/-! PsD6: the law's reachability and its look at faults. -/
namespace Ps
open PySem PySem.Spec PyProof.Rows L2
section
variable {P : Program} {w : World} {K : PySem.W.Frag} {mg : Str → Option Value} {base : Heap}
/-! ### _law_reach -/
/-- the links of a list -/
def Lof (ps : List (Int × Int)) : Int → Int → Prop := fun s r => (s, r) ∈ ps
def spReach : Sp := fun vs H Q _ => ∃ (lk st inn : Addr) (n : Nat) (ps : List (Addr × Int × Int)), vs = [.ref lk, .ref st, .ref inn] ∧ SL H lk gP ps ∧ (∀ z ∈ ps, LinkOk n z.2) ∧ IL H st [0] ∧ IL H inn (ents n) ∧ 0 < n ∧ n ≤ 20 ∧
  ∀ (p : Addr) (met : List Int) (H' : Hp), IL H' p met → Reached (Lof (ps.map (·.2))) n met → Kp [] H H' → Q (.ref p) H'
abbrev N__law_reach : List Str := ["_law_links_here", "_law_starts", "_law_inner", "_law_met", "_law_turn", "_law_size", "_law_pair", "_law_x"]
theorem sc__law_reach : FnScope N__law_reach ["_law_links_here", "_law_starts", "_law_inner"] (defScope (top 43)) := ⟨rfl, rfl, rfl, by decide +kernel, rfl, by decide +kernel, by decide +kernel⟩
theorem cont_iff {ns : List Int} {x : Int} : ns.contains x = true ↔ x ∈ ns := List.contains_iff_mem
theorem met_len {n : Nat} {met : List Int} (nd : met.Nodup) (rg : ∀ x ∈ met, 0 ≤ x ∧ x < (n : Int)) : met.length ≤ n := row_len nd rg
theorem d__law_reach (T : Txt K mg) : Def P w K mg base CX0 1 "_law_reach" ["_law_links_here", "_law_starts", "_law_inner"] spReach := by
  refine T.def0 (i := 43) (j := 24) (N := N__law_reach) rfl sc__law_reach (fun vs H Q E h => ?_) (fun _ _ _ _ _ _ us hl => match us, hl with | [_, _, _], _ => rfl) (fun f cdv A outer s H vs Q E hr h => ?_)
  · obtain ⟨_, _, _, _, _, rfl, _⟩ := h
    rfl
  · obtain ⟨lk, st, inn, n, ps, rfl, hL, ok, hSt, hIn, n0, n1, hQ⟩ := h
    refine ⟨_, (pss_cons (ps_setLc (i := 3) (own := [("_law_x", 7)]) (tt := tTest (tOp (rIn K false) (tVar 7) (tVar 2))) (te := tVar 7) (by rfl) sc__law_reach.nd rfl rfl (sw_true rfl rfl rfl (by decide +kernel)) (pi_list (pv 1)) (blkOk_by (own := [("_law_x", 7)]) (N := N__law_reach) (sc := defScope (top 43)) (by decide +kernel)) (fun _ _ _ _ _ => (pg_name (i := 7) sc__law_reach.nd rfl (Or.inl rfl))) (fun _ _ _ _ _ => (pts_one (pt_cmpR op_in_seq (pv 7) (pv 2) (by rfl)))) (fun _ _ _ _ _ => (pv 7)))
 (pss_cons (ps_for PassesOwn.never rfl (pi_range1 (by rfl) (T.n 2 _ rfl) (pa_cons pe_int pa_nil)) (pg_name (i := 4) sc__law_reach.nd rfl (Or.inl rfl))
 (pss_cons (ps_set (i := 5) sc__law_reach.nd rfl (Or.inl rfl) (pe_callB call_len_seq (by rfl) (T.n 0 _ rfl) (by decide +kernel) (pa_cons (pv 3) pa_nil)))
 (Evl.pss_cut (ps_for PassesOwn.never rfl (pi_list (pv 0)) (pg_name (i := 6) sc__law_reach.nd rfl (Or.inl rfl))
 (pss_one (ps_if (PW.pt (pw_and (pt_cmpR op_in_seq (pe_ix ix_tup (pv 6) pe_int (fun _ _ => rfl)) (pv 3) (by rfl)) (pw_and (pt_cmpR op_in_seq (pe_ix ix_tup (pv 6) pe_int (fun _ _ => rfl)) (pv 2) (by rfl)) (pw_and1 (pt_cmpR op_notIn_seq (pe_ix ix_tup (pv 6) pe_int (fun _ _ => rfl)) (pv 3) (by rfl))))))
 (pss_one (ps_expr (pe_bm PySem.F.plainAttrs_list PySem.F.slot_list_append PySem.F.type_list_append mt_append (pv 3) (pa_cons (pe_ix ix_tup (pv 6) pe_int (fun _ _ => rfl)) pa_nil))))
 pss_nil)))
 (pss_one (ps_if (pt_cmpR op_eq (pe_callB call_len_seq (by rfl) (T.n 0 _ rfl) (by decide +kernel) (pa_cons (pv 3) pa_nil)) (pv 5) (nomark _))
 (pss_one ps_break)
 pss_nil)))))
 (pss_one (ps_ret (pv 3))))), ?_⟩
    refine ⟨_, rfl, st, rfl, ⟨_, hSt.sq⟩, fun p hp => ?_⟩
    have in0 : ∀ x : Int, 0 ≤ x → x < n → (ents n).contains x = true := fun x h0 h1 => cont_iff.mpr (mem_ents.mpr ⟨h0, h1⟩)
    refine lc_list (K := K) (a := st) (xs := [0].map V.int) (fun j H1 => Kp [] H H1 ∧ ∃ ms, IL H1 p ms ∧ ms = [0].take j) ⟨Kp.new hp, [], upd_same, rfl⟩ (fun j H1 _ ⟨e, _⟩ => (hSt.kp0 e).sq) ?_ ?_
    · rintro j y H1 hj ⟨E1, ms, hm, rfl⟩
      obtain ⟨x, hx, rfl⟩ := map_int_at hj
      have hj0 : j = 0 := by
        have := (List.getElem?_eq_some_iff.mp hx).1
        simpa using this
      subst hj0
      have hx0 : (0 : Int) = x := Option.some.inj hx
      subst hx0
      refine ⟨rfl, _, rfl, _, rfl, inn, _, rfl, .inl (hIn.kp0 E1).sq, rfl, all_flat _, _, rfl, ?_⟩
      show (if (if false = true then _ else inV (V.int 0) ((ents n).map V.int)) = true then _ else _)
      rw [if_neg Bool.false_ne_true, inV_int, in0 0 (by omega) (by omega), if_pos rfl]
      refine ⟨_, rfl, _, hm, by show 0 < sizeLine; decide, E1.mut hp, [0], ?_, rfl⟩
      show upd _ _ _ _ = _
      rw [upd_same]
      rfl
    · rintro H1 ⟨E1, ms, hm, rfl⟩
      have hz : (Lof (ps.map (·.2))) = (Lof (ps.map (·.2))) := rfl
      refine ⟨24, rfl, by decide, by decide, for_range (lo := 0) (n := 24) (fun i σ H' => ∃ met v4 v5 v6, σ = [some (.ref lk), some (.ref st), some (.ref inn), some (.ref p), v4, v5, v6, none] ∧ IL H' p met ∧ Kp [] H H' ∧ (0 : Int) ∈ met ∧ met.Nodup ∧ (∀ x ∈ met, 0 ≤ x ∧ x < (n : Int)) ∧ (∀ x ∈ met, Rch (Lof (ps.map (·.2))) 0 x) ∧ i < met.length) ?_ ?_ ?_⟩
      · exact ⟨[0], none, none, none, rfl, hm, E1, by simp, by simp, (fun x hx => by rw [List.mem_singleton.mp hx]; omega), (fun x hx => by rw [List.mem_singleton.mp hx]; exact Rch.refl 0), by decide⟩
      · rintro i σ H2 hi ⟨met, v4, v5, v6, rfl, hM, E2, z0, nd, rg, sn, il⟩
        refine ⟨_, rfl, p, _, rfl, .inl hM.sq, ?_⟩
        rw [List.length_map]
        refine ⟨fun σ' H' => ∃ met' v6, σ' = [some (.ref lk), some (.ref st), some (.ref inn), some (.ref p), some (.int (0 + i)), some (.int (met.length : Int)), v6, none] ∧ IL H' p met' ∧ Kp [] H H' ∧ (0 : Int) ∈ met' ∧ met'.Nodup ∧ (∀ x ∈ met', 0 ≤ x ∧ x < (n : Int)) ∧ (∀ x ∈ met', Rch (Lof (ps.map (·.2))) 0 x) ∧
          met.length ≤ met'.length ∧ (met'.length = met.length → ∀ x y, Lof (ps.map (·.2)) x y → x ∈ met' → y ∈ met'), ?_, ?_⟩
        · refine ⟨_, rfl, lk, rfl, ⟨_, (hL.kp0 E2 fun _ => nt_gP).sq⟩, for_list (K := K) (a := lk) (xs := ps.map fun z => V.ref z.1) (fun j σ H' => ∃ met' v6, σ = [some (.ref lk), some (.ref st), some (.ref inn), some (.ref p), some (.int (0 + i)), some (.int (met.length : Int)), v6, none] ∧ IL H' p met' ∧ Kp [] H H' ∧ (0 : Int) ∈ met' ∧ met'.Nodup ∧
            (∀ x ∈ met', 0 ≤ x ∧ x < (n : Int)) ∧ (∀ x ∈ met', Rch (Lof (ps.map (·.2))) 0 x) ∧ met.length ≤ met'.length ∧ (met'.length = met.length → ∀ (k : Nat) z, k < j → ps[k]? = some z → z.2.1 ∈ met' → z.2.2 ∈ met')) ?_ (fun j σ H' _ ⟨_, _, _, _, e, _⟩ => (hL.kp0 e fun _ => nt_gP).sq) ?_ ?_⟩
          · exact ⟨met, v6, rfl, hM, E2, z0, nd, rg, sn, Nat.le_refl _, fun _ k z hk => absurd hk (Nat.not_lt_zero _)⟩
          · rintro j y σ H3 hj ⟨met', v6, rfl, hM', E3, z0', nd', rg', sn', ml, cl⟩
            obtain ⟨z, hz, rfl⟩ := map_ref_at hj
            have hzm := List.mem_of_getElem? hz
            have ht : H3 z.1 = some (gP z.2) := (hL.kp0 E3 fun _ => nt_gP).all z hzm
            obtain ⟨a1, a2, a3, a4, a5⟩ := ok z hzm
            have lz : Lof (ps.map (·.2)) z.2.1 z.2.2 := List.mem_map.mpr ⟨z, hzm, rfl⟩
            have keep : (z.2.1 ∈ met' → z.2.2 ∈ met') → (met'.length = met.length → ∀ (k : Nat) z, k < j + 1 → ps[k]? = some z → z.2.1 ∈ met' → z.2.2 ∈ met') := fun hh e k z' hk hz' hm => by
              rcases Nat.lt_succ_iff_lt_or_eq.mp hk with hk | hk
              · exact cl e k z' hk hz' hm
              · subst hk
                rw [hz] at hz'
                cases hz'
                exact hh hm
            refine ⟨_, rfl, z.1, _, 0, _, rfl, rfl, SqT.of ht, rfl, _, rfl, p, _, rfl, .inl hM'.sq, rfl, all_flat _, _, rfl, ?_⟩
            show (if (if false = true then _ else inV (V.int z.2.1) (met'.map V.int)) = true then _ else _)
            rw [if_neg Bool.false_ne_true, inV_int]
            refine iteB (fun h1 => ?_) fun h1 => ⟨met', _, rfl, hM', E3, z0', nd', rg', sn', ml, keep fun hm => by rw [cont_iff.mpr hm] at h1; cases h1⟩
            refine ⟨_, rfl, z.1, _, 1, _, rfl, rfl, SqT.of ht, rfl, _, rfl, inn, _, rfl, .inl (hIn.kp0 E3).sq, rfl, all_flat _, _, rfl, ?_⟩
            show (if (if false = true then _ else inV (V.int z.2.2) ((ents n).map V.int)) = true then _ else _)
            rw [if_neg Bool.false_ne_true, inV_int, in0 _ a3 a4, if_pos rfl]
            refine ⟨_, rfl, z.1, _, 1, _, rfl, rfl, SqT.of ht, rfl, _, rfl, p, _, rfl, .inl hM'.sq, rfl, all_flat _, _, rfl, ?_⟩
            show (if (!inV (V.int z.2.2) (met'.map V.int)) = true then _ else _)
            rw [inV_int]
            refine iteB (fun h2 => ?_) fun h2 => ⟨met', _, rfl, hM', E3, z0', nd', rg', sn', ml, keep fun _ => by
              apply cont_iff.mp
              simpa using h2⟩
            have nm : z.2.2 ∉ met' := fun hm => by
              rw [cont_iff.mpr hm] at h2
              cases h2
            have ml2 := met_len nd' rg'
            refine ⟨_, rfl, .inl ⟨rfl, _, hM'.sq⟩, _, rfl, z.1, _, 1, _, rfl, rfl, SqT.of ht, rfl, p, _, _, rfl, rfl, hM', small (by rw [List.length_map]; omega), ?_⟩
            refine ⟨met' ++ [z.2.2], _, rfl, ?_, E3.mut hp, List.mem_append_left _ z0', ?_, fun x hx => ?_, fun x hx => ?_, by rw [List.length_append]; omega, fun e => ?_⟩
            · show upd _ _ _ _ = _
              rw [upd_same, List.map_append]
              rfl
            · refine List.nodup_append.mpr ⟨nd', by simp, fun a ha b hb e => ?_⟩
              rw [List.mem_singleton.mp hb] at e
              rw [e] at ha
              exact nm ha
            · rcases List.mem_append.mp hx with hx | hx
              · exact rg' x hx
              · rw [List.mem_singleton.mp hx]
                exact ⟨a3, a4⟩
            · rcases List.mem_append.mp hx with hx | hx
              · exact sn' x hx
              · rw [List.mem_singleton.mp hx]
                exact (sn' _ (cont_iff.mp h1)).step lz
            · rw [List.length_append, List.length_singleton] at e
              omega
          · rintro σ H3 ⟨met', v6, rfl, hM', E3, z0', nd', rg', sn', ml, cl⟩
            refine ⟨met', v6, rfl, hM', E3, z0', nd', rg', sn', ml, fun e x y l hx => ?_⟩
            obtain ⟨z, hz, ez⟩ := List.mem_map.mp l
            obtain ⟨k, hk, ek⟩ := List.getElem_of_mem hz
            have := cl e k z (by rw [List.length_map]; exact hk) (by rw [List.getElem?_eq_getElem hk, ek])
            rw [ez] at this
            exact this hx
        · rintro σ H3 ⟨met', v6, rfl, hM', E3, z0', nd', rg', sn', ml, cl⟩
          refine ⟨_, rfl, p, _, rfl, .inl hM'.sq, _, rfl, rfl, _, rfl, iteD (fun e => ?_) fun e => ?_⟩
          · rw [List.length_map] at e
            have e' : met'.length = met.length := by
              injection e with e
              omega
            exact ⟨_, rfl, hQ p met' H3 hM' ⟨z0', nd', rg', sn', cl e'⟩ E3⟩
          · rw [List.length_map] at e
            have e' : met'.length ≠ met.length := fun q => e (by rw [q])
            exact ⟨met', _, _, _, rfl, hM', E3, z0', nd', rg', sn', by omega⟩
      · rintro σ H2 ⟨met, v4, v5, v6, rfl, hM, E2, z0, nd, rg, sn, il⟩
        have := met_len nd rg
        omega
/-! ### _law_strong -/
def swp (q : Int × Int) : Int × Int := (q.2, q.1)
theorem lof_swp {ps : List (Int × Int)} : Lof (ps.map swp) = fun a b => Lof ps b a := by
  funext a b
  apply propext
  constructor
  · intro h
    obtain ⟨q, hq, e⟩ := List.mem_map.mp h
    have e' : q = (b, a) := by
      obtain ⟨x, y⟩ := q
      injection e with e1 e2
      rw [show x = b from e2, show y = a from e1]
    rw [e'] at hq
    exact hq
  · intro h
    exact List.mem_map.mpr ⟨(b, a), h, rfl⟩
def spStrongL : Sp := fun vs H Q _ => ∃ (lk : Addr) (n : Nat) (ps : List (Addr × Int × Int)), vs = [.int (n : Int), .ref lk] ∧ SL H lk gP ps ∧ (∀ z ∈ ps, LinkOk n z.2) ∧ 0 < n ∧ n ≤ 20 ∧ ps.length ≤ 100000 ∧
  ∀ (b : Bool) (H' : Hp), (b = true ↔ Strong (Lof (ps.map (·.2))) n) → Kp [] H H' → Q (.bl b) H'
abbrev N__law_strong : List Str := ["_law_many", "_law_links_here", "_law_every", "_law_back", "_law_pair"]
theorem sc__law_strong : FnScope N__law_strong ["_law_many", "_law_links_here"] (defScope (top 44)) := ⟨rfl, rfl, rfl, by decide +kernel, rfl, by decide +kernel, by decide +kernel⟩
theorem rev_links {K : PySem.W.Frag} {H : Hp} {p D : Addr} {zs : List (Addr × Int × Int)} {σ : L2.St} {i : Nat} {vs : List Nat} {Qd : Hp → Prop} (hS : SL H p gP zs) (hD : H D = none) (hl : zs.length ≤ 100000)
    (h1 : ∀ v, ((wipe σ vs).set i (some v))[i]? = some (some v)) (h2 : ∀ v, wipe ((wipe σ vs).set i (some v)) vs = wipe σ vs)
    (k : ∀ H' ws, SL H' D gP ws → ws.map (·.2) = (zs.map (·.2)).map swp → Kp [] H H' → Qd H') :
    ∃ W : Nat → Nat → Hp → Prop, (∃ m, W 0 m (upd H D (.lst []))) ∧ ∀ j m H, W j m H →
      ((Itl K p).stop j H ∧ Qd H) ∨ ((Itl K p).go j H ∧ ∃ Nx : Hp → Prop, (∀ H', Nx H' → ∃ m', m' < m ∧ W (j + 1) m' H') ∧ ∀ x H', (Itl K p).yld j H x H' → gName i x (wipe σ vs) H' fun σ2 H2 => wipe σ2 vs = wipe σ vs ∧ tYes σ2 H2 fun b H3 =>
        if b = true then tTup (tCons (tOp (rIxT K) (tVar i) (tC (.int 1))) (tCons (tOp (rIxT K) (tVar i) (tC (.int 0))) tNil)) σ2 H3 fun y H4 => ∃ acc, H4 D = some (.lst acc) ∧ acc.length < sizeLine ∧ Nx (upd H4 D (.lst (acc ++ [y]))) else Nx H3) := by
  refine lc_list (K := K) (a := p) (xs := zs.map fun z => V.ref z.1) (fun j H1 => Kp [] H H1 ∧ ∃ ws : List (Addr × Int × Int), SL H1 D gP ws ∧ ws.map (·.2) = ((zs.map (·.2)).map swp).take j)
    ⟨Kp.new hD, [], SL.nil, rfl⟩ (fun j H1 _ ⟨e, _⟩ => (hS.kp0 e fun _ => nt_gP).sq) ?_ ?_
  · rintro j y H1 hj ⟨E1, ws, hw, ew⟩
    obtain ⟨z, hz, rfl⟩ := map_ref_at hj
    have ht := (hS.kp0 E1 fun _ => nt_gP).all z (List.mem_of_getElem? hz)
    have jl : j < zs.length := (List.getElem?_eq_some_iff.mp hz).1
    have wl : ws.length ≤ j := by
      have := congrArg List.length ew
      rw [List.length_map, List.length_take] at this
      omega
    refine ⟨h2 _, yesT ?_⟩
    refine ⟨_, h1 _, z.1, _, 1, _, rfl, rfl, SqT.of ht, rfl, _, h1 _, z.1, _, 0, _, rfl, rfl, SqT.of ht, rfl, by show 2 ≤ sizeLine; decide, fun t ht2 => ?_⟩
    have nDt : D ≠ t := ne_of_none hw.at_ ht2
    refine ⟨_, by rw [upd_ne nDt]; exact hw.at_, small (by rw [List.length_map]; omega), (E1.mut (E1.f t ht2)).mut hD, ws ++ [(t, z.2.2, z.2.1)], hw.snoc (x := (z.2.2, z.2.1)) ht2 hw.npP, ?_⟩
    rw [List.map_append, ew, List.take_succ, List.getElem?_map, List.getElem?_map, hz]
    rfl
  · rintro H1 ⟨E1, ws, hw, ew⟩
    refine k H1 ws hw ?_ E1
    rw [ew, List.length_map]
    exact List.take_of_length_le (by rw [List.length_map, List.length_map]; exact Nat.le_refl _)
theorem d__law_strong (T : Txt K mg) (D__law_reach : Def P w K mg base CX0 1 "_law_reach" ["_law_links_here", "_law_starts", "_law_inner"] spReach) : Def P w K mg base CX0 2 "_law_strong" ["_law_many", "_law_links_here"] spStrongL := by
  refine T.def0 (i := 44) (j := 25) (N := N__law_strong) rfl sc__law_strong (fun vs H Q E h => ?_) (fun _ _ _ _ _ _ us hl => match us, hl with | [_, _], _ => rfl) (fun f cdv A outer s H vs Q E hr h => ?_)
  · obtain ⟨_, _, _, rfl, _⟩ := h
    rfl
  · obtain ⟨lk, n, ps, rfl, hL, ok, n0, n1, pl, hQ⟩ := h
    refine ⟨_, (pss_cons (ps_set (i := 2) sc__law_strong.nd rfl (Or.inl rfl) (pe_listRg (by rfl) (by rfl) (T.n 1 _ rfl) (prg_1 (by rfl) (T.n 2 _ rfl) (pv 0))))
 (pss_cons (ps_setLc (i := 3) (own := [("_law_pair", 4)]) (te := tTup (tCons (tOp (rIxT K) (tVar 4) (tC (.int 1))) (tCons (tOp (rIxT K) (tVar 4) (tC (.int 0))) tNil))) (by rfl) sc__law_strong.nd rfl rfl (sw_true rfl rfl rfl (by decide +kernel)) (pi_list (pv 1)) (blkOk_by (own := [("_law_pair", 4)]) (N := N__law_strong) (sc := defScope (top 44)) (by decide +kernel)) (fun _ _ _ _ _ => (pg_name (i := 4) sc__law_strong.nd rfl (Or.inl rfl))) (fun _ _ _ _ _ => pts_nil) (fun _ _ _ _ _ => (pe_tup (pa_cons (pe_ix ix_tup (pv 4) pe_int (fun _ _ => rfl)) (pa_cons (pe_ix ix_tup (pv 4) pe_int (fun _ _ => rfl)) pa_nil)))))
 (pss_one (ps_ret (pe_and (pe_cmpR op_eq (pe_callB call_len_seq (by rfl) (T.n 0 _ rfl) (by decide +kernel) (pa_cons (pe_fn D__law_reach (hr.mono (by decide)) (pa_cons (pv 1) (pa_cons (pe_lst (pa_cons pe_int pa_nil)) (pa_cons (pv 2) pa_nil)))) pa_nil)) (pv 0) (nomark _)) (pe_one (pe_cmpR op_eq (pe_callB call_len_seq (by rfl) (T.n 0 _ rfl) (by decide +kernel) (pa_cons (pe_fn D__law_reach (hr.mono (by decide)) (pa_cons (pv 3) (pa_cons (pe_lst (pa_cons pe_int pa_nil)) (pa_cons (pv 2) pa_nil)))) pa_nil)) (pv 0) (nomark _)))))))), ?_⟩
    refine ⟨_, rfl, _, rfl, .of_le (Int.le_refl _) (by omega) (by omega) (by omega), fun ev hev => ?_⟩
    have hE1 : IL (upd H ev (.lst (rgV 0 (n : Int)))) ev (ents n) := by
      show upd _ _ _ _ = _
      rw [upd_same, rgV_ents]
      rfl
    have E1 : Kp [] H (upd H ev (.lst (rgV 0 (n : Int)))) := Kp.new hev
    show tSeq _ _ _ _ (upd H ev (.lst (rgV 0 (n : Int))))
    generalize upd H ev (.lst (rgV 0 (n : Int))) = H1 at hE1 E1
    have hL1 := hL.kp0 E1 fun _ => nt_gP
    refine ⟨_, rfl, lk, rfl, ⟨_, hL1.sq⟩, fun bk hbk => rev_links hL1 hbk pl (fun _ => rfl) (fun _ => rfl) fun H2 ws hW eW E2 => ?_⟩
    have E12 := E1.trans E2
    refine ⟨_, rfl, by show 1 ≤ sizeLine; decide, fun z0 hz0 => ?_⟩
    have E3 : Kp [] H2 (upd H2 z0 (.lst [.int 0])) := Kp.new hz0
    refine ⟨_, rfl, lk, z0, ev, n, ps, rfl, (hL.kp0 (E12.trans E3) fun _ => nt_gP), ok, upd_same, (hE1.kp0 (E2.trans E3)), n0, n1, fun p met H4 hM R E4 => ?_⟩
    refine ⟨p, _, rfl, .inl hM.sq, _, rfl, rfl, _, rfl, ?_⟩
    rw [List.length_map]
    have E14 := (E12.trans E3).trans E4
    have key1 : V.int (met.length : Int) = V.int (n : Int) ↔ ∀ x : Int, 0 ≤ x → x < n → Rch (Lof (ps.map (·.2))) 0 x := by
      rw [← R.all]
      constructor
      · intro e
        injection e with e
        omega
      · intro e
        rw [e]
    refine iteD (fun e => ?_) fun e => ?_
    · refine ⟨_, rfl, by show 1 ≤ sizeLine; decide, fun z1 hz1 => ?_⟩
      have E5 : Kp [] H4 (upd H4 z1 (.lst [.int 0])) := Kp.new hz1
      have ok2 : ∀ z ∈ ws, LinkOk n z.2 := fun z hz => by
        have : z.2 ∈ (ps.map (·.2)).map swp := by rw [← eW]; exact List.mem_map.mpr ⟨z, hz, rfl⟩
        obtain ⟨q, hq, eq⟩ := List.mem_map.mp this
        obtain ⟨z', hz', ez'⟩ := List.mem_map.mp hq
        obtain ⟨a1, a2, a3, a4, a5⟩ := ok z' hz'
        rw [← eq, ← ez']
        exact ⟨a3, a4, a1, a2, fun e => a5 e.symm⟩
      refine ⟨_, rfl, bk, z1, ev, n, ws, rfl, (hW.kp0 ((E3.trans E4).trans E5) fun _ => nt_gP), ok2, upd_same, (hE1.kp0 (((E2.trans E3).trans E4).trans E5)), n0, n1, fun p2 met2 H6 hM2 R2 E6 => ?_⟩
      refine ⟨p2, _, rfl, .inl hM2.sq, _, rfl, rfl, ?_⟩
      rw [List.length_map]
      rw [eW, lof_swp] at R2
      refine hQ _ H6 ?_ ((E14.trans E5).trans E6)
      rw [decide_eq_true_iff]
      constructor
      · intro e2
        refine ⟨key1.mp e, R2.all.mp ?_⟩
        injection e2 with e2
        omega
      · intro S
        rw [R2.all.mpr S.bwd]
    · refine hQ _ H4 ?_ E14
      constructor
      · intro z
        cases z
      · intro S
        exact absurd (key1.mpr S.fwd) e
end
end Ps

set_option maxHeartbeats 4000000
/-! PsD7: faults, what a trace leaves. -/
namespace Ps
open PySem PySem.Spec PyProof.Rows L2
def RowsLe (rows : Rows) (m : Nat) : Prop := ∀ r ∈ rows, r.length ≤ m
theorem app_le {rows : Rows} {m : Nat} {r e : Int} (h : RowsLe rows m) (h0 : 0 ≤ r) (h1 : r < rows.length) : RowsLe (app rows r e) (m + 1) := fun q hq => by
  rcases mem_set hq with e1 | hq
  · rw [e1, List.length_append]
    exact Nat.succ_le_succ (h _ (row_mem h0 h1))
  · exact Nat.le_succ_of_le (h q hq)
theorem RowsLe.row {rows : Rows} {m : Nat} {r : Int} (h : RowsLe rows m) (h0 : 0 ≤ r) (h1 : r < rows.length) : (row rows r).length ≤ m := h _ (row_mem h0 h1)
section
variable {P : Program} {w : World} {K : PySem.W.Frag} {mg : Str → Option Value} {base : Heap}
/-! ### _law_bad -/
inductive BadOf (n t : Nat) (rows : Rows) : List V → Prop
  | len (h : rows.length ≠ n) : BadOf n t rows [.non]
  | row (h : rows.length = n) (i : Nat) (b : FirstBad t rows i) : BadOf n t rows [.int (i : Int)]
  | ok (h : rows.length = n) (b : ∀ r ∈ rows, okRow t r = true) : BadOf n t rows []
def spBad : Sp := fun vs H Q _ => ∃ (rw : Addr) (n t : Nat) (zs : List (Addr × List Int)), vs = [.int (n : Int), .int (t : Int), .ref rw] ∧ SL H rw gR zs ∧ n ≤ 1000 ∧ RowsLe (zs.map (·.2)) 10000 ∧
  ∀ (p : Addr) (xs : List V) (H' : Hp), H p = none → H' p = some (.lst xs) → BadOf n t (zs.map (·.2)) xs → Kp [] H H' → Q (.ref p) H'
abbrev N__law_bad : List Str := ["_law_many", "_law_total", "_law_rows_here", "_law_at", "_law_item"]
theorem sc__law_bad : FnScope N__law_bad ["_law_many", "_law_total", "_law_rows_here"] (defScope (top 48)) := ⟨rfl, rfl, rfl, by decide +kernel, rfl, by decide +kernel, by decide +kernel⟩
theorem d__law_bad (T : Txt K mg) : Def P w K mg base CX0 1 "_law_bad" ["_law_many", "_law_total", "_law_rows_here"] spBad := by
  refine T.def0 (i := 48) (j := 29) (N := N__law_bad) rfl sc__law_bad (fun vs H Q E h => ?_) (fun _ _ _ _ _ _ us hl => match us, hl with | [_, _, _], _ => rfl) (fun f cdv A outer s H vs Q E hr h => ?_)
  · obtain ⟨_, _, _, _, rfl, _⟩ := h
    rfl
  · obtain ⟨rw_, n, t, zs, rfl, hS, n1, zle, hQ⟩ := h
    refine ⟨_, (pss_cons (ps_if (pt_cmpR op_ne (pe_callB call_len_seq (by rfl) (T.n 0 _ rfl) (by decide +kernel) (pa_cons (pv 2) pa_nil)) (pv 0) (nomark _))
 (pss_one (ps_ret (pe_lst (pa_cons pe_non pa_nil))))
 pss_nil)
 (pss_cons (ps_for PassesOwn.never rfl (pi_range1 (by rfl) (T.n 2 _ rfl) (pa_cons (pv 0) pa_nil)) (pg_name (i := 3) sc__law_bad.nd rfl (Or.inl rfl))
 (pss_one (ps_for PassesOwn.never rfl (pi_list (pe_ix ix_list (pv 2) (pv 3) (fun _ _ => rfl))) (pg_name (i := 4) sc__law_bad.nd rfl (Or.inl rfl))
 (pss_one (ps_if (PW.pt (pw_or (pt_cmpR op_lt (pv 4) pe_int (nomark _)) (pw_or (pt_cmpR op_ge (pv 4) (pv 1) (nomark _)) (pw_or1 (pt_cmpR op_gt (pe_bm PySem.F.plainAttrs_list PySem.F.slot_list_count PySem.F.type_list_count mt_lcount (pe_ix ix_list (pv 2) (pv 3) (fun _ _ => rfl)) (pa_cons (pv 4) pa_nil)) pe_int (nomark _))))))
 (pss_one (ps_ret (pe_lst (pa_cons (pv 3) pa_nil))))
 pss_nil)))))
 (pss_one (ps_ret (pe_lst pa_nil))))), ?_⟩
    have zl : (zs.map fun z => V.ref z.1).length = (zs.map (·.2)).length := by rw [List.length_map, List.length_map]
    refine ⟨_, rfl, rw_, _, rfl, .inl hS.sq, _, rfl, rfl, _, rfl, iteN (fun hne => ?_) fun he => ?_⟩
    · refine ⟨by show 1 ≤ sizeLine; decide, fun p hp => hQ p _ _ hp upd_same (.len fun e => hne ?_) (Kp.new hp)⟩
      rw [zl, e]
    · have rl : (zs.map (·.2)).length = n := by
        rw [zl] at he
        injection he with he
        omega
      generalize hrows : zs.map (·.2) = rows at *
      refine ⟨_, rfl, n, rfl, by omega, by omega, for_range (lo := 0) (n := ((n : Nat) : Int).toNat) (fun i σ H' => H' = H ∧ (∃ v3 v4, σ = [some (.int (n : Int)), some (.int (t : Int)), some (.ref rw_), v3, v4]) ∧ ∀ (j : Nat) (r : List Int), j < i → rows[j]? = some r → okRow t r = true) ⟨rfl, ⟨none, none, rfl⟩, fun j r hj => absurd hj (Nat.not_lt_zero _)⟩ ?_ ?_⟩
      · rintro i σ H' hi ⟨rfl, ⟨v3, v4, rfl⟩, pre⟩
        rw [Int.toNat_natCast] at hi
        obtain ⟨z, hz, hat, hrow⟩ := sl_row (r := 0 + (i : Int)) hS hrows (by omega) (by omega)
        have hri : rows[i]? = some (row rows (0 + (i : Int))) := by
          have := row_at (rows := rows) (r := 0 + (i : Int)) (by omega) (by omega)
          rwa [show (0 + (i : Int)).toNat = i by omega] at this
        generalize row rows (0 + (i : Int)) = r at hrow hri
        refine ⟨_, rfl, _, rfl, rw_, _, _, _, rfl, rfl, hS.sq, hat, z.1, rfl, ⟨_, hrow.sq⟩, for_list (K := K) (a := z.1) (xs := r.map V.int) (fun j σ H1 => H1 = H' ∧ (∃ v4, σ = [some (.int (n : Int)), some (.int (t : Int)), some (.ref rw_), some (.int (0 + (i : Int))), v4]) ∧ ∀ (k : Nat) (x : Int), k < j → r[k]? = some x → ¬ (x < 0 ∨ (t : Int) ≤ x ∨ 1 < r.count x))
          ⟨rfl, ⟨_, rfl⟩, fun k x hk => absurd hk (Nat.not_lt_zero _)⟩ (fun j σ H1 _ h => by rw [h.1]; exact hrow.sq) ?_ ?_⟩
        · rintro j y σ H1 hj ⟨rfl, ⟨v4, rfl⟩, pre2⟩
          obtain ⟨x, hx, rfl⟩ := map_int_at hj
          have hbad : (x < 0 ∨ (t : Int) ≤ x ∨ 1 < r.count x) → FirstBad t rows i := fun h => ⟨⟨r, hri, bad_item.mpr ⟨x, List.mem_of_getElem? hx, h⟩⟩, fun j' r' hj' hr' => pre j' r' hj' hr'⟩
          have ret : (x < 0 ∨ (t : Int) ≤ x ∨ 1 < r.count x) → ∀ p, H1 p = none → Q (.ref p) (upd H1 p (.lst [.int (0 + (i : Int))])) := fun h p hp => by
            rw [show (0 + (i : Int)) = ((i : Nat) : Int) by omega]
            exact hQ p _ _ hp upd_same (.row rl i (hbad h)) (Kp.new hp)
          have nxt : ¬ (x < 0 ∨ (t : Int) ≤ x ∨ 1 < r.count x) → ∀ (k : Nat) (x : Int), k < j + 1 → r[k]? = some x → ¬ (x < 0 ∨ (t : Int) ≤ x ∨ 1 < r.count x) := fun h k x' hk hx' => by
            rcases Nat.lt_succ_iff_lt_or_eq.mp hk with hk | hk
            · exact pre2 k x' hk hx'
            · subst hk
              rw [hx] at hx'
              cases hx'
              exact h
          refine ⟨_, rfl, _, 0, rfl, rfl, _, rfl, iteD (fun c1 => ⟨_, rfl, by show 1 ≤ sizeLine; decide, ret (.inl c1)⟩) fun c1 => ?_⟩
          refine ⟨_, rfl, _, rfl, _, _, rfl, rfl, _, rfl, iteD (fun c2 => ⟨_, rfl, by show 1 ≤ sizeLine; decide, ret (.inr (.inl c2))⟩) fun c2 => ?_⟩
          refine ⟨_, rfl, _, rfl, rw_, _, _, _, rfl, rfl, hS.sq, hat, .inl ⟨rfl, _, hrow.sq⟩, _, rfl, z.1, r, x, rfl, rfl, hrow.sq, _, 1, rfl, rfl, _, rfl, iteD (fun c3 => ⟨_, rfl, by show 1 ≤ sizeLine; decide, ret (.inr (.inr (by omega)))⟩) fun c3 => ?_⟩
          exact ⟨rfl, ⟨_, rfl⟩, nxt (by omega)⟩
        · rintro σ H1 ⟨rfl, ⟨v4, rfl⟩, pre2⟩
          refine ⟨rfl, ⟨_, _, rfl⟩, fun j r' hj hr' => ?_⟩
          rcases Nat.lt_succ_iff_lt_or_eq.mp hj with hj | hj
          · exact pre j r' hj hr'
          · subst hj
            rw [hri] at hr'
            cases hr'
            cases e : okRow t r with
            | true => rfl
            | false =>
              obtain ⟨x, hx, hb⟩ := bad_item.mp e
              obtain ⟨k, hk, ek⟩ := List.getElem_of_mem hx
              exact absurd hb (pre2 k x (by rw [List.length_map]; exact hk) (by rw [List.getElem?_eq_getElem hk, ek]))
      · rintro σ H' ⟨rfl, ⟨v3, v4, rfl⟩, pre⟩
        refine ⟨Nat.zero_le _, fun p hp => hQ p _ _ hp upd_same (.ok rl fun r hr => ?_) (Kp.new hp)⟩
        obtain ⟨k, hk, ek⟩ := List.getElem_of_mem hr
        exact pre k r (by rw [Int.toNat_natCast]; omega) (by rw [List.getElem?_eq_getElem hk, ek])
/-! ### _law_after -/
/-- the homes that a list says -/
def hm (owners : List Int) : Int → Int := fun e => owners.getD e.toNat 0
theorem hm_at {owners : List Int} {e : Int} (h0 : 0 ≤ e) (h1 : e < owners.length) : owners[e.toNat]? = some (hm owners e) := by
  have : e.toNat < owners.length := by omega
  unfold hm
  rw [List.getD_eq_getElem?_getD, List.getElem?_eq_getElem this]
  rfl
theorem hm_mem {owners : List Int} {e : Int} (h0 : 0 ≤ e) (h1 : e < owners.length) : hm owners e ∈ owners := List.mem_of_getElem? (hm_at h0 h1)
def spAfter : Sp := fun vs H Q _ => ∃ (ow rw tr : Addr) (n t : Nat) (owners : List Int) (zs : List (Addr × List Int)) (ts : List (Addr × Act)), vs = [.ref ow, .ref rw, .ref tr] ∧ IL H ow owners ∧ owners.length = t ∧ (∀ o ∈ owners, 0 ≤ o ∧ o < (n : Int)) ∧ SL H rw gR zs ∧ zs.length = n ∧ n ≤ 20 ∧
  RowsLe (zs.map (·.2)) 10000 ∧ SL H tr gA ts ∧ (∀ z ∈ ts, ActOk n t z.2) ∧ ts.length ≤ 10000 ∧
  ∀ (p : Addr) (H' : Hp), Lg H H' p (apAll (hm owners) (zs.map (·.2)) (ts.map (·.2))) → Kp [] H H' → Q (.ref p) H'
abbrev N__law_after : List Str := ["_law_owners", "_law_rows_here", "_law_trace", "_law_now", "_law_deed", "_law_row"]
theorem sc__law_after : FnScope N__law_after ["_law_owners", "_law_rows_here", "_law_trace"] (defScope (top 54)) := ⟨rfl, rfl, rfl, by decide +kernel, rfl, by decide +kernel, by decide +kernel⟩
theorem apAll_take {home : Int → Int} {rows : Rows} {tr : List Act} {i : Nat} {a : Act} (h : tr[i]? = some a) : apAll home rows (tr.take (i + 1)) = ap home (apAll home rows (tr.take i)) a := by
  rw [List.take_succ, h]
  exact apAll_snoc rows _ a
theorem d__law_after (T : Txt K mg) : Def P w K mg base CX0 1 "_law_after" ["_law_owners", "_law_rows_here", "_law_trace"] spAfter := by
  refine T.def0 (i := 54) (j := 35) (N := N__law_after) rfl sc__law_after (fun vs H Q E h => ?_) (fun _ _ _ _ _ _ us hl => match us, hl with | [_, _, _], _ => rfl) (fun f cdv A outer s H vs Q E hr h => ?_)
  · obtain ⟨_, _, _, _, _, _, _, _, rfl, _⟩ := h
    rfl
  · obtain ⟨ow, rw_, tr, n, t, owners, zs, ts, rfl, hO, ol, oo, hS, zl, n1, zle, hT, ok, tl, hQ⟩ := h
    refine ⟨_, (pss_cons (ps_setLc (i := 3) (own := [("_law_row", 5)]) (te := tCB (rLO K) (tCons (tVar 5) tNil)) (by rfl) sc__law_after.nd rfl rfl (sw_true rfl rfl rfl (by decide +kernel)) (pi_list (pv 1)) (blkOk_by (own := [("_law_row", 5)]) (N := N__law_after) (sc := defScope (top 54)) (by decide +kernel)) (fun _ _ _ _ _ => (pg_name (i := 5) sc__law_after.nd rfl (Or.inl rfl))) (fun _ _ _ _ _ => pts_nil) (fun _ _ _ _ _ => (pe_callTy call_list_of (by rfl) (T.n 1 _ rfl) (by decide +kernel) (pa_cons (pv 5) pa_nil))))
 (pss_cons (ps_for PassesOwn.never rfl (pi_list (pv 2)) (pg_name (i := 4) sc__law_after.nd rfl (Or.inl rfl))
 (pss_one (ps_if (pt_cmpR op_eq (pe_ix ix_tup (pv 4) pe_int (fun _ _ => rfl)) pe_str (nomark _))
 (pss_one (ps_expr (pe_bm PySem.F.plainAttrs_list PySem.F.slot_list_append PySem.F.type_list_append mt_append (pe_ix ix_list (pv 3) (pe_ix ix_list (pv 0) (pe_ix ix_tup (pv 4) pe_int (fun _ _ => rfl)) (fun _ _ => rfl)) (fun _ _ => rfl)) (pa_cons (pe_ix ix_tup (pv 4) pe_int (fun _ _ => rfl)) pa_nil))))
 (pss_one (ps_expr (pe_bm PySem.F.plainAttrs_list PySem.F.slot_list_append PySem.F.type_list_append mt_append (pe_ix ix_list (pv 3) (pe_ix ix_tup (pv 4) pe_int (fun _ _ => rfl)) (fun _ _ => rfl)) (pa_cons (pe_ix ix_tup (pv 4) pe_int (fun _ _ => rfl)) pa_nil)))))))
 (pss_one (ps_ret (pv 3))))), ?_⟩
    refine ⟨_, rfl, rw_, rfl, ⟨_, hS.sq⟩, fun q hq => copy_rows hS hq (by omega) (fun _ => rfl) (fun _ => rfl) fun H1 L1 E1 => ?_⟩
    refine ⟨_, rfl, tr, rfl, ⟨_, (hT.kp0 E1 fun _ => nt_gA).sq⟩, for_list (K := K) (a := tr) (xs := ts.map fun z => V.ref z.1) (fun i σ H' => ∃ v4, σ = [some (.ref ow), some (.ref rw_), some (.ref tr), some (.ref q), v4, none] ∧ Lg H H' q (apAll (hm owners) (zs.map (·.2)) ((ts.map (·.2)).take i)) ∧ Kp [] H H' ∧
      (apAll (hm owners) (zs.map (·.2)) ((ts.map (·.2)).take i)).length = n ∧ RowsLe (apAll (hm owners) (zs.map (·.2)) ((ts.map (·.2)).take i)) (10000 + i)) ⟨none, rfl, L1, E1, by rw [List.take_zero]; show (zs.map (·.2)).length = n; rw [List.length_map, zl], zle⟩ (fun i σ H' _ ⟨_, _, _, e, _⟩ => (hT.kp0 e fun _ => nt_gA).sq) ?_ ?_⟩
    · rintro i y σ H' hi ⟨v4, rfl, L2, E2, rl, rle⟩
      obtain ⟨z, hz, rfl⟩ := map_ref_at hi
      have hzm := List.mem_of_getElem? hz
      have iz : i < ts.length := (List.getElem?_eq_some_iff.mp hz).1
      have ht := (hT.kp0 E2 fun _ => nt_gA).all z hzm
      have az := ok z hzm
      have e1 : (ts.map (·.2))[i]? = some z.2 := by rw [List.getElem?_map, hz]; rfl
      have e2 := apAll_take (home := hm owners) (rows := zs.map (·.2)) e1
      rw [e2]
      generalize apAll (hm owners) (zs.map (·.2)) ((ts.map (·.2)).take i) = rows at L2 rl rle
      generalize z.2 = a at ht az
      cases a with
      | w e =>
        obtain ⟨w0, w1⟩ := az
        have ho := hm_at (owners := owners) w0 (by omega)
        obtain ⟨o0, o1⟩ := oo _ (hm_mem (owners := owners) w0 (by omega))
        obtain ⟨xs, a, hq2, hat, ha, na, L3⟩ := L2.app (r := hm owners e) (e := e) o0 (by omega)
        have hrl := rle.row o0 (by omega)
        refine ⟨_, rfl, z.1, _, 0, _, rfl, rfl, SqT.of ht, rfl, rfl, _, rfl, iteD (fun _ => ?_) fun h => absurd rfl h⟩
        refine ⟨_, rfl, _, rfl, _, rfl, z.1, _, 1, _, rfl, rfl, SqT.of ht, rfl, ow, _, _, _, rfl, rfl, (hO.kp0 E2).sq, at_int w0 ho, q, _, _, _, rfl, rfl, SqL.of hq2, hat, .inl ⟨rfl, _, SqL.of ha⟩, _, rfl, z.1, _, 1, _, rfl, rfl, SqT.of ht, rfl, a, _, _, rfl, rfl, ha, small (by rw [List.length_map]; omega), ?_⟩
        exact ⟨_, rfl, L3, E2.mut na, by show (app rows (hm owners e) e).length = n; rw [app_len]; exact rl, app_le rle o0 (by omega)⟩
      | p s r e =>
        obtain ⟨s0, s1, r0, r1, w0, w1⟩ := az
        obtain ⟨xs, a, hq2, hat, ha, na, L3⟩ := L2.app (r := r) (e := e) r0 (by omega)
        have hrl := rle.row r0 (by omega)
        refine ⟨_, rfl, z.1, _, 0, _, rfl, rfl, SqT.of ht, rfl, rfl, _, rfl, iteD (fun h => absurd h (by decide +kernel)) fun _ => ?_⟩
        refine ⟨_, rfl, _, rfl, z.1, _, 2, _, rfl, rfl, SqT.of ht, rfl, q, _, _, _, rfl, rfl, SqL.of hq2, hat, .inl ⟨rfl, _, SqL.of ha⟩, _, rfl, z.1, _, 3, _, rfl, rfl, SqT.of ht, rfl, a, _, _, rfl, rfl, ha, small (by rw [List.length_map]; omega), ?_⟩
        exact ⟨_, rfl, L3, E2.mut na, by show (app rows r e).length = n; rw [app_len]; exact rl, app_le rle r0 (by omega)⟩
    · rintro σ H' ⟨v4, rfl, L2, E2, rl, rle⟩
      rw [List.length_map] at L2
      rw [show (ts.map (·.2)).take ts.length = ts.map (·.2) from List.take_of_length_le (by rw [List.length_map]; exact Nat.le_refl _)] at L2
      exact ⟨_, rfl, hQ q H' L2 E2⟩
end
end Ps

set_option maxHeartbeats 4000000
/-! PsD2: orders, trees. -/
namespace Ps
open PySem PySem.Spec PyProof.Rows L2
section
variable {P : Program} {w : World} {K : PySem.W.Frag} {mg : Str → Option Value} {base : Heap}
/-! ### _law_order -/
theorem perm_erase : ∀ {l : List Int} {i : Nat} {x : Int}, l[i]? = some x → l.Perm (x :: l.eraseIdx i)
  | [], i, x, h => by simp at h
  | a :: l, 0, x, h => by
    have e : a = x := Option.some.inj h
    subst e
    exact List.Perm.refl _
  | a :: l, i + 1, x, h => by
    have ih := perm_erase (l := l) (i := i) (x := x) (by simpa using h)
    exact (ih.cons a).trans (List.Perm.swap x a _)
theorem map_erase (l : List Int) (i : Nat) : (l.map V.int).eraseIdx i = (l.eraseIdx i).map V.int := by
  induction l generalizing i with
  | nil => rfl
  | cons a l ih =>
    cases i with
    | zero => rfl
    | succ i =>
      show V.int a :: (l.map V.int).eraseIdx i = V.int a :: (l.eraseIdx i).map V.int
      rw [ih]
/-- names: all of 0 .. n - 1 in some order -/
def Names (n : Int) (ns : List Int) : Prop := ns.Nodup ∧ ns.length = n.toNat ∧ ∀ x ∈ ns, 0 ≤ x ∧ x < n
def spOrder : Sp := fun vs H Q _ => ∃ (b c : Addr) (n : Int), vs = [.ref b, .int n] ∧ Box H b c ∧ 0 ≤ n ∧ n ≤ 1000 ∧ ∀ (p : Addr) (ns : List Int) (H' : Hp), H p = none → IL H' p ns → Names n ns → Box H' b c → Kp [b] H H' → Q (.ref p) H'
abbrev N__law_order : List Str := ["_law_box_here", "_law_total", "_law_rest", "_law_rows_here", "_law_turn"]
theorem sc__law_order : FnScope N__law_order ["_law_box_here", "_law_total"] (defScope (top 40)) := ⟨rfl, rfl, rfl, by decide +kernel, rfl, by decide +kernel, by decide +kernel⟩
theorem d__law_order (T : Txt K mg) (D__law_draw : Def P w K mg base CX0 1 "_law_draw" ["_law_box_here", "_law_many"] spDraw) : Def P w K mg base CX0 2 "_law_order" ["_law_box_here", "_law_total"] spOrder := by
  refine T.def0 (i := 40) (j := 21) (N := N__law_order) rfl sc__law_order (fun vs H Q E h => ?_) (fun _ _ _ _ _ _ us hl => match us, hl with | [_, _], _ => rfl) (fun f cdv A outer s H vs Q E hr h => ?_)
  · obtain ⟨b, c, n, rfl, _⟩ := h
    rfl
  · obtain ⟨b, c, n, rfl, B, n0, n1, hQ⟩ := h
    refine ⟨_, (pss_cons (ps_set (i := 2) sc__law_order.nd rfl (Or.inl rfl) (pe_listRg (by rfl) (by rfl) (T.n 1 _ rfl) (prg_1 (by rfl) (T.n 2 _ rfl) (pv 1))))
 (pss_cons (ps_set (i := 3) sc__law_order.nd rfl (Or.inl rfl) (pe_lst pa_nil))
 (pss_cons (ps_for PassesOwn.never rfl (pi_range1 (by rfl) (T.n 2 _ rfl) (pa_cons (pv 1) pa_nil)) (pg_name (i := 4) sc__law_order.nd rfl (Or.inl rfl))
 (pss_one (ps_expr (pe_bm PySem.F.plainAttrs_list PySem.F.slot_list_append PySem.F.type_list_append mt_append (pv 3) (pa_cons (pe_bm PySem.F.plainAttrs_list PySem.F.slot_list_pop PySem.F.type_list_pop mt_popAt (pv 2) (pa_cons (pe_fn D__law_draw (hr.mono (by decide)) (pa_cons (pv 0) (pa_cons (pe_callB call_len_seq (by rfl) (T.n 0 _ rfl) (by decide +kernel) (pa_cons (pv 2) pa_nil)) pa_nil))) pa_nil)) pa_nil)))))
 (pss_one (ps_ret (pv 3)))))), ?_⟩
    refine ⟨_, rfl, n, rfl, .of_le (Int.le_refl _) (by omega) (by omega) n0, fun q hq => ⟨Nat.zero_le _, fun p hp => ?_⟩⟩
    have npq : p ≠ q := (Kp.upf hp).1
    have hp0 : H p = none := (Kp.upf hp).2
    refine ⟨_, rfl, n, rfl, by omega, by omega, for_range (lo := 0) (n := n.toNat) (fun i σ H' => ∃ (rest out : List Int) (v : Option V), σ = [some (.ref b), some (.int n), some (.ref q), some (.ref p), v] ∧ IL H' q rest ∧ IL H' p out ∧ Box H' b c ∧ Kp [b] H H' ∧
      (out ++ rest).Perm (ents n.toNat) ∧ rest.length + i = n.toNat) ?_ ?_ ?_⟩
    · refine ⟨ents n.toNat, [], none, rfl, ?_, upd_same, ((B.upN hq).up (B.nb hp0) (B.nc hp0)), ((Kp.refl H).mut hq).mut hp0, List.Perm.refl _, by rw [ents_len]; rfl⟩
      show upd _ _ _ _ = _
      rw [upd_ne npq.symm, upd_same, rgV_ents]
    · rintro i σ H' hi ⟨rest, out, v, rfl, hR, hO, B1, E1, pm, ln⟩
      refine ⟨_, rfl, .inl ⟨rfl, _, hO.sq⟩, _, rfl, .inl ⟨rfl, _, hR.sq⟩, _, rfl, _, rfl, q, _, rfl, .inl hR.sq, b, c, _, rfl, B1, by rw [List.length_map]; omega, by rw [List.length_map]; omega, fun k H2 k0 k1 B2 E2 => ?_⟩
      rw [List.length_map] at k1
      have hk : k.toNat < rest.length := by omega
      have hR2 := hR.box B1 E2
      have hO2 := hO.box B1 E2
      refine ⟨q, _, k, k.toNat, .int rest[k.toNat], rfl, rfl, hR2, by omega, by omega, seqIndex_of k0 (by rw [List.length_map]; omega), by rw [List.getElem?_map, List.getElem?_eq_getElem hk]; rfl, ?_⟩
      have hO3 : IL (upd H2 q (.lst ((rest.map V.int).eraseIdx k.toNat))) p out := hO2.up npq
      have lo : out.length ≤ 1000 := by
        have := pm.length_eq
        rw [List.length_append, ents_len] at this
        omega
      refine ⟨p, _, _, rfl, rfl, hO3, small (by rw [List.length_map]; omega), ?_⟩
      have pq := perm_erase (List.getElem?_eq_getElem hk)
      refine ⟨rest.eraseIdx k.toNat, out ++ [rest[k.toNat]], _, rfl, ?_, ?_, (B2.up (B.nb hq) (B.nc hq)).up (B.nb hp0) (B.nc hp0), ((E1.trans E2).mut hq).mut hp0, ?_, ?_⟩
      · show upd _ _ _ _ = _
        rw [upd_ne npq.symm, upd_same, map_erase]
      · show upd _ _ _ _ = _
        rw [upd_same, List.map_append]
        rfl
      · rw [List.append_assoc]
        exact (List.Perm.append_left out pq.symm).trans pm
      · have := pq.length_eq
        rw [List.length_cons] at this
        omega
    · rintro σ H' ⟨rest, out, v, rfl, hR, hO, B1, E1, pm, ln⟩
      have e : rest = [] := List.eq_nil_of_length_eq_zero (by omega)
      subst e
      rw [List.append_nil] at pm
      exact ⟨_, rfl, hQ p out H' hp0 hO ⟨pm.nodup_iff.mpr (ents_nodup _), by rw [pm.length_eq, ents_len], fun x hx => by
        have := mem_ents.mp (pm.mem_iff.mp hx)
        omega⟩ B1 E1⟩
/-! ### _law_tree -/
theorem Names.ne {n : Int} {ns : List Int} (h : Names n ns) {i j : Int} {x y : Int} (i0 : 0 ≤ i) (j0 : 0 ≤ j) (hij : i ≠ j) (hx : ns[i.toNat]? = some x) (hy : ns[j.toNat]? = some y) : LinkOk n (x, y) := by
  have hx2 := h.2.2 x (List.mem_of_getElem? hx)
  have hy2 := h.2.2 y (List.mem_of_getElem? hy)
  refine ⟨hx2.1, hx2.2, hy2.1, hy2.2, fun e => ?_⟩
  have e' : x = y := e
  subst e'
  have := nd_ix h.1 hx hy
  omega
theorem Names.get {n : Int} {ns : List Int} (h : Names n ns) {i : Int} (h0 : 0 ≤ i) (h1 : i < n) : ∃ x, ns[i.toNat]? = some x := by
  have : i.toNat < ns.length := by rw [h.2.1]; omega
  exact ⟨_, List.getElem?_eq_getElem this⟩
def spTree : Sp := fun vs H Q _ => ∃ (b c : Addr) (n : Int), vs = [.ref b, .int n] ∧ Box H b c ∧ 1 ≤ n ∧ n ≤ 1000 ∧
  ∀ (p : Addr) (zs : List (Addr × Int × Int)) (H' : Hp), H p = none → SL H' p gP zs → (∀ z ∈ zs, LinkOk n z.2) → zs.length ≤ 2000 → Box H' b c → Kp [b] H H' → Q (.ref p) H'
abbrev N__law_tree : List Str := ["_law_box_here", "_law_many", "_law_names", "_law_shape", "_law_pairs", "_law_at", "_law_up", "_law_pair"]
theorem sc__law_tree : FnScope N__law_tree ["_law_box_here", "_law_many"] (defScope (top 41)) := ⟨rfl, rfl, rfl, by decide +kernel, rfl, by decide +kernel, by decide +kernel⟩
theorem d__law_tree (T : Txt K mg) (D__law_draw : Def P w K mg base CX0 1 "_law_draw" ["_law_box_here", "_law_many"] spDraw) (D__law_order : Def P w K mg base CX0 2 "_law_order" ["_law_box_here", "_law_total"] spOrder) : Def P w K mg base CX0 3 "_law_tree" ["_law_box_here", "_law_many"] spTree := by
  refine T.def0 (i := 41) (j := 22) (N := N__law_tree) rfl sc__law_tree (fun vs H Q E h => ?_) (fun _ _ _ _ _ _ us hl => match us, hl with | [_, _], _ => rfl) (fun f cdv A outer s H vs Q E hr h => ?_)
  · obtain ⟨b, c, n, rfl, _⟩ := h
    rfl
  · obtain ⟨b, c, n, rfl, B, n0, n1, hQ⟩ := h
    refine ⟨_, (pss_cons (ps_set (i := 2) sc__law_tree.nd rfl (Or.inl rfl) (pe_fn D__law_order (hr.mono (by decide)) (pa_cons (pv 0) (pa_cons (pv 1) pa_nil))))
 (pss_cons (ps_set (i := 3) sc__law_tree.nd rfl (Or.inl rfl) (pe_fn D__law_draw (hr.mono (by decide)) (pa_cons (pv 0) (pa_cons pe_int pa_nil))))
 (pss_cons (ps_set (i := 4) sc__law_tree.nd rfl (Or.inl rfl) (pe_lst pa_nil))
 (pss_cons (ps_for PassesOwn.never rfl (pi_range2 (by rfl) (T.n 2 _ rfl) (pa_cons pe_int (pa_cons (pv 1) pa_nil))) (pg_name (i := 5) sc__law_tree.nd rfl (Or.inl rfl))
 (pss_cons (ps_set (i := 6) sc__law_tree.nd rfl (Or.inl rfl) (pe_op op_sub (pv 5) pe_int))
 (Evl.pss_cut (ps_if (pt_cmpR op_eq (pv 3) pe_int (nomark _))
 (pss_one (ps_set (i := 6) sc__law_tree.nd rfl (Or.inl rfl) pe_int))
 pss_nil)
 (Evl.pss_cut (ps_if (pt_cmpR op_gt (pv 3) pe_int (nomark _))
 (pss_one (ps_set (i := 6) sc__law_tree.nd rfl (Or.inl rfl) (pe_fn D__law_draw (hr.mono (by decide)) (pa_cons (pv 0) (pa_cons (pv 5) pa_nil)))))
 pss_nil)
 (pss_one (ps_expr (pe_bm PySem.F.plainAttrs_list PySem.F.slot_list_append PySem.F.type_list_append mt_append (pv 4) (pa_cons (pe_tup (pa_cons (pe_ix ix_list (pv 2) (pv 5) (fun _ _ => rfl)) (pa_cons (pe_ix ix_list (pv 2) (pv 6) (fun _ _ => rfl)) pa_nil))) pa_nil))))))))
 (pss_one (ps_ret (pe_op op_cat (pv 4) (pe_lc (own := [("_law_pair", 7)]) (te := tTup (tCons (tOp (rIxT K) (tVar 7) (tC (.int 1))) (tCons (tOp (rIxT K) (tVar 7) (tC (.int 0))) tNil))) (by rfl) sc__law_tree.nd (pi_list (pv 4)) (blkOk_by (own := [("_law_pair", 7)]) (N := N__law_tree) (sc := defScope (top 41)) (by decide +kernel)) (fun _ _ _ _ _ => (pg_name (i := 7) sc__law_tree.nd rfl (Or.inl rfl))) (fun _ _ _ _ _ => pts_nil) (fun _ _ _ _ _ => (pe_tup (pa_cons (pe_ix ix_tup (pv 7) pe_int (fun _ _ => rfl)) (pa_cons (pe_ix ix_tup (pv 7) pe_int (fun _ _ => rfl)) pa_nil)))))))))))), ?_⟩
    refine ⟨_, rfl, _, rfl, b, c, n, rfl, B, by omega, n1, fun q ns H1 hq hN nm B1 E1 => ?_⟩
    refine ⟨_, rfl, b, c, 4, rfl, B1, by decide, by decide, fun sh H2 s0 s1 B2 E2 => ?_⟩
    have hN2 := hN.box B1 E2
    refine ⟨Nat.zero_le _, fun p hp2 => ?_⟩
    have E12 := E1.trans E2
    have hp : H p = none := E12.f p hp2
    have npq : q ≠ p := ne_of_none hN2 hp2
    refine ⟨_, rfl, 1, n, rfl, ⟨by omega, by omega, by omega, by omega⟩, for_range (lo := 1) (n := (n - 1).toNat) (fun i σ H' => ∃ (zs : List (Addr × Int × Int)) (v5 v6 : Option V), σ = [some (.ref b), some (.int n), some (.ref q), some (.int sh), some (.ref p), v5, v6, none] ∧ IL H' q ns ∧ SL H' p gP zs ∧
      (∀ z ∈ zs, LinkOk n z.2) ∧ zs.length = i ∧ Box H' b c ∧ Kp [b] H H') ?_ ?_ ?_⟩
    · exact ⟨[], none, none, rfl, hN2.upN hp2, SL.nil, (fun _ h => nomatch h), rfl, B2.upN hp2, E12.mut hp⟩
    · rintro i σ H' hi ⟨zs, v5, v6, rfl, hN3, hS, lk, ln, B3, E3⟩
      refine ⟨_, rfl, _, 1, rfl, rfl, ?_⟩
      refine ⟨fun σ' H'' => H'' = H' ∧ ∃ u : Int, 0 ≤ u ∧ u ≤ i ∧ σ' = [some (.ref b), some (.int n), some (.ref q), some (.int sh), some (.ref p), some (.int (1 + i)), some (.int u), none], ?_, ?_⟩
      · refine ⟨_, rfl, rfl, _, rfl, iteD (fun _ => ⟨rfl, 0, by omega, by omega, rfl⟩) fun _ => ⟨rfl, 1 + (i : Int) - 1, by omega, by omega, rfl⟩⟩
      · rintro σ' H'' ⟨rfl, u, u0, u1, rfl⟩
        refine ⟨fun σ' H1 => ∃ u : Int, 0 ≤ u ∧ u ≤ i ∧ σ' = [some (.ref b), some (.int n), some (.ref q), some (.int sh), some (.ref p), some (.int (1 + i)), some (.int u), none] ∧ Box H1 b c ∧ Kp [b] H'' H1, ?_, ?_⟩
        · refine ⟨_, rfl, sh, 1, rfl, rfl, _, rfl, iteD (fun _ => ?_) fun _ => ⟨u, u0, u1, rfl, B3, Kp.refl _⟩⟩
          exact ⟨_, rfl, _, rfl, b, c, _, rfl, B3, by omega, by omega, fun k H1 k0 k1 B4 E4 => ⟨k, k0, by omega, rfl, B4, E4⟩⟩
        · rintro σ' H1 ⟨u, u0, u1, rfl, B4, E4⟩
          have hN4 := hN3.box B3 E4
          have hS4 := hS.boxP B3 E4
          obtain ⟨x, hx⟩ := nm.get (i := 1 + (i : Int)) (by omega) (by omega)
          obtain ⟨y, hy⟩ := nm.get (i := u) u0 (by omega)
          have lo := nm.ne (by omega) u0 (by omega) hx hy
          refine ⟨_, rfl, .inl ⟨rfl, _, hS4.sq⟩, _, rfl, _, rfl, q, _, _, _, rfl, rfl, hN4.sq, at_int (by omega) hx, _, rfl, _, rfl, q, _, _, _, rfl, rfl, hN4.sq, at_int u0 hy, by show 2 ≤ sizeLine; decide, fun t ht => ?_⟩
          have ntp : t ≠ p := (ne_of_none hS4.at_ ht).symm
          refine ⟨p, _, _, rfl, rfl, by rw [upd_ne ntp.symm]; exact hS4.at_, small (by rw [List.length_map]; omega), ?_⟩
          have hS5 := hS4.snoc (x := (x, y)) ht hS4.npP
          have E5 := E3.trans E4
          refine ⟨zs ++ [(t, x, y)], _, _, rfl, ?_, hS5, fun z hz => ?_, by rw [List.length_append, ln]; rfl, (B4.upN ht).up (B.nb hp) (B.nc hp), (E5.mut (E5.f t ht)).mut hp⟩
          · exact (hN4.upN ht).up npq
          · rcases List.mem_append.mp hz with hz | hz
            · exact lk z hz
            · rw [List.mem_singleton.mp hz]
              exact lo
    · rintro σ H' ⟨zs, v5, v6, rfl, hN3, hS, lk, ln, B3, E3⟩
      have zl : zs.length ≤ 1000 := by omega
      refine ⟨_, rfl, _, rfl, p, rfl, ⟨_, hS.sq⟩, fun D hD => ?_⟩
      have hDH : H D = none := E3.f D hD
      have npD : p ≠ D := ne_of_none hS.at_ hD
      refine lc_list (K := K) (a := p) (xs := zs.map fun z => V.ref z.1) (fun i H1 => ∃ ws : List (Addr × Int × Int), SL H1 p gP zs ∧ SL H1 D gP ws ∧ (∀ z ∈ ws, LinkOk n z.2) ∧ ws.length = i ∧ Box H1 b c ∧ Kp [b] H H1)
        ⟨[], hS.upN hD, SL.nil, (fun _ h => nomatch h), rfl, B3.upN hD, E3.mut hDH⟩ (fun i H1 _ ⟨ws, h, _⟩ => h.sq) ?_ ?_
      · rintro i y H1 hi ⟨ws, h1, h2, h3, h4, B4, E4⟩
        obtain ⟨z, hz, rfl⟩ := map_ref_at hi
        have hzm := List.mem_of_getElem? hz
        have ht := h1.all z hzm
        have lz : i < zs.length := (List.getElem?_eq_some_iff.mp hz).1
        refine ⟨rfl, yesT ?_⟩
        refine ⟨_, rfl, z.1, _, 1, _, rfl, rfl, SqT.of ht, rfl, _, rfl, z.1, _, 0, _, rfl, rfl, SqT.of ht, rfl, by show 2 ≤ sizeLine; decide, fun t ht2 => ?_⟩
        have ntD : D ≠ t := ne_of_none h2.at_ ht2
        refine ⟨_, (by rw [upd_ne ntD]; exact h2.at_), small (by rw [List.length_map]; omega), ws ++ [(t, z.2.2, z.2.1)], ?_, h2.snoc (x := (z.2.2, z.2.1)) ht2 h2.npP, fun z' hz' => ?_, by rw [List.length_append, h4]; rfl, (B4.upN ht2).up (B.nb hDH) (B.nc hDH), (E4.mut (E4.f t ht2)).mut hDH⟩
        · exact (h1.upN ht2).up npD fun z' hz' => by
            have := h1.all z' hz'
            intro e
            rw [e, h2.at_] at this
            cases this
        · rcases List.mem_append.mp hz' with hz' | hz'
          · exact h3 z' hz'
          · rw [List.mem_singleton.mp hz']
            obtain ⟨a1, a2, a3, a4, a5⟩ := lk z hzm
            exact ⟨a3, a4, a1, a2, fun e => a5 e.symm⟩
      · rintro H1 ⟨ws, h1, h2, h3, h4, B4, E4⟩
        rw [List.length_map] at h4
        refine ⟨p, D, _, _, rfl, rfl, h1.at_, h2.at_, smallE (by rw [List.length_map, List.length_map]; omega), fun r hr => ?_⟩
        refine hQ r (zs ++ ws) _ (E4.f r hr) ⟨by rw [upd_same, List.map_append], fun z hz => ?_⟩ (fun z hz => ?_) (by rw [List.length_append]; omega) (B4.upN hr) (E4.mut (E4.f r hr))
        · rcases List.mem_append.mp hz with hz | hz
          · rw [upd_ne (ne_of_none (h1.all z hz) hr)]
            exact h1.all z hz
          · rw [upd_ne (ne_of_none (h2.all z hz) hr)]
            exact h2.all z hz
        · rcases List.mem_append.mp hz with hz | hz
          · exact lk z hz
          · exact h3 z hz
end
end Ps

set_option maxHeartbeats 4000000
/-! PsD3: links. -/
namespace Ps
open PySem PySem.Spec PyProof.Rows L2
section
variable {P : Program} {w : World} {K : PySem.W.Frag} {mg : Str → Option Value} {base : Heap}
/-! ### _law_links -/
/-- links that may be changed -/
structure LkAt (H0 : Hp) (b : Addr) (n : Int) (m : Nat) (H : Hp) (p : Addr) : Prop where
  new : H0 p = none
  ex : ∃ zs : List (Addr × Int × Int), SL H p gP zs ∧ (∀ z ∈ zs, LinkOk n z.2) ∧ zs.length ≤ m
  kp : Kp [b] H0 H
def spLinks : Sp := fun vs H Q _ => ∃ (b c : Addr) (n k : Int), vs = [.ref b, .int n, .int k] ∧ Box H b c ∧ 1 ≤ n ∧ n ≤ 100 ∧
  ∀ (p : Addr) (H' : Hp), LkAt H b n 20000 H' p → Box H' b c → Q (.ref p) H'
abbrev N__law_links : List Str := ["_law_box_here", "_law_many", "_law_kind", "_law_links_here", "_law_names", "_law_x", "_law_y", "_law_at"]
theorem sc__law_links : FnScope N__law_links ["_law_box_here", "_law_many", "_law_kind"] (defScope (top 42)) := ⟨rfl, rfl, rfl, by decide +kernel, rfl, by decide +kernel, by decide +kernel⟩
theorem d__law_links (T : Txt K mg) (D__law_draw : Def P w K mg base CX0 1 "_law_draw" ["_law_box_here", "_law_many"] spDraw) (D__law_order : Def P w K mg base CX0 2 "_law_order" ["_law_box_here", "_law_total"] spOrder)
    (D__law_tree : Def P w K mg base CX0 3 "_law_tree" ["_law_box_here", "_law_many"] spTree) : Def P w K mg base CX0 4 "_law_links" ["_law_box_here", "_law_many", "_law_kind"] spLinks := by
  refine T.def0 (i := 42) (j := 23) (N := N__law_links) rfl sc__law_links (fun vs H Q E h => ?_) (fun _ _ _ _ _ _ us hl => match us, hl with | [_, _, _], _ => rfl) (fun f cdv A outer s H vs Q E hr h => ?_)
  · obtain ⟨b, c, n, k, rfl, _⟩ := h
    rfl
  · obtain ⟨b, c, n, k, rfl, B, n0, n1, hQ⟩ := h
    refine ⟨_, (pss_cons (ps_set (i := 3) sc__law_links.nd rfl (Or.inl rfl) (pe_lst pa_nil))
 (Evl.pss_cut (ps_if (PW.pt (pw_or (pt_cmpR op_eq (pv 2) pe_int (nomark _)) (pw_or (pt_cmpR op_eq (pv 2) pe_int (nomark _)) (pw_or1 (pt_cmpR op_eq (pv 2) pe_int (nomark _))))))
 (pss_one (ps_set (i := 3) sc__law_links.nd rfl (Or.inl rfl) (pe_fn D__law_tree (hr.mono (by decide)) (pa_cons (pv 0) (pa_cons (pv 1) pa_nil)))))
 pss_nil)
 (Evl.pss_cut (ps_if (PW.pt (pw_or (pt_cmpR op_eq (pv 2) pe_int (nomark _)) (pw_or (pt_cmpR op_eq (pv 2) pe_int (nomark _)) (pw_or1 (pt_cmpR op_eq (pv 2) pe_int (nomark _))))))
 (pss_cons (ps_set (i := 4) sc__law_links.nd rfl (Or.inr rfl) (pe_fn D__law_order (hr.mono (by decide)) (pa_cons (pv 0) (pa_cons (pv 1) pa_nil))))
 (pss_one (ps_setLc (i := 3) (own := [("_law_at", 7)]) (te := tTup (tCons (tOp (rIxL K) (tVar 4) (tOp (rI0 fun i j => .int (i - j)) (tVar 7) (tC (.int 1)))) (tCons (tOp (rIxL K) (tVar 4) (tVar 7)) tNil))) (by rfl) sc__law_links.nd rfl rfl (sw_true rfl rfl rfl (by decide +kernel)) (pi_range1 (by rfl) (T.n 2 _ rfl) (pa_cons (pv 1) pa_nil)) (blkOk_by (own := [("_law_at", 7)]) (N := N__law_links) (sc := defScope (top 42)) (by decide +kernel)) (fun _ _ _ _ _ => (pg_name (i := 7) sc__law_links.nd rfl (Or.inl rfl))) (fun _ _ _ _ _ => (pts_one (pt_cmpR op_gt (pv 1) pe_int (nomark _)))) (fun _ _ _ _ _ => (pe_tup (pa_cons (pe_ix ix_list (pv 4) (pe_op op_sub (pv 7) pe_int) (fun _ _ => rfl)) (pa_cons (pe_ix ix_list (pv 4) (pv 7) (fun _ _ => rfl)) pa_nil)))))))
 pss_nil)
 (Evl.pss_cut (ps_if (PW.pt (pw_and (pt_truth (pv 3) (by intro _; rfl)) (pw_and1 (PW.pt (pw_or (pt_cmpR op_eq (pv 2) pe_int (nomark _)) (pw_or1 (pt_cmpR op_eq (pv 2) pe_int (nomark _))))))))
 (pss_one (ps_expr (pe_bm PySem.F.plainAttrs_list PySem.F.slot_list_pop PySem.F.type_list_pop mt_popAt (pv 3) (pa_cons (pe_fn D__law_draw (hr.mono (by decide)) (pa_cons (pv 0) (pa_cons (pe_callB call_len_seq (by rfl) (T.n 0 _ rfl) (by decide +kernel) (pa_cons (pv 3) pa_nil)) pa_nil))) pa_nil))))
 pss_nil)
 (pss_cons (ps_for PassesOwn.never rfl (pi_range1 (by rfl) (T.n 2 _ rfl) (pa_cons (pv 1) pa_nil)) (pg_name (i := 5) sc__law_links.nd rfl (Or.inl rfl))
 (pss_one (ps_for PassesOwn.never rfl (pi_range1 (by rfl) (T.n 2 _ rfl) (pa_cons (pv 1) pa_nil)) (pg_name (i := 6) sc__law_links.nd rfl (Or.inl rfl))
 (pss_one (ps_if (PW.pt (pw_and (pt_cmpR op_ne (pv 5) (pv 6) (nomark _)) (pw_and1 (pt_cmpR (op_notInD (u65 hr)) (pe_tup (pa_cons (pv 5) (pa_cons (pv 6) pa_nil))) (pv 3) (by rfl)))))
 (pss_one (ps_if (PW.pt (pw_or (pt_cmpR op_eq (pv 2) pe_int (nomark _)) (pw_or1 (PW.pt (pw_and (PW.pt (pw_or (pt_cmpR op_eq (pv 2) pe_int (nomark _)) (pw_or (pt_cmpR op_eq (pv 2) pe_int (nomark _)) (pw_or1 (pt_cmpR op_eq (pv 2) pe_int (nomark _)))))) (pw_and1 (pt_cmpR op_eq (pe_fn D__law_draw (hr.mono (by decide)) (pa_cons (pv 0) (pa_cons pe_int pa_nil))) pe_int (nomark _))))))))
 (pss_one (ps_expr (pe_bm PySem.F.plainAttrs_list PySem.F.slot_list_append PySem.F.type_list_append mt_append (pv 3) (pa_cons (pe_tup (pa_cons (pv 5) (pa_cons (pv 6) pa_nil))) pa_nil))))
 pss_nil))
 pss_nil)))))
 (pss_one (ps_ret (pv 3)))))))), ?_⟩
    refine ⟨Nat.zero_le _, fun p0 hp0 => ?_⟩
    refine ⟨fun σ' H' => ∃ p, σ' = [some (.ref b), some (.int n), some (.int k), some (.ref p), none, none, none, none] ∧ LkAt H b n 2000 H' p ∧ Box H' b c, ?_, ?_⟩
    · refine if_any (any_or (any_eqi rfl) (any_or (any_eqi rfl) (any_eqi rfl))) ?_ ?_
      · exact ⟨_, rfl, _, rfl, b, c, n, rfl, B.upN hp0, n0, by omega, fun p zs H1 hp hS lk ln B1 E1 => ⟨p, rfl, ⟨(Kp.upf hp).2, ⟨zs, hS, lk, ln⟩, (Kp.new hp0).trans E1⟩, B1⟩⟩
      · exact ⟨p0, rfl, ⟨hp0, ⟨[], SL.nil, (fun _ h => nomatch h), Nat.zero_le _⟩, Kp.new hp0⟩, B.upN hp0⟩
    · rintro σ1 H1 ⟨p1, rfl, L1, B1⟩
      refine ⟨fun σ' H' => ∃ p v4, σ' = [some (.ref b), some (.int n), some (.int k), some (.ref p), v4, none, none, none] ∧ LkAt H b n 2000 H' p ∧ Box H' b c, ?_, ?_⟩
      · refine if_any (any_or (any_eqi rfl) (any_or (any_eqi rfl) (any_eqi rfl))) ?_ ?_
        · refine ⟨_, rfl, _, rfl, b, c, n, rfl, B1, by omega, by omega, fun q ns H2 hq hN nm B2 E2 => ?_⟩
          refine ⟨_, rfl, n, rfl, by omega, by omega, fun D hD => ?_⟩
          have E12 := L1.kp.trans E2
          have hD0 : H D = none := E12.f D hD
          have nqD : q ≠ D := ne_of_none hN hD
          refine lc_range (lo := 0) (n := n.toNat) (fun i H3 => ∃ ws : List (Addr × Int × Int), IL H3 q ns ∧ SL H3 D gP ws ∧ (∀ z ∈ ws, LinkOk n z.2) ∧ ws.length ≤ i ∧ Box H3 b c ∧ Kp [b] H H3)
            ⟨[], hN.upN hD, SL.nil, (fun _ h => nomatch h), Nat.le_refl _, B2.upN hD, E12.mut hD0⟩ ?_ ?_
          · rintro i H3 hi ⟨ws, h1, h2, h3, h4, B4, E4⟩
            refine ⟨rfl, _, rfl, n, 1, rfl, rfl, _, rfl, iteD (fun hn => ?_) fun _ => ⟨ws, h1, h2, h3, by omega, B4, E4⟩⟩
            have hi' : (i : Int) < n := by omega
            obtain ⟨y, hy⟩ := nm.get (i := (i : Int)) (by omega) hi'
            have hy' : ns[(0 + (i : Int)).toNat]? = some y := by rw [Int.zero_add]; exact hy
            obtain ⟨x, hx, hx2⟩ : ∃ x, atI (ns.map V.int) (0 + (i : Int) - 1) = some (V.int x) ∧ LinkOk n (x, y) := by
              by_cases h0 : i = 0
              · obtain ⟨x, hx⟩ := nm.get (i := n - 1) (by omega) (by omega)
                refine ⟨x, ?_, nm.ne (by omega) (by omega) (by omega) hx hy⟩
                have ln : (ns.map V.int).length = n.toNat := by rw [List.length_map, nm.2.1]
                have e : ixN (ns.map V.int).length (0 + (i : Int) - 1) = some (n - 1).toNat := by
                  unfold ixN
                  rw [if_neg (by omega), if_pos (by rw [ln]; omega), ln]
                  congr 1
                  omega
                unfold atI
                rw [e]
                show (ns.map V.int)[(n - 1).toNat]? = _
                rw [List.getElem?_map, hx]
                rfl
              · obtain ⟨x, hx⟩ := nm.get (i := 0 + (i : Int) - 1) (by omega) (by omega)
                exact ⟨x, at_int (by omega) hx, nm.ne (by omega) (by omega) (by omega) hx hy⟩
            refine ⟨_, rfl, _, rfl, _, 1, rfl, rfl, q, _, _, _, rfl, rfl, h1.sq, hx, _, rfl, _, rfl, q, _, _, _, rfl, rfl, h1.sq, at_int (by omega) hy', by show 2 ≤ sizeLine; decide, fun t ht => ?_⟩
            have ntD : D ≠ t := ne_of_none h2.at_ ht
            refine ⟨_, (by rw [upd_ne ntD]; exact h2.at_), small (by rw [List.length_map]; omega), ws ++ [(t, x, y)], ?_, h2.snoc (x := (x, y)) ht h2.npP, fun z' hz' => ?_, by rw [List.length_append]; exact Nat.succ_le_succ h4, (B4.upN ht).up (B.nb hD0) (B.nc hD0), (E4.mut (E4.f t ht)).mut hD0⟩
            · exact (h1.upN ht).up nqD
            · rcases List.mem_append.mp hz' with hz' | hz'
              · exact h3 z' hz'
              · rw [List.mem_singleton.mp hz']
                exact hx2
          · rintro H3 ⟨ws, h1, h2, h3, h4, B4, E4⟩
            exact ⟨D, _, rfl, ⟨hD0, ⟨ws, h2, h3, by omega⟩, E4⟩, B4⟩
        · exact ⟨p1, none, rfl, L1, B1⟩
      · rintro σ2 H2 ⟨p2, v4, rfl, L2, B2⟩
        obtain ⟨zs, hS, lk, ln⟩ := L2.ex
        refine ⟨fun σ' H' => ∃ p v4, σ' = [some (.ref b), some (.int n), some (.int k), some (.ref p), v4, none, none, none] ∧ LkAt H b n 2000 H' p ∧ Box H' b c, ?_, ?_⟩
        · refine ⟨_, rfl, _, .inl ⟨_, hS.sq, rfl⟩, iteB (fun hz => ?_) fun _ => ⟨p2, v4, rfl, L2, B2⟩⟩
          have zp : 0 < zs.length := by
            cases zs with
            | nil => cases hz
            | cons z zs => exact Nat.succ_pos _
          refine any_or (any_eqi rfl) (any_eqi rfl) _ fun bb => iteB (fun _ => ?_) fun _ => ⟨p2, v4, rfl, L2, B2⟩
          refine ⟨_, rfl, .inl ⟨rfl, _, hS.sq⟩, _, rfl, _, rfl, p2, _, rfl, .inl hS.sq, b, c, _, rfl, B2, by rw [List.length_map]; omega, by rw [List.length_map]; omega, fun j H3 j0 j1 B3 E3 => ?_⟩
          rw [List.length_map] at j1
          have hS3 := hS.boxP B2 E3
          have hj : j.toNat < zs.length := by omega
          refine ⟨p2, _, j, j.toNat, .ref zs[j.toNat].1, rfl, rfl, hS3.at_, by omega, by omega, seqIndex_of j0 (by rw [List.length_map]; omega), by rw [List.getElem?_map, List.getElem?_eq_getElem hj]; rfl, ?_⟩
          refine ⟨p2, v4, rfl, ⟨L2.new, ⟨zs.eraseIdx j.toNat, ⟨?_, fun z hz => ?_⟩, fun z hz => lk z (List.mem_of_mem_eraseIdx hz), ?_⟩, (L2.kp.trans E3).mut L2.new⟩, B3.up (B.nb L2.new) (B.nc L2.new)⟩
          · rw [upd_same]
            rw [map_eraseIdx]
          · have hz' := List.mem_of_mem_eraseIdx hz
            rw [upd_ne (hS3.npP z hz')]
            exact hS3.all z hz'
          · exact Nat.le_trans (List.length_eraseIdx_le _ _) ln
        · rintro σ3 H3 ⟨p3, v4, rfl, L3, B3⟩
          refine ⟨_, rfl, n, rfl, by omega, by omega, for_range (lo := 0) (n := n.toNat) (fun i σ H' => ∃ v5 v6, σ = [some (.ref b), some (.int n), some (.int k), some (.ref p3), v4, v5, v6, none] ∧ LkAt H b n (2000 + i * 100) H' p3 ∧ Box H' b c) ⟨none, none, rfl, L3, B3⟩ ?_ ?_⟩
          · rintro i σ H4 hi ⟨v5, v6, rfl, L4, B4⟩
            refine ⟨_, rfl, n, rfl, by omega, by omega, for_range (lo := 0) (n := n.toNat) (fun j σ H' => ∃ v6, σ = [some (.ref b), some (.int n), some (.int k), some (.ref p3), v4, some (.int (0 + i)), v6, none] ∧ LkAt H b n (2000 + i * 100 + j) H' p3 ∧ Box H' b c) ⟨v6, rfl, L4, B4⟩ ?_ ?_⟩
            · rintro j σ H5 hj ⟨v6, rfl, L5, B5⟩
              have L5' : LkAt H b n (2000 + i * 100 + (j + 1)) H5 p3 := ⟨L5.new, let ⟨zs, a, b, c⟩ := L5.ex; ⟨zs, a, b, by omega⟩, L5.kp⟩
              refine ⟨_, rfl, _, rfl, rfl, _, rfl, iteN (fun hxy => ?_) fun _ => ⟨_, rfl, L5', B5⟩⟩
              obtain ⟨zs, hS, lk, ln⟩ := L5.ex
              refine ⟨_, rfl, _, rfl, by show 2 ≤ sizeLine; decide, fun t ht => ?_⟩
              have hSt := hS.upN (o := .tup [.int (0 + (i : Int)), .int (0 + (j : Int))]) ht
              have Lt : LkAt H b n (2000 + i * 100 + j) (upd H5 t (.tup [.int (0 + (i : Int)), .int (0 + (j : Int))])) p3 := ⟨L5.new, ⟨zs, hSt, lk, ln⟩, L5.kp.mut (L5.kp.f t ht)⟩
              have Bt := B5.upN (o := .tup [.int (0 + (i : Int)), .int (0 + (j : Int))]) ht
              refine ⟨_, rfl, dP (0 + (i : Int), 0 + (j : Int)), _, dp_P upd_same, dp_Ps hSt, (nice_dP _).shaped (by decide), (nice_dPs _).shaped (by decide), ?_⟩
              have more : ∀ H6, LkAt H b n (2000 + i * 100 + j) H6 p3 → LkAt H b n (2000 + i * 100 + (j + 1)) H6 p3 := fun H6 L6 => ⟨L6.new, let ⟨zs, a, b, c⟩ := L6.ex; ⟨zs, a, b, by omega⟩, L6.kp⟩
              refine ⟨_, rfl, iteB (fun _ => ?_) fun _ => ⟨_, rfl, more _ Lt, Bt⟩⟩
              refine if_tw (R := fun H6 => LkAt H b n (2000 + i * 100 + j) H6 p3 ∧ Box H6 b c) (tw_or (tw_any (any_eqi rfl) ⟨Lt, Bt⟩) fun H6 r6 => tw_and (tw_any (any_or (any_eqi rfl) (any_or (any_eqi rfl) (any_eqi rfl))) r6) fun H7 r7 => ?_) ?_ ?_
              · intro Q2 q2
                exact ⟨_, rfl, b, c, 3, rfl, r7.2, by decide, by decide, fun v H8 _ _ B8 E8 => ⟨rfl, _, rfl, q2 _ _ ⟨⟨r7.1.new, let ⟨zs, a, d, e⟩ := r7.1.ex; ⟨zs, a.boxP r7.2 E8, d, e⟩, r7.1.kp.trans E8⟩, B8⟩⟩⟩
              · rintro H6 ⟨L6, B6⟩
                obtain ⟨zs, hS, lk, ln⟩ := L6.ex
                refine ⟨_, rfl, .inl ⟨rfl, _, hS.sq⟩, _, rfl, _, rfl, by show 2 ≤ sizeLine; decide, fun r hr6 => ?_⟩
                have nrp : p3 ≠ r := ne_of_none hS.at_ hr6
                refine ⟨p3, _, _, rfl, rfl, by rw [upd_ne nrp]; exact hS.at_, small (by rw [List.length_map]; have : i * 100 ≤ 100 * 100 := Nat.mul_le_mul_right 100 (by omega); omega), ?_⟩
                refine ⟨_, rfl, ⟨L6.new, ⟨zs ++ [(r, 0 + (i : Int), 0 + (j : Int))], hS.snoc (x := (0 + (i : Int), 0 + (j : Int))) hr6 hS.npP, fun z hz => ?_, by rw [List.length_append]; show zs.length + 1 ≤ _; omega⟩, (L6.kp.mut (L6.kp.f r hr6)).mut L6.new⟩, (B6.upN hr6).up (B.nb L6.new) (B.nc L6.new)⟩
                rcases List.mem_append.mp hz with hz | hz
                · exact lk z hz
                · rw [List.mem_singleton.mp hz]
                  exact ⟨by show (0 : Int) ≤ 0 + (i : Int); omega, by show 0 + (i : Int) < n; omega, by show (0 : Int) ≤ 0 + (j : Int); omega, by show 0 + (j : Int) < n; omega, fun e => hxy (congrArg V.int e)⟩
              · rintro H6 ⟨L6, B6⟩
                exact ⟨_, rfl, more _ L6, B6⟩
            · rintro σ H5 ⟨v6, rfl, L5, B5⟩
              exact ⟨_, _, rfl, ⟨L5.new, let ⟨zs, a, b, c⟩ := L5.ex; ⟨zs, a, b, by omega⟩, L5.kp⟩, B5⟩
          · rintro σ H5 ⟨v5, v6, rfl, L5, B5⟩
            exact ⟨_, rfl, hQ p3 H5 ⟨L5.new, let ⟨zs, a, b, c⟩ := L5.ex; ⟨zs, a, b, by omega⟩, L5.kp⟩ B5⟩
end
end Ps

set_option maxHeartbeats 4000000
/-! PsD4: the box, a run. -/
namespace Ps
open PySem PySem.Spec PyProof.Rows L2
section
variable {P : Program} {w : World} {K : PySem.W.Frag} {mg : Str → Option Value} {base : Heap}
/-! ### _law_box -/
def rAbs : List V → Hp → VK → Prop := fun xs H Q => ∃ i, xs = [.int i] ∧ Q (.int (if i < 0 then -i else i)) H
def rInt1 : List V → Hp → VK → Prop := fun xs H Q => (∃ i, xs = [.int i] ∧ Q (.int i) H) ∨ ∃ k, xs = [.bl k] ∧ Q (.int (if k then 1 else 0)) H
def spBox (K : PySem.W.Frag) : Sp := fun vs H Q _ => ∃ (a : Addr) (ns : List Int), vs = [.ref a] ∧ SqL K H a (ns.map V.int) ∧ ns.length ≤ 1000 ∧ ∀ (b c : Addr) (H' : Hp), H b = none → Box H' b c → Kp [] H H' → Q (.ref b) H'
abbrev N__law_box : List Str := ["_law_script", "_law_cell"]
theorem sc__law_box : FnScope N__law_box ["_law_script"] (defScope (top 38)) := ⟨rfl, rfl, rfl, by decide +kernel, rfl, by decide +kernel, by decide +kernel⟩
theorem cut_map (ns : List Int) (k : Nat) : cutV (ns.map V.int) none (some (k : Int)) = (ns.take k).map V.int := by
  unfold cutV
  rw [HT.sIx_none, HT.sIx_nat, List.length_map, List.drop_zero, Nat.sub_zero, ← List.map_take]
  congr 1
  rcases Nat.le_total k ns.length with h | h
  · rw [Nat.min_eq_left h]
  · rw [Nat.min_eq_right h, List.take_of_length_le h, List.take_of_length_le (Nat.le_refl _)]
theorem d__law_box (T : Txt K mg) : Def P w K mg base CX0 1 "_law_box" ["_law_script"] (spBox K) := by
  refine T.def0 (i := 38) (j := 19) (N := N__law_box) rfl sc__law_box (fun vs H Q E h => ?_) (fun _ _ _ _ _ _ us hl => match us, hl with | [_], _ => rfl) (fun f cdv A outer s H vs Q E hr h => ?_)
  · obtain ⟨a, ns, rfl, _⟩ := h
    rfl
  · obtain ⟨a, ns, rfl, hS, ln, hQ⟩ := h
    refine ⟨_, (pss_one (ps_ret (pe_lst (pa_cons (pe_lc (own := [("_law_cell", 1)]) (te := tCB rAbs (tCons (tCB rInt1 (tCons (tVar 1) tNil)) tNil)) (by rfl) sc__law_box.nd (pi_list (pe_slice sl_list (pv 0) po_none (po_some pe_int))) (blkOk_by (own := [("_law_cell", 1)]) (N := N__law_box) (sc := defScope (top 38)) (by decide +kernel)) (fun _ _ _ _ _ => (pg_name (i := 1) sc__law_box.nd rfl (Or.inl rfl))) (fun _ _ _ _ _ => pts_nil) (fun _ _ _ _ _ => (pe_callB call_abs (by rfl) (T.n 8 _ rfl) (by decide +kernel) (pa_cons (pe_callTy call_int1 (by rfl) (T.n 9 _ rfl) (by decide +kernel) (pa_cons (pv 1) pa_nil)) pa_nil)))) (pa_cons pe_int (pa_cons pe_int (pa_cons pe_int pa_nil))))))), ?_⟩
    refine ⟨_, rfl, 63, rfl, a, _, rfl, hS, fun q hq => ?_⟩
    rw [show (63 : Int) = ((63 : Nat) : Int) from rfl, cut_map]
    refine ⟨q, rfl, ⟨_, SqL.of upd_same⟩, fun D hD => ?_⟩
    have hD0 : H D = none := (Kp.upf hD).2
    have nqD : q ≠ D := (Kp.upf hD).1.symm
    generalize hns : ns.take 63 = ms
    have lm : ms.length ≤ 1000 := by rw [← hns, List.length_take]; omega
    refine lc_list (K := K) (a := q) (xs := ms.map V.int) (fun j H1 => Kp [] H H1 ∧ IL H1 q ms ∧ ∃ cs, IL H1 D cs ∧ (∀ x ∈ cs, 0 ≤ x) ∧ cs.length ≤ j)
      ⟨((Kp.refl H).mut hq).mut hD0, (by show upd _ _ _ _ = _; rw [upd_ne nqD]; exact upd_same), [], upd_same, (fun _ h => nomatch h), Nat.le_refl _⟩ (fun j H1 _ ⟨_, h, _⟩ => h.sq) ?_ ?_
    · rintro j y H1 hj ⟨E1, h1, cs, h2, h3, h4⟩
      obtain ⟨x, hx, rfl⟩ := map_int_at hj
      have jl : j < ms.length := (List.getElem?_eq_some_iff.mp hx).1
      refine ⟨rfl, yesT ?_⟩
      refine ⟨_, rfl, .inl ⟨x, rfl, x, rfl, _, h2, small (by rw [List.length_map]; omega), E1.mut hD0, h1.up nqD, cs ++ [if x < 0 then -x else x], ?_, fun z hz => ?_, by rw [List.length_append]; exact Nat.succ_le_succ h4⟩⟩
      · show upd _ _ _ _ = _
        rw [upd_same, List.map_append]
        rfl
      · rcases List.mem_append.mp hz with hz | hz
        · exact h3 z hz
        · rw [List.mem_singleton.mp hz]
          split <;> omega
    · rintro H1 ⟨E1, h1, cs, h2, h3, h4⟩
      refine ⟨by show 4 ≤ sizeLine; decide, fun b hb => ?_⟩
      exact hQ b D _ (E1.f b hb) ⟨cs, 0, 0, 1, upd_same, h2.upN hb, h3, by omega, by omega, by omega, by omega⟩ (E1.mut (E1.f b hb))
/-! ### _law_run -/
theorem any_tru {σ : L2.St} {H : Hp} {ta : TE} {a : Addr} {xs : List V} (ha : L2.Val ta σ H (.ref a)) (hs : SqL K H a xs) : AnyT (fun σ H Q => ta σ H fun x H' => ∃ k, TruV K x H' k ∧ Q k H') σ H := fun _ q => ha _ ⟨_, .inl ⟨xs, hs, rfl⟩, q _⟩
def Ch (n : Int) (zs : List (Addr × Int × Int)) : Prop := ∀ z ∈ zs, 0 ≤ z.2.1 ∧ z.2.1 < n
/-- what a run is asked over -/
structure RunIn (H : Hp) (b c lk ow : Addr) (n : Int) (ps : List (Addr × Int × Int)) (owners : List Int) : Prop where
  box : Box H b c
  lk : SL H lk gP ps
  ok : ∀ z ∈ ps, LinkOk n z.2
  pl : ps.length ≤ 20000
  ow : IL H ow owners
  oo : ∀ o ∈ owners, 0 ≤ o ∧ o < n
  ol : owners.length ≤ 20
  n0 : 0 < n
  n1 : n ≤ 20
def spRun : Sp := fun vs H Q _ => ∃ (b c lk ow rw : Addr) (n steps way : Int) (ps : List (Addr × Int × Int)) (owners : List Int) (zs : List (Addr × List Int)) (m : Nat), vs = [.ref b, .ref lk, .ref ow, .ref rw, .int steps, .int way] ∧ RunIn H b c lk ow n ps owners ∧
  SL H rw gR zs ∧ zs.length = n.toNat ∧ RowsLe (zs.map (·.2)) m ∧ m ≤ 1000 ∧ 0 ≤ steps ∧ steps ≤ 10000 ∧
  ∀ (p : Addr) (rows : Rows) (H' : Hp), Lg H H' p rows → rows.length = n.toNat → RowsLe rows (m + steps.toNat) → Box H' b c → Kp [b] H H' → Q (.ref p) H'
abbrev N__law_run : List Str := ["_law_box_here", "_law_links_here", "_law_owners", "_law_rows_here", "_law_steps", "_law_way", "_law_now", "_law_step", "_law_writes", "_law_item", "_law_pulls", "_law_pair", "_law_chances", "_law_deed", "_law_row"]
theorem sc__law_run : FnScope N__law_run ["_law_box_here", "_law_links_here", "_law_owners", "_law_rows_here", "_law_steps", "_law_way"] (defScope (top 47)) := ⟨rfl, rfl, rfl, by decide +kernel, rfl, by decide +kernel, by decide +kernel⟩
theorem d__law_run (T : Txt K mg) (D__law_draw : Def P w K mg base CX0 1 "_law_draw" ["_law_box_here", "_law_many"] spDraw) (D__law_offer : Def P w K mg base CX0 1 "_law_offer" ["_law_source", "_law_reader"] (spOffer K)) :
    Def P w K mg base CX0 2 "_law_run" ["_law_box_here", "_law_links_here", "_law_owners", "_law_rows_here", "_law_steps", "_law_way"] spRun := by
  refine T.def0 (i := 47) (j := 28) (N := N__law_run) rfl sc__law_run (fun vs H Q E h => ?_) (fun _ _ _ _ _ _ us hl => match us, hl with | [_, _, _, _, _, _], _ => rfl) (fun f cdv A outer s H vs Q E hr h => ?_)
  · obtain ⟨_, _, _, _, _, _, _, _, _, _, _, _, rfl, _⟩ := h
    rfl
  · obtain ⟨b, c, lk, ow, rw_, n, steps, way, ps, owners, zs, m, rfl, I, hS, zl, hm, m1, s0, s1, hQ⟩ := h
    have B := I.box
    have n0 := I.n0
    have n1 := I.n1
    have ol := I.ol
    have pl := I.pl
    refine ⟨_, (pss_cons (ps_setLc (i := 6) (own := [("_law_row", 14)]) (te := tCB (rLO K) (tCons (tVar 14) tNil)) (by rfl) sc__law_run.nd rfl rfl (sw_true rfl rfl rfl (by decide +kernel)) (pi_list (pv 3)) (blkOk_by (own := [("_law_row", 14)]) (N := N__law_run) (sc := defScope (top 47)) (by decide +kernel)) (fun _ _ _ _ _ => (pg_name (i := 14) sc__law_run.nd rfl (Or.inl rfl))) (fun _ _ _ _ _ => pts_nil) (fun _ _ _ _ _ => (pe_callTy call_list_of (by rfl) (T.n 1 _ rfl) (by decide +kernel) (pa_cons (pv 14) pa_nil))))
 (pss_cons (ps_for PassesOwn.never rfl (pi_range1 (by rfl) (T.n 2 _ rfl) (pa_cons (pv 4) pa_nil)) (pg_name (i := 7) sc__law_run.nd rfl (Or.inl rfl))
 (pss_cons (ps_set (i := 8) sc__law_run.nd rfl (Or.inl rfl) (pe_lst pa_nil))
 (pss_cons (ps_for PassesOwn.never rfl (pi_range1 (by rfl) (T.n 2 _ rfl) (pa_cons (pe_callB call_len_seq (by rfl) (T.n 0 _ rfl) (by decide +kernel) (pa_cons (pv 2) pa_nil)) pa_nil)) (pg_name (i := 9) sc__law_run.nd rfl (Or.inr rfl))
 (pss_one (ps_if (pt_not (pt_truth (pe_lc (own := [("_law_row", 14)]) (tt := tTest (tOp (rIn K false) (tVar 9) (tVar 14))) (te := tVar 14) (by rfl) sc__law_run.nd (pi_list (pv 6)) (blkOk_by (own := [("_law_row", 14)]) (N := N__law_run) (sc := defScope (top 47)) (by decide +kernel)) (fun _ _ _ _ _ => (pg_name (i := 14) sc__law_run.nd rfl (Or.inl rfl))) (fun _ _ _ _ _ => (pts_one (pt_cmpR op_in_seq (pv 9) (pv 14) (by rfl)))) (fun _ _ _ _ _ => (pv 14))) (by intro _; rfl)))
 (pss_one (ps_expr (pe_bm PySem.F.plainAttrs_list PySem.F.slot_list_append PySem.F.type_list_append mt_append (pv 8) (pa_cons (pe_tup (pa_cons (pe_ix ix_list (pv 2) (pv 9) (fun _ _ => rfl)) (pa_cons (pv 9) pa_nil))) pa_nil))))
 pss_nil)))
 (pss_cons (ps_set (i := 10) sc__law_run.nd rfl (Or.inl rfl) (pe_lst pa_nil))
 (pss_cons (ps_for PassesOwn.never rfl (pi_list (pv 1)) (pg_name (i := 11) sc__law_run.nd rfl (Or.inl rfl))
 (pss_cons (ps_set (i := 9) sc__law_run.nd rfl (Or.inr rfl) (pe_fn D__law_offer (hr.mono (by first | decide | omega)) (pa_cons (pe_ix ix_list (pv 6) (pe_ix ix_tup (pv 11) pe_int (fun _ _ => rfl)) (fun _ _ => rfl)) (pa_cons (pe_ix ix_list (pv 6) (pe_ix ix_tup (pv 11) pe_int (fun _ _ => rfl)) (fun _ _ => rfl)) pa_nil))))
 (pss_one (ps_if (pt_cmpR op_ge (pv 9) pe_int (nomark _))
 (pss_one (ps_expr (pe_bm PySem.F.plainAttrs_list PySem.F.slot_list_append PySem.F.type_list_append mt_append (pv 10) (pa_cons (pe_tup (pa_cons (pe_ix ix_tup (pv 11) pe_int (fun _ _ => rfl)) (pa_cons (pv 9) pa_nil))) pa_nil))))
 pss_nil))))
 (pss_cons (ps_set (i := 12) sc__law_run.nd rfl (Or.inl rfl) (pe_op op_cat (pv 8) (pv 10)))
 (Evl.pss_cut (ps_if (PW.pt (pw_and (pt_cmpR op_eq (pv 5) pe_int (nomark _)) (pw_and1 (pt_truth (pv 8) (by intro _; rfl)))))
 (pss_one (ps_set (i := 12) sc__law_run.nd rfl (Or.inl rfl) (pv 8)))
 pss_nil)
 (Evl.pss_cut (ps_if (PW.pt (pw_and (pt_cmpR op_eq (pv 5) pe_int (nomark _)) (pw_and1 (pt_truth (pv 10) (by intro _; rfl)))))
 (pss_one (ps_set (i := 12) sc__law_run.nd rfl (Or.inl rfl) (pv 10)))
 pss_nil)
 (pss_cons (ps_if (pt_not (pt_truth (pv 12) (by intro _; rfl)))
 (pss_one ps_break)
 pss_nil)
 (pss_cons (ps_set (i := 13) sc__law_run.nd rfl (Or.inl rfl) (pe_ix ix_list (pv 12) (pe_fn D__law_draw (hr.mono (by first | decide | omega)) (pa_cons (pv 0) (pa_cons (pe_callB call_len_seq (by rfl) (T.n 0 _ rfl) (by decide +kernel) (pa_cons (pv 12) pa_nil)) pa_nil))) (fun _ _ => rfl)))
 (pss_one (ps_expr (pe_bm PySem.F.plainAttrs_list PySem.F.slot_list_append PySem.F.type_list_append mt_append (pe_ix ix_list (pv 6) (pe_ix ix_tup (pv 13) pe_int (fun _ _ => rfl)) (fun _ _ => rfl)) (pa_cons (pe_ix ix_tup (pv 13) pe_int (fun _ _ => rfl)) pa_nil))))))))))))))
 (pss_one (ps_ret (pv 6))))), ?_⟩
    refine ⟨_, rfl, rw_, rfl, ⟨_, hS.sq⟩, fun q hq => copy_rows hS hq (by omega) (fun _ => rfl) (fun _ => rfl) fun H1 L1 E1 => ?_⟩
    have B1 := B.kp0 E1
    refine ⟨_, rfl, steps, rfl, by omega, by omega, for_range (lo := 0) (n := steps.toNat) (fun i σ H' => ∃ rows v7 v8 v9 v10 v11 v12 v13, σ = [some (.ref b), some (.ref lk), some (.ref ow), some (.ref rw_), some (.int steps), some (.int way), some (.ref q), v7, v8, v9, v10, v11, v12, v13, none] ∧
      Lg H H' q rows ∧ rows.length = n.toNat ∧ RowsLe rows (m + i) ∧ Box H' b c ∧ Kp [b] H H') ⟨_, none, none, none, none, none, none, none, rfl, L1, by rw [List.length_map, zl], hm, B1, E1.up⟩ ?_ ?_⟩
    · rintro i σ H2 hi ⟨rows, v7, v8, v9, v10, v11, v12, v13, rfl, L2, rl, rle, B2, E2⟩
      have hO := I.ow.box B E2
      have hL := I.lk.boxP B E2
      refine ⟨Nat.zero_le _, fun wr hwr => ?_⟩
      -- the writes
      refine ⟨_, rfl, ow, _, rfl, .inl (hO.upN hwr).sq, _, rfl, by rw [List.length_map]; omega, by rw [List.length_map]; omega, for_range (lo := 0) (n := ((owners.map V.int).length : Int).toNat) (fun j σ H' => ∃ v9 ws, σ = [some (.ref b), some (.ref lk), some (.ref ow), some (.ref rw_), some (.int steps), some (.int way), some (.ref q), some (.int (0 + i)), some (.ref wr), v9, v10, v11, v12, v13, none] ∧
        Kp [] H2 H' ∧ SL H' wr gP ws ∧ Ch n ws ∧ ws.length ≤ j) ⟨_, [], rfl, Kp.new hwr, SL.nil, (fun _ h => nomatch h), Nat.le_refl _⟩ ?_ ?_⟩
      · rintro j σ H3 hj ⟨v9, ws, rfl, E3, hw, cw, lw⟩
        rw [Int.toNat_natCast, List.length_map] at hj
        obtain ⟨zs2, hS2, ez⟩ := (L2.kp0 E3).sl
        have zl2 : zs2.length ≤ 100000 := by
          have := congrArg List.length ez
          rw [List.length_map] at this
          omega
        refine ⟨_, rfl, q, rfl, ⟨_, hS2.sq⟩, fun D hD => held_rows (x := 0 + (j : Int)) hS2 hD zl2 (fun _ => rfl) (fun _ => rfl) (fun _ => rfl) fun H4 xs hx ex E4 => ?_⟩
        have hw4 := hw.kp0 E4 fun _ => nt_gP
        refine ⟨_, .inl ⟨xs, SqL.of hx, rfl⟩, ?_⟩
        have E34 := E3.trans E4
        refine iteB (fun _ => ?_) fun _ => ⟨_, ws, rfl, E34, hw4, cw, Nat.le_succ_of_le lw⟩
        have ho : owners[(0 + (j : Int)).toNat]? = some owners[j] := by rw [show (0 + (j : Int)).toNat = j by omega, List.getElem?_eq_getElem hj]
        refine ⟨_, rfl, .inl ⟨rfl, _, hw4.sq⟩, _, rfl, _, rfl, ow, _, _, _, rfl, rfl, (hO.kp0 E34).sq, at_int (by omega) ho, _, rfl, by show 2 ≤ sizeLine; decide, fun t ht => ?_⟩
        have nt_ : wr ≠ t := ne_of_none hw4.at_ ht
        refine ⟨wr, _, _, rfl, rfl, by rw [upd_ne nt_]; exact hw4.at_, small (by rw [List.length_map]; omega), ?_⟩
        refine ⟨_, ws ++ [(t, owners[j], 0 + (j : Int))], rfl, (E34.mut (E34.f t ht)).mut hwr, hw4.snoc (x := (owners[j], 0 + (j : Int))) ht hw4.npP, fun z hz => ?_, by rw [List.length_append]; exact Nat.succ_le_succ lw⟩
        rcases List.mem_append.mp hz with hz | hz
        · exact cw z hz
        · rw [List.mem_singleton.mp hz]
          exact I.oo _ (List.getElem_mem hj)
      · rintro σ H3 ⟨v9, ws, rfl, E3, hw, cw, lw⟩
        rw [Int.toNat_natCast, List.length_map] at lw
        refine ⟨Nat.zero_le _, fun pu hpu => ?_⟩
        have nwp : wr ≠ pu := ne_of_none hw.at_ hpu
        have L3 := L2.kp0 E3
        have hL3 := hL.kp0 E3 fun _ => nt_gP
        -- the pulls
        refine ⟨_, rfl, lk, rfl, ⟨_, (hL3.upN hpu).sq⟩, for_list (K := K) (a := lk) (xs := ps.map fun z => V.ref z.1) (fun j σ H' => ∃ v9 v11 us, σ = [some (.ref b), some (.ref lk), some (.ref ow), some (.ref rw_), some (.int steps), some (.int way), some (.ref q), some (.int (0 + i)), some (.ref wr), v9, some (.ref pu), v11, v12, v13, none] ∧
          Kp [] H3 H' ∧ SL H' pu gP us ∧ Ch n us ∧ us.length ≤ j) ⟨_, _, [], rfl, Kp.new hpu, SL.nil, (fun _ h => nomatch h), Nat.le_refl _⟩ (fun j σ H' _ ⟨_, _, _, _, e, _⟩ => (hL3.kp0 e fun _ => nt_gP).sq) ?_ ?_⟩
        · rintro j y σ H4 hj ⟨v9, v11, us, rfl, E4, hu, cu, lu⟩
          obtain ⟨z, hz, rfl⟩ := map_ref_at hj
          have hzm := List.mem_of_getElem? hz
          have jl : j < ps.length := (List.getElem?_eq_some_iff.mp hz).1
          have ht : H4 z.1 = some (gP z.2) := (hL3.kp0 E4 fun _ => nt_gP).all z hzm
          obtain ⟨a1, a2, a3, a4, a5⟩ := I.ok z hzm
          obtain ⟨zs4, hS4, ez⟩ := (L3.kp0 E4).sl
          obtain ⟨z1, _, at1, row1⟩ := sl_row hS4 ez a1 (by omega)
          obtain ⟨z2, _, at2, row2⟩ := sl_row hS4 ez a3 (by omega)
          refine ⟨_, rfl, _, rfl, z.1, _, 0, _, rfl, rfl, SqT.of ht, rfl, q, _, _, _, rfl, rfl, hS4.sq, at1, _, rfl, _, rfl, z.1, _, 1, _, rfl, rfl, SqT.of ht, rfl, q, _, _, _, rfl, rfl, hS4.sq, at2, z1.1, z2.1, _, _, rfl, row1, row2, ?_⟩
          refine ⟨_, rfl, _, 0, rfl, rfl, _, rfl, iteD (fun _ => ?_) fun _ => ⟨_, _, us, rfl, E4, hu, cu, Nat.le_succ_of_le lu⟩⟩
          refine ⟨_, rfl, .inl ⟨rfl, _, hu.sq⟩, _, rfl, z.1, _, 1, _, rfl, rfl, SqT.of ht, rfl, _, rfl, by show 2 ≤ sizeLine; decide, fun t ht2 => ?_⟩
          have nt_ : pu ≠ t := ne_of_none hu.at_ ht2
          refine ⟨pu, _, _, rfl, rfl, by rw [upd_ne nt_]; exact hu.at_, small (by rw [List.length_map]; omega), ?_⟩
          refine ⟨_, _, us ++ [(t, z.2.2, _)], rfl, (E4.mut (E4.f t ht2)).mut hpu, hu.snoc (x := (z.2.2, _)) ht2 hu.npP, fun y hy => ?_, by rw [List.length_append]; exact Nat.succ_le_succ lu⟩
          rcases List.mem_append.mp hy with hy | hy
          · exact cu y hy
          · rw [List.mem_singleton.mp hy]
            exact ⟨a3, a4⟩
        · rintro σ H4 ⟨v9, v11, us, rfl, E4, hu, cu, lu⟩
          rw [List.length_map] at lu
          have hw4 := hw.kp0 E4 fun _ => nt_gP
          refine ⟨_, rfl, _, rfl, wr, pu, _, _, rfl, rfl, hw4.at_, hu.at_, smallE (by rw [List.length_map, List.length_map]; omega), fun ch hch => ?_⟩
          have E5 : Kp [] H2 (upd H4 ch (.lst ((ws.map fun z => V.ref z.1) ++ us.map fun z => V.ref z.1))) := (E3.trans E4).mut ((E3.trans E4).f ch hch)
          have hw5 := hw4.upN (o := .lst ((ws.map fun z => V.ref z.1) ++ us.map fun z => V.ref z.1)) hch
          have hu5 := hu.upN (o := .lst ((ws.map fun z => V.ref z.1) ++ us.map fun z => V.ref z.1)) hch
          have hc5 : SL (upd H4 ch (.lst ((ws.map fun z => V.ref z.1) ++ us.map fun z => V.ref z.1))) ch gP (ws ++ us) := ⟨by rw [upd_same, List.map_append], fun z hz => by
            rcases List.mem_append.mp hz with hz | hz
            · exact hw5.all z hz
            · exact hu5.all z hz⟩
          have cc : Ch n (ws ++ us) := fun z hz => by
            rcases List.mem_append.mp hz with hz | hz
            · exact cw z hz
            · exact cu z hz
          show tSeq _ _ _ _ (upd H4 ch (.lst ((ws.map fun z => V.ref z.1) ++ us.map fun z => V.ref z.1)))
          generalize upd H4 ch (.lst ((ws.map fun z => V.ref z.1) ++ us.map fun z => V.ref z.1)) = H5 at E5 hw5 hu5 hc5
          refine ⟨fun σ' H' => H' = H5 ∧ ∃ ch ts, σ' = [some (.ref b), some (.ref lk), some (.ref ow), some (.ref rw_), some (.int steps), some (.int way), some (.ref q), some (.int (0 + i)), some (.ref wr), v9, some (.ref pu), v11, some (.ref ch), v13, none] ∧ SL H5 ch gP ts ∧ Ch n ts ∧ ts.length ≤ 30000, ?_, ?_⟩
          · refine if_any (any_and (any_eqi rfl) (any_tru (val_var rfl) hw5.sq)) ?_ ?_
            · exact ⟨_, rfl, rfl, wr, ws, rfl, hw5, cw, by omega⟩
            · exact ⟨rfl, ch, _, rfl, hc5, cc, by rw [List.length_append]; omega⟩
          · rintro σ6 H6 ⟨rfl, ch6, ts6, rfl, h6, c6, l6⟩
            refine ⟨fun σ' H' => H' = H6 ∧ ∃ ch ts, σ' = [some (.ref b), some (.ref lk), some (.ref ow), some (.ref rw_), some (.int steps), some (.int way), some (.ref q), some (.int (0 + i)), some (.ref wr), v9, some (.ref pu), v11, some (.ref ch), v13, none] ∧ SL H6 ch gP ts ∧ Ch n ts ∧ ts.length ≤ 30000, ?_, ?_⟩
            · refine if_any (any_and (any_eqi rfl) (any_tru (val_var rfl) hu5.sq)) ?_ ?_
              · exact ⟨_, rfl, rfl, pu, us, rfl, hu5, cu, by omega⟩
              · exact ⟨rfl, ch6, ts6, rfl, h6, c6, l6⟩
            · rintro σ7 H7 ⟨rfl, ch7, ts, rfl, h7, c7, l7⟩
              have L7 := L2.kp0 E5
              have B7 := B2.kp0 E5
              have E7 := E2.trans E5.up
              refine ⟨_, rfl, _, .inl ⟨_, h7.sq, rfl⟩, iteB (fun _ => ?_) fun hne => ?_⟩
              · exact ⟨_, rfl, hQ q rows _ L7 rl (fun r hr => Nat.le_trans (rle r hr) (by omega)) B7 E7⟩
              · have tp : 0 < ts.length := by
                  cases ts with
                  | nil => cases hne
                  | cons z zs => exact Nat.succ_pos _
                refine ⟨_, rfl, _, rfl, _, rfl, ch7, _, rfl, .inl h7.sq, b, c, _, rfl, B7, by rw [List.length_map]; omega, by rw [List.length_map]; omega, fun k H8 k0 k1 B8 E8 => ?_⟩
                rw [List.length_map] at k1
                have h8 := h7.boxP B7 E8
                have hk : k.toNat < ts.length := by omega
                have hkk : ts[k.toNat]? = some ts[k.toNat] := List.getElem?_eq_getElem hk
                refine ⟨ch7, _, k, _, rfl, rfl, h8.sq, at_ref k0 hkk, ?_⟩
                have hd := h8.all _ (List.getElem_mem hk)
                obtain ⟨d0, d1⟩ := c7 _ (List.getElem_mem hk)
                obtain ⟨xs, a, hq8, hat, ha, na, L9⟩ := (L7.box B E8).app (e := (ts[k.toNat]).2.2) d0 (by omega)
                refine ⟨_, rfl, _, rfl, _, _, 0, _, rfl, rfl, SqT.of hd, rfl, q, _, _, _, rfl, rfl, SqL.of hq8, hat, .inl ⟨rfl, _, SqL.of ha⟩, _, rfl, _, _, 1, _, rfl, rfl, SqT.of hd, rfl, a, _, _, rfl, rfl, ha, small (by rw [List.length_map]; have := rle.row d0 (by omega); omega), ?_⟩
                exact ⟨_, _, _, _, _, _, _, _, rfl, L9, by rw [app_len]; exact rl, app_le rle d0 (by omega), B8.up (B.nb na) (B.nc na), (E7.trans E8).mut na⟩
    · rintro σ H2 ⟨rows, v7, v8, v9, v10, v11, v12, v13, rfl, L2, rl, rle, B2, E2⟩
      exact ⟨_, rfl, hQ q rows H2 L2 rl rle B2 E2⟩
end
end Ps

set_option maxHeartbeats 4000000
/-! PsD5: rows, spoilt rows. -/
namespace Ps
open PySem PySem.Spec PyProof.Rows L2
section
variable {P : Program} {w : World} {K : PySem.W.Frag} {mg : Str → Option Value} {base : Heap}
/-! ### _law_rows -/
def spRows : Sp := fun vs H Q _ => ∃ (b c lk ow : Addr) (n : Int) (ps : List (Addr × Int × Int)) (owners : List Int), vs = [.ref b, .ref lk, .ref ow, .int n] ∧ RunIn H b c lk ow n ps owners ∧
  ∀ (p : Addr) (zs : List (Addr × List Int)) (H' : Hp), H p = none → SL H' p gR zs → zs.length = n.toNat → RowsLe (zs.map (·.2)) 1000 → Box H' b c → Kp [b] H H' → Q (.ref p) H'
abbrev N__law_rows : List Str := ["_law_box_here", "_law_links_here", "_law_owners", "_law_many", "_law_total", "_law_way", "_law_at", "_law_rows_here", "_law_steps", "_law_line"]
theorem sc__law_rows : FnScope N__law_rows ["_law_box_here", "_law_links_here", "_law_owners", "_law_many"] (defScope (top 51)) := ⟨rfl, rfl, rfl, by decide +kernel, rfl, by decide +kernel, by decide +kernel⟩
theorem RunIn.kp {H H' : Hp} {b c lk ow : Addr} {n : Int} {ps : List (Addr × Int × Int)} {owners : List Int} (I : RunIn H b c lk ow n ps owners) (B : Box H' b c) (e : Kp [b] H H') : RunIn H' b c lk ow n ps owners :=
  ⟨B, I.lk.boxP I.box e, I.ok, I.pl, I.ow.box I.box e, I.oo, I.ol, I.n0, I.n1⟩
theorem prod_le {n : Int} {k : Nat} (h0 : 0 < n) (h1 : n ≤ 20) (h2 : k ≤ 20) : 0 ≤ n * (k : Int) ∧ n * (k : Int) ≤ 400 := by
  constructor
  · exact Int.mul_nonneg (by omega) (by omega)
  · have := Int.mul_le_mul h1 (show (k : Int) ≤ 20 by omega) (by omega) (by omega)
    omega
theorem d__law_rows (T : Txt K mg) (D__law_draw : Def P w K mg base CX0 1 "_law_draw" ["_law_box_here", "_law_many"] spDraw) (D__law_order : Def P w K mg base CX0 2 "_law_order" ["_law_box_here", "_law_total"] spOrder)
    (D__law_run : Def P w K mg base CX0 2 "_law_run" ["_law_box_here", "_law_links_here", "_law_owners", "_law_rows_here", "_law_steps", "_law_way"] spRun) : Def P w K mg base CX0 3 "_law_rows" ["_law_box_here", "_law_links_here", "_law_owners", "_law_many"] spRows := by
  refine T.def0 (i := 51) (j := 32) (N := N__law_rows) rfl sc__law_rows (fun vs H Q E h => ?_) (fun _ _ _ _ _ _ us hl => match us, hl with | [_, _, _, _], _ => rfl) (fun f cdv A outer s H vs Q E hr h => ?_)
  · obtain ⟨_, _, _, _, _, _, _, rfl, _⟩ := h
    rfl
  · obtain ⟨b, c, lk, ow, n, ps, owners, rfl, I, hQ⟩ := h
    have B := I.box
    have n0 := I.n0
    have n1 := I.n1
    have ol := I.ol
    obtain ⟨pr0, pr1⟩ := prod_le n0 n1 ol
    refine ⟨_, (pss_cons (ps_set (i := 4) sc__law_rows.nd rfl (Or.inl rfl) (pe_callB call_len_seq (by rfl) (T.n 0 _ rfl) (by decide +kernel) (pa_cons (pv 2) pa_nil)))
 (pss_cons (ps_set (i := 5) sc__law_rows.nd rfl (Or.inl rfl) (pe_fn D__law_draw (hr.mono (by first | decide | omega)) (pa_cons (pv 0) (pa_cons pe_int pa_nil))))
 (pss_cons (ps_setLc (i := 7) (own := [("_law_at", 6)]) (te := tLst tNil) (by rfl) sc__law_rows.nd rfl rfl (sw_true rfl rfl rfl (by decide +kernel)) (pi_range1 (by rfl) (T.n 2 _ rfl) (pa_cons (pv 3) pa_nil)) (blkOk_by (own := [("_law_at", 6)]) (N := N__law_rows) (sc := defScope (top 51)) (by decide +kernel)) (fun _ _ _ _ _ => (pg_name (i := 6) sc__law_rows.nd rfl (Or.inl rfl))) (fun _ _ _ _ _ => pts_nil) (fun _ _ _ _ _ => (pe_lst pa_nil)))
 (pss_cons (ps_if (pt_cmpR op_eq (pv 5) pe_int (nomark _))
 (pss_one (ps_ret (pv 7)))
 pss_nil)
 (pss_cons (ps_if (pt_cmpR op_lt (pv 5) pe_int (nomark _))
 (pss_cons (ps_set (i := 8) sc__law_rows.nd rfl (Or.inl rfl) (pe_op op_mul (pv 3) (pv 4)))
 (Evl.pss_cut (ps_if (pt_cmpR op_gt (pv 5) pe_int (nomark _))
 (pss_one (ps_set (i := 8) sc__law_rows.nd rfl (Or.inl rfl) (pe_fn D__law_draw (hr.mono (by first | decide | omega)) (pa_cons (pv 0) (pa_cons (pe_op op_add (pe_op op_mul (pv 3) (pv 4)) pe_int) pa_nil)))))
 pss_nil)
 (pss_one (ps_ret (pe_fn D__law_run (hr.mono (by first | decide | omega)) (pa_cons (pv 0) (pa_cons (pv 1) (pa_cons (pv 2) (pa_cons (pv 7) (pa_cons (pv 8) (pa_cons (pe_op op_sub (pv 5) pe_int) pa_nil)))))))))))
 pss_nil)
 (pss_cons (ps_for PassesOwn.never rfl (pi_range1 (by rfl) (T.n 2 _ rfl) (pa_cons (pv 3) pa_nil)) (pg_name (i := 6) sc__law_rows.nd rfl (Or.inl rfl))
 (pss_cons (ps_set (i := 9) sc__law_rows.nd rfl (Or.inl rfl) (pe_fn D__law_order (hr.mono (by first | decide | omega)) (pa_cons (pv 0) (pa_cons (pv 4) pa_nil))))
 (pss_one (ps_asg (pe_slice sl_list (pv 9) po_none (po_some (pe_fn D__law_draw (hr.mono (by first | decide | omega)) (pa_cons (pv 0) (pa_cons (pe_op op_add (pv 4) pe_int) pa_nil))))) (pg_sub (pv 7) (pv 6) set_list)))))
 (pss_one (ps_ret (pv 7))))))))), ?_⟩
    refine ⟨_, rfl, ow, _, rfl, .inl I.ow.sq, ?_⟩
    rw [List.length_map]
    refine ⟨_, rfl, b, c, 6, rfl, B, by decide, by decide, fun way H1 w0 w1 B1 E1 => ?_⟩
    have I1 := I.kp B1 E1
    refine ⟨_, rfl, n, rfl, by omega, by omega, fun D hD => ?_⟩
    have hD0 := E1.f D hD
    refine lc_range (lo := 0) (n := n.toNat) (fun i H2 => Kp [] H1 H2 ∧ ∃ ws : List (Addr × List Int), SL H2 D gR ws ∧ RowsLe (ws.map (·.2)) 0 ∧ ws.length = i) ⟨Kp.new hD, [], SL.nil, (fun _ h => nomatch h), rfl⟩ ?_ ?_
    · rintro i H2 hi ⟨E2, ws, hw, le, lw⟩
      refine ⟨rfl, yesT ?_⟩
      refine ⟨Nat.zero_le _, fun t ht => ?_⟩
      have nDt : D ≠ t := ne_of_none hw.at_ ht
      refine ⟨_, by rw [upd_ne nDt]; exact hw.at_, small (by rw [List.length_map]; omega), (E2.mut (E2.f t ht)).mut hD, ws ++ [(t, [])], hw.snoc (x := []) ht hw.npR, fun r hr => ?_, by rw [List.length_append, lw]; rfl⟩
      rw [List.map_append] at hr
      rcases List.mem_append.mp hr with hr | hr
      · exact le r hr
      · rw [List.mem_singleton.mp hr]
        exact Nat.le_refl _
    · rintro H2 ⟨E2, ws, hw, le, lw⟩
      have E12 := E1.trans E2.up
      have B2 := B1.kp0 E2
      refine ⟨_, rfl, rfl, _, rfl, iteD (fun _ => ?_) fun _ => ?_⟩
      · exact ⟨_, rfl, hQ D ws H2 hD0 hw lw (fun r hr => Nat.le_trans (le r hr) (by decide)) B2 E12⟩
      · refine ⟨_, rfl, way, 4, rfl, rfl, _, rfl, iteD (fun _ => ?_) fun _ => ?_⟩
        · refine ⟨_, rfl, _, rfl, n, _, rfl, rfl, .inl ⟨by omega, by omega⟩, ?_⟩
          refine ⟨fun σ' H' => ∃ st : Int, 0 ≤ st ∧ st ≤ 400 ∧ σ' = [some (.ref b), some (.ref lk), some (.ref ow), some (.int n), some (.int (owners.length : Int)), some (.int way), none, some (.ref D), some (.int st), none] ∧ Box H' b c ∧ Kp [b] H2 H', ?_, ?_⟩
          · refine ⟨_, rfl, way, 1, rfl, rfl, _, rfl, iteD (fun _ => ?_) fun _ => ⟨_, pr0, pr1, rfl, B2, Kp.refl _⟩⟩
            exact ⟨_, rfl, _, rfl, _, rfl, n, _, rfl, rfl, .inl ⟨by omega, by omega⟩, _, 1, rfl, rfl, b, c, _, rfl, B2, by omega, by omega, fun v H3 v0 v1 B3 E3 => ⟨v, v0, by omega, rfl, B3, E3⟩⟩
          · rintro σ' H3 ⟨st, st0, st1, rfl, B3, E3⟩
            have E13 := E12.trans E3
            refine ⟨_, rfl, _, rfl, _, rfl, _, rfl, _, rfl, _, rfl, way, 1, rfl, rfl, b, c, lk, ow, D, n, st, _, ps, owners, ws, 0, rfl, I.kp B3 E13, hw.boxR B2 E3, lw, le, by decide, st0, by omega, fun p rows H4 L4 rl rle B4 E4 => ?_⟩
            obtain ⟨zs, hS, ez⟩ := L4.sl
            subst ez
            rw [List.length_map] at rl
            exact hQ p zs H4 (E13.f p L4.new) hS rl (fun r hr => Nat.le_trans (rle r hr) (by omega)) B4 (E13.trans E4)
        · refine ⟨_, rfl, n, rfl, by omega, by omega, for_range (lo := 0) (n := n.toNat) (fun i σ H' => ∃ v6 v9 zs, σ = [some (.ref b), some (.ref lk), some (.ref ow), some (.int n), some (.int (owners.length : Int)), some (.int way), v6, some (.ref D), none, v9] ∧
            SL H' D gR zs ∧ zs.length = n.toNat ∧ RowsLe (zs.map (·.2)) 1000 ∧ Box H' b c ∧ Kp [b] H H') ⟨_, _, ws, rfl, hw, lw, (fun r hr => Nat.le_trans (le r hr) (by decide)), B2, E12⟩ ?_ ?_⟩
          · rintro i σ H3 hi ⟨v6, v9, zs, rfl, hS, zl, zle, B3, E3⟩
            refine ⟨_, rfl, _, rfl, b, c, _, rfl, B3, by omega, by omega, fun q ns H4 hq hN nm B4 E4 => ?_⟩
            refine ⟨_, rfl, _, rfl, _, rfl, _, 1, rfl, rfl, b, c, _, rfl, B4, by omega, by omega, fun k H5 k0 k1 B5 E5 => ?_⟩
            have hN5 := hN.box B4 E5
            refine ⟨k, rfl, q, _, rfl, hN5.sq, fun t ht => ?_⟩
            obtain ⟨kk, rfl⟩ := Int.eq_ofNat_of_zero_le k0
            rw [cut_map]
            have hS5 := (hS.boxR B3 E4).boxR B4 E5
            have E35 := (E3.trans E4).trans E5
            have hSt := hS5.upN (o := .lst ((ns.take kk).map V.int)) ht
            have ntD : D ≠ t := ne_of_none hS5.at_ ht
            refine ⟨_, rfl, _, rfl, D, _, _, i, rfl, rfl, hSt.at_, (by rw [ixN_int (by omega) (by rw [List.length_map]; omega)]; congr 1; omega), ?_⟩
            refine ⟨_, _, zs.set i (t, ns.take kk), rfl, hSt.put (x := ns.take kk) upd_same ntD.symm hSt.npR, by rw [List.length_set, zl], fun r hr => ?_, (B5.upN ht).up (B.nb hD0) (B.nc hD0), (E35.mut (E35.f t ht)).mut hD0⟩
            rw [List.map_set] at hr
            rcases List.mem_or_eq_of_mem_set hr with hr | hr
            · exact zle r hr
            · rw [hr]
              show (ns.take kk).length ≤ 1000
              rw [List.length_take, nm.2.1]
              omega
          · rintro σ H3 ⟨v6, v9, zs, rfl, hS, zl, zle, B3, E3⟩
            exact ⟨_, rfl, hQ D zs H3 hD0 hS zl zle B3 E3⟩
/-! ### _law_spoil -/
def spSpoil : Sp := fun vs H Q _ => ∃ (b c rw : Addr) (t : Int) (zs : List (Addr × List Int)), vs = [.ref b, .int t, .ref rw] ∧ Box H b c ∧ SL H rw gR zs ∧ 0 < zs.length ∧ zs.length ≤ 20 ∧ RowsLe (zs.map (·.2)) 1000 ∧
  ∀ (p : Addr) (ws : List (Addr × List Int)) (H' : Hp), H p = none → SL H' p gR ws → ws.length ≤ 30 → RowsLe (ws.map (·.2)) 1002 → Box H' b c → Kp [b] H H' → Q (.ref p) H'
abbrev N__law_spoil : List Str := ["_law_box_here", "_law_total", "_law_rows_here", "_law_bent", "_law_way", "_law_at", "_law_place", "_law_odd", "_law_other", "_law_row"]
theorem sc__law_spoil : FnScope N__law_spoil ["_law_box_here", "_law_total", "_law_rows_here"] (defScope (top 49)) := ⟨rfl, rfl, rfl, by decide +kernel, rfl, by decide +kernel, by decide +kernel⟩
theorem set_le {rows : Rows} {m : Nat} {r : List Int} {i : Nat} (h : RowsLe rows m) (hr : r.length ≤ m) : RowsLe (rows.set i r) m := fun q hq => by
  rcases mem_set hq with e | hq
  · rw [e]
    exact hr
  · exact h q hq
theorem RowsLe.mono {rows : Rows} {m k : Nat} (h : RowsLe rows m) (e : m ≤ k) : RowsLe rows k := fun r hr => Nat.le_trans (h r hr) e
theorem ins_map (ns : List Int) (k : Nat) (x : Int) : (ns.map V.int).take k ++ [V.int x] ++ (ns.map V.int).drop k = (ns.take k ++ [x] ++ ns.drop k).map V.int := by
  rw [List.map_append, List.map_append, List.map_take, List.map_drop]
  rfl
theorem ins_len (ns : List Int) (k : Nat) (x : Int) : (ns.take k ++ [x] ++ ns.drop k).length = ns.length + 1 := by
  rw [List.length_append, List.length_append, List.length_take, List.length_drop, List.length_singleton]
  omega
theorem d__law_spoil (T : Txt K mg) (D__law_draw : Def P w K mg base CX0 1 "_law_draw" ["_law_box_here", "_law_many"] spDraw) : Def P w K mg base CX0 2 "_law_spoil" ["_law_box_here", "_law_total", "_law_rows_here"] spSpoil := by
  refine T.def0 (i := 49) (j := 30) (N := N__law_spoil) rfl sc__law_spoil (fun vs H Q E h => ?_) (fun _ _ _ _ _ _ us hl => match us, hl with | [_, _, _], _ => rfl) (fun f cdv A outer s H vs Q E hr h => ?_)
  · obtain ⟨_, _, _, _, _, rfl, _⟩ := h
    rfl
  · obtain ⟨b, c, rw_, t, zs, rfl, B, hS, zp, zl, zle, hQ⟩ := h
    refine ⟨_, (pss_cons (ps_setLc (i := 3) (own := [("_law_row", 9)]) (te := tCB (rLO K) (tCons (tVar 9) tNil)) (by rfl) sc__law_spoil.nd rfl rfl (sw_true rfl rfl rfl (by decide +kernel)) (pi_list (pv 2)) (blkOk_by (own := [("_law_row", 9)]) (N := N__law_spoil) (sc := defScope (top 49)) (by decide +kernel)) (fun _ _ _ _ _ => (pg_name (i := 9) sc__law_spoil.nd rfl (Or.inl rfl))) (fun _ _ _ _ _ => pts_nil) (fun _ _ _ _ _ => (pe_callTy call_list_of (by rfl) (T.n 1 _ rfl) (by decide +kernel) (pa_cons (pv 9) pa_nil))))
 (pss_cons (ps_set (i := 4) sc__law_spoil.nd rfl (Or.inl rfl) (pe_fn D__law_draw (hr.mono (by first | decide | omega)) (pa_cons (pv 0) (pa_cons pe_int pa_nil))))
 (pss_cons (ps_if (pt_cmpR op_eq (pv 4) pe_int (nomark _))
 (pss_one (ps_ret (pe_slice sl_list (pv 3) (po_some pe_int) po_none)))
 pss_nil)
 (pss_cons (ps_if (pt_cmpR op_eq (pv 4) pe_int (nomark _))
 (pss_one (ps_ret (pe_op op_cat (pv 3) (pe_lst (pa_cons (pe_lst pa_nil) pa_nil)))))
 pss_nil)
 (pss_cons (ps_set (i := 5) sc__law_spoil.nd rfl (Or.inl rfl) (pe_fn D__law_draw (hr.mono (by first | decide | omega)) (pa_cons (pv 0) (pa_cons (pe_callB call_len_seq (by rfl) (T.n 0 _ rfl) (by decide +kernel) (pa_cons (pv 3) pa_nil)) pa_nil))))
 (pss_cons (ps_set (i := 6) sc__law_spoil.nd rfl (Or.inl rfl) (pe_fn D__law_draw (hr.mono (by first | decide | omega)) (pa_cons (pv 0) (pa_cons (pe_op op_add (pe_callB call_len_seq (by rfl) (T.n 0 _ rfl) (by decide +kernel) (pa_cons (pe_ix ix_list (pv 3) (pv 5) (fun _ _ => rfl)) pa_nil)) pe_int) pa_nil))))
 (pss_cons (ps_set (i := 7) sc__law_spoil.nd rfl (Or.inl rfl) (pe_ix ix_list (pe_lst (pa_cons (pv 1) (pa_cons (pe_un un_neg pe_int) (pa_cons (pe_op op_pow pe_int pe_int) (pa_cons (pe_op op_sub pe_int (pe_op op_pow pe_int pe_int)) pa_nil))))) (pe_fn D__law_draw (hr.mono (by first | decide | omega)) (pa_cons (pv 0) (pa_cons pe_int pa_nil))) (fun _ _ => rfl)))
 (Evl.pss_cut (ps_if (PW.pt (pw_and (pt_cmpR op_lt (pv 4) pe_int (nomark _)) (pw_and1 (pt_truth (pe_ix ix_list (pv 3) (pv 5) (fun _ _ => rfl)) (by intro _; rfl)))))
 (pss_one (ps_set (i := 7) sc__law_spoil.nd rfl (Or.inl rfl) (pe_ix ix_list (pe_ix ix_list (pv 3) (pv 5) (fun _ _ => rfl)) (pe_fn D__law_draw (hr.mono (by first | decide | omega)) (pa_cons (pv 0) (pa_cons (pe_callB call_len_seq (by rfl) (T.n 0 _ rfl) (by decide +kernel) (pa_cons (pe_ix ix_list (pv 3) (pv 5) (fun _ _ => rfl)) pa_nil)) pa_nil))) (fun _ _ => rfl))))
 pss_nil)
 (pss_cons (ps_expr (pe_bm PySem.F.plainAttrs_list PySem.F.slot_list_insert PySem.F.type_list_insert mt_insert (pe_ix ix_list (pv 3) (pv 5) (fun _ _ => rfl)) (pa_cons (pv 6) (pa_cons (pv 7) pa_nil))))
 (pss_cons (ps_if (pt_cmpR op_eq (pv 4) pe_int (nomark _))
 (pss_cons (ps_set (i := 8) sc__law_spoil.nd rfl (Or.inl rfl) (pe_fn D__law_draw (hr.mono (by first | decide | omega)) (pa_cons (pv 0) (pa_cons (pe_callB call_len_seq (by rfl) (T.n 0 _ rfl) (by decide +kernel) (pa_cons (pv 3) pa_nil)) pa_nil))))
 (pss_cons (ps_expr (pe_bm PySem.F.plainAttrs_list PySem.F.slot_list_append PySem.F.type_list_append mt_append (pe_ix ix_list (pv 3) (pv 8) (fun _ _ => rfl)) (pa_cons (pe_op op_add (pv 1) pe_int) pa_nil)))
 (pss_one (ps_if (pt_cmpR op_eq (pv 6) pe_int (nomark _))
 (pss_one (ps_expr (pe_bm PySem.F.plainAttrs_list PySem.F.slot_list_append PySem.F.type_list_append mt_append (pv 3) (pa_cons (pe_lst pa_nil) pa_nil))))
 pss_nil))))
 pss_nil)
 (pss_one (ps_ret (pv 3))))))))))))), ?_⟩
    refine ⟨_, rfl, rw_, rfl, ⟨_, hS.sq⟩, fun q hq => copy_rows hS hq (by omega) (fun _ => rfl) (fun _ => rfl) fun H1 L1 E1 => ?_⟩
    have B1 := B.kp0 E1
    have ln : (zs.map (·.2)).length = zs.length := List.length_map _
    generalize zs.map (·.2) = rows at L1 zle ln
    refine ⟨_, rfl, b, c, 6, rfl, B1, by decide, by decide, fun way H2 w0 w1 B2 E2 => ?_⟩
    have L2 := L1.box B E2
    have E12 : Kp [b] H H2 := E1.up.trans E2
    refine ⟨_, rfl, rfl, _, rfl, iteD (fun _ => ?_) fun _ => ?_⟩
    · obtain ⟨ys, hy, ey⟩ := L2.sl
      refine ⟨_, rfl, 1, rfl, q, _, rfl, hy.sq, fun p hp => ?_⟩
      have e : cutV (ys.map fun z => V.ref z.1) (some 1) none = (ys.drop 1).map fun z => V.ref z.1 := by
        unfold cutV
        rw [HT.sIx_none, show (1 : Int) = ((1 : Nat) : Int) from rfl, HT.sIx_nat, List.map_drop, List.length_map]
        cases ys with
        | nil => rfl
        | cons y ys =>
          rw [List.length_cons, Nat.min_eq_left (by omega)]
          exact List.take_of_length_le (by rw [List.length_drop, List.length_map, List.length_cons]; omega)
      rw [e]
      refine hQ p (ys.drop 1) _ (E12.f p hp) (hy.sub hp fun z hz => List.mem_of_mem_drop hz) ?_ (fun r hr => ?_) (B2.upN hp) (E12.mut (E12.f p hp))
      · have := congrArg List.length ey
        rw [List.length_map] at this
        rw [List.length_drop]
        omega
      · obtain ⟨z, hz, rfl⟩ := List.mem_map.mp hr
        have : z.2 ∈ rows := by rw [← ey]; exact List.mem_map.mpr ⟨z, List.mem_of_mem_drop hz, rfl⟩
        exact Nat.le_trans (zle _ this) (by decide)
    · refine ⟨_, rfl, rfl, _, rfl, iteD (fun _ => ?_) fun _ => ?_⟩
      · obtain ⟨ys, hy, ey⟩ := L2.sl
        have yl : ys.length = rows.length := by rw [← ey, List.length_map]
        refine ⟨_, rfl, Nat.zero_le _, fun t1 ht1 => ⟨by show 1 ≤ sizeLine; decide, fun t2 ht2 => ?_⟩⟩
        have hy2 := (hy.upN (o := .lst []) ht1).upN (o := .lst [.ref t1]) ht2
        refine ⟨q, t2, _, _, rfl, rfl, hy2.at_, upd_same, smallE (by rw [List.length_map]; show ys.length + 1 ≤ _; omega), fun p hp => ?_⟩
        have n12 : t1 ≠ t2 := (Kp.upf ht2).1.symm
        have ht1' : (upd (upd H2 t1 (.lst [])) t2 (.lst [.ref t1])) t1 = some (gR []) := by rw [upd_ne n12]; exact upd_same
        have hq3 : SL (upd (upd (upd H2 t1 (.lst [])) t2 (.lst [.ref t1])) p (.lst ((ys ++ [(t1, ([] : List Int))]).map fun z => V.ref z.1))) p gR (ys ++ [(t1, [])]) := ⟨upd_same, fun z hz => by
          rcases List.mem_append.mp hz with hz | hz
          · rw [upd_ne (ne_of_none (hy2.all z hz) hp)]
            exact hy2.all z hz
          · rw [List.mem_singleton.mp hz]
            show upd _ _ _ t1 = _
            rw [upd_ne (ne_of_none ht1' hp)]
            exact ht1'⟩
        rw [List.map_append] at hq3
        have E3 := (E12.mut (o := .lst []) (E12.f _ ht1)).mut (o := .lst [.ref t1]) (E12.f _ (Kp.upf ht2).2)
        refine hQ p (ys ++ [(t1, [])]) _ (E3.f p hp) hq3 (by rw [List.length_append]; show ys.length + 1 ≤ 30; omega) (fun r hr => ?_) (((B2.upN ht1).upN ht2).upN hp) (E3.mut (E3.f p hp))
        rw [List.map_append] at hr
        rcases List.mem_append.mp hr with hr | hr
        · rw [ey] at hr
          exact Nat.le_trans (zle r hr) (by decide)
        · rw [List.mem_singleton.mp hr]
          exact Nat.zero_le _
      · obtain ⟨ys, hy, ey⟩ := L2.sl
        have yl : ys.length = rows.length := by rw [← ey, List.length_map]
        refine ⟨_, rfl, _, rfl, q, _, rfl, .inl hy.sq, b, c, _, rfl, B2, by rw [List.length_map]; omega, by rw [List.length_map]; omega, fun at_ H3 a0 a1 B3 E3 => ?_⟩
        rw [List.length_map] at a1
        have L3 := L2.box B E3
        have E13 := E12.trans E3
        obtain ⟨xs3, a, hq3, xl3, hat3, ha3, na, _⟩ := L3.put a0 (by omega)
        have rl := zle.row a0 (by omega)
        refine ⟨_, rfl, _, rfl, _, rfl, q, _, _, _, rfl, rfl, SqL.of hq3, hat3, a, _, rfl, .inl (SqL.of ha3), _, 1, rfl, rfl, b, c, _, rfl, B3, by rw [List.length_map]; omega, by rw [List.length_map]; omega, fun pl H4 p0 p1 B4 E4 => ?_⟩
        have L4 := L3.box B E4
        have E14 := E13.trans E4
        refine ⟨_, rfl, 1, rfl, 10, 29, rfl, rfl, ⟨by decide, by decide, by decide⟩, 10, 29, rfl, rfl, ⟨by decide, by decide, by decide⟩, 1, _, rfl, rfl, by show 4 ≤ sizeLine; decide, fun o ho => ?_⟩
        have E15 := E14.mut (o := .lst [.int t, .int (-1), .int (10 ^ (29 : Int).toNat), .int (1 - 10 ^ (29 : Int).toNat)]) (E14.f o ho)
        have B5 := B4.upN (o := .lst [.int t, .int (-1), .int (10 ^ (29 : Int).toNat), .int (1 - 10 ^ (29 : Int).toNat)]) ho
        have L5 := L4.kp0 (Kp.new (o := .lst [.int t, .int (-1), .int (10 ^ (29 : Int).toNat), .int (1 - 10 ^ (29 : Int).toNat)]) ho)
        refine ⟨_, rfl, b, c, 4, rfl, B5, by decide, by decide, fun od H6 o0 o1 B6 E6 => ?_⟩
        have hO6 : IL H6 o [t, -1, 10 ^ (29 : Int).toNat, 1 - 10 ^ (29 : Int).toNat] := IL.box (H := upd H4 o _) upd_same B5 E6
        have L6 := L5.box B E6
        have E16 := E15.trans E6
        have hod : od.toNat < [t, -1, 10 ^ (29 : Int).toNat, 1 - 10 ^ (29 : Int).toNat].length := by show od.toNat < 4; omega
        refine ⟨o, _, od, _, rfl, rfl, hO6.sq, at_int o0 (List.getElem?_eq_getElem hod), ?_⟩
        generalize [t, -1, 10 ^ (29 : Int).toNat, 1 - 10 ^ (29 : Int).toNat][od.toNat] = odd
        refine ⟨fun σ' H' => ∃ odd : Int, σ' = [some (.ref b), some (.int t), some (.ref rw_), some (.ref q), some (.int way), some (.int at_), some (.int pl), some (.int odd), none, none] ∧ Lg H H' q rows ∧ Box H' b c ∧ Kp [b] H H', ?_, ?_⟩
        · obtain ⟨xs6, a6, hq6, xl6, hat6, ha6, na6, _⟩ := L6.put a0 (by omega)
          refine ⟨_, rfl, way, 4, rfl, rfl, _, rfl, iteD (fun _ => ?_) fun _ => ⟨odd, rfl, L6, B6, E16⟩⟩
          refine ⟨_, rfl, _, rfl, q, _, _, _, rfl, rfl, SqL.of hq6, hat6, _, .inl ⟨_, SqL.of ha6, rfl⟩, iteB (fun hne => ?_) fun _ => ⟨odd, rfl, L6, B6, E16⟩⟩
          have rp : 0 < (row rows at_).length := by
            cases q : row rows at_ with
            | nil => rw [q] at hne; cases hne
            | cons x xs => exact Nat.succ_pos _
          refine ⟨_, rfl, _, rfl, q, _, _, _, rfl, rfl, SqL.of hq6, hat6, _, rfl, _, rfl, _, rfl, q, _, _, _, rfl, rfl, SqL.of hq6, hat6, a6, _, rfl, .inl (SqL.of ha6), b, c, _, rfl, B6, by rw [List.length_map]; omega, by rw [List.length_map]; omega, fun k H7 k0 k1 B7 E7 => ?_⟩
          rw [List.length_map] at k1
          have hk : k.toNat < (row rows at_).length := by omega
          have ha7 : IL H7 a6 (row rows at_) := IL.box (H := H6) ha6 B6 E7
          exact ⟨a6, _, k, _, rfl, rfl, ha7.sq, at_int k0 (List.getElem?_eq_getElem hk), _, rfl, L6.box B E7, B7, E16.trans E7⟩
        · rintro σ' H7 ⟨odd, rfl, L7, B7, E7⟩
          obtain ⟨xs7, a7, hq7, xl7, hat7, ha7, na7, put7⟩ := L7.put a0 (by omega)
          rw [List.length_map] at p1
          refine ⟨_, rfl, _, rfl, q, _, _, _, rfl, rfl, SqL.of hq7, hat7, .inl ⟨rfl, _, SqL.of ha7⟩, _, rfl, _, rfl, a7, _, pl, _, rfl, rfl, ha7, small (by rw [List.length_map]; omega), p0, by omega, ?_⟩
          rw [ins_map]
          have L8 := put7 ((row rows at_).take pl.toNat ++ [odd] ++ (row rows at_).drop pl.toNat)
          have E8 := E7.mut (o := .lst (((row rows at_).take pl.toNat ++ [odd] ++ (row rows at_).drop pl.toNat).map V.int)) na7
          have B8 := B7.up (o := .lst (((row rows at_).take pl.toNat ++ [odd] ++ (row rows at_).drop pl.toNat).map V.int)) (B.nb na7) (B.nc na7)
          have le8 : RowsLe (rows.set at_.toNat ((row rows at_).take pl.toNat ++ [odd] ++ (row rows at_).drop pl.toNat)) 1001 := set_le (zle.mono (by decide)) (by rw [ins_len]; omega)
          have len8 : (rows.set at_.toNat ((row rows at_).take pl.toNat ++ [odd] ++ (row rows at_).drop pl.toNat)).length = rows.length := List.length_set
          show tSeq _ _ _ _ (upd H7 a7 (.lst (((row rows at_).take pl.toNat ++ [odd] ++ (row rows at_).drop pl.toNat).map V.int)))
          generalize upd H7 a7 (.lst (((row rows at_).take pl.toNat ++ [odd] ++ (row rows at_).drop pl.toNat).map V.int)) = H8 at L8 E8 B8
          generalize rows.set at_.toNat ((row rows at_).take pl.toNat ++ [odd] ++ (row rows at_).drop pl.toNat) = rows8 at L8 le8 len8
          have fin : ∀ (rows9 : Rows) (H9 : Hp), Lg H H9 q rows9 → rows9.length ≤ 21 → RowsLe rows9 1002 → Box H9 b c → Kp [b] H H9 → Q (.ref q) H9 := fun rows9 H9 L9 l9 le9 B9 E9 => by
            obtain ⟨ys, hy, ey⟩ := L9.sl
            subst ey
            rw [List.length_map] at l9
            exact hQ q ys H9 L9.new hy (by omega) le9 B9 E9
          refine ⟨_, rfl, rfl, _, rfl, iteD (fun _ => ?_) fun _ => ⟨_, rfl, fin rows8 H8 L8 (by omega) (le8.mono (by decide)) B8 E8⟩⟩
          obtain ⟨ys8, hy8, ey8⟩ := L8.sl
          have yl8 : ys8.length = rows8.length := by rw [← ey8, List.length_map]
          refine ⟨_, rfl, _, rfl, q, _, rfl, .inl hy8.sq, b, c, _, rfl, B8, by rw [List.length_map]; omega, by rw [List.length_map]; omega, fun ot H9 ot0 ot1 B9 E9 => ?_⟩
          rw [List.length_map] at ot1
          have L9 := L8.box B E9
          obtain ⟨xs9, a9, hq9, hat9, ha9, na9, L10⟩ := L9.app (e := t + 1) ot0 (by omega)
          have rl9 := le8.row ot0 (by omega)
          refine ⟨_, rfl, _, rfl, q, _, _, _, rfl, rfl, SqL.of hq9, hat9, .inl ⟨rfl, _, SqL.of ha9⟩, _, rfl, t, 1, rfl, rfl, a9, _, _, rfl, rfl, ha9, small (by rw [List.length_map]; omega), ?_⟩
          have E10 := (E8.trans E9).mut (o := .lst ((row rows8 ot).map V.int ++ [.int (t + 1)])) na9
          have B10 := B9.up (o := .lst ((row rows8 ot).map V.int ++ [.int (t + 1)])) (B.nb na9) (B.nc na9)
          have le10 : RowsLe (app rows8 ot (t + 1)) 1002 := app_le le8 ot0 (by omega)
          have len10 : (app rows8 ot (t + 1)).length = rows.length := by rw [app_len, len8]
          refine ⟨_, rfl, rfl, _, rfl, iteD (fun _ => ?_) fun _ => ⟨_, rfl, fin _ _ L10 (by omega) le10 B10 E10⟩⟩
          obtain ⟨ys, hy, ey⟩ := L10.sl
          have yl10 : ys.length = rows.length := by rw [← len10, ← ey, List.length_map]
          refine ⟨_, rfl, .inl ⟨rfl, _, hy.sq⟩, Nat.zero_le _, fun t1 ht1 => ?_⟩
          have nqt : q ≠ t1 := ne_of_none hy.at_ ht1
          refine ⟨q, _, _, rfl, rfl, by rw [upd_ne nqt]; exact hy.at_, small (by rw [List.length_map]; omega), ?_⟩
          have hS11 := hy.snoc (x := []) ht1 hy.npR
          refine ⟨_, rfl, hQ q (ys ++ [(t1, [])]) _ L10.new hS11 (by rw [List.length_append]; show ys.length + 1 ≤ 30; omega) (fun r hr => ?_) ((B10.upN ht1).up (B.nb hq) (B.nc hq)) ((E10.mut (E10.f t1 ht1)).mut hq)⟩
          rw [List.map_append] at hr
          rcases List.mem_append.mp hr with hr | hr
          · rw [ey] at hr
            exact le10 r hr
          · rw [List.mem_singleton.mp hr]
            exact Nat.zero_le _
end
end Ps

set_option maxHeartbeats 4000000
/-! PsD8: the law's own plain run. -/
namespace Ps
open PySem PySem.Spec PyProof.Rows L2
section
variable {P : Program} {w : World} {K : PySem.W.Frag} {mg : Str → Option Value} {base : Heap}
/-! ### _law_end -/
theorem net_of {n t : Nat} {ps : List (Addr × Int × Int)} {owners : List Int} (ok : ∀ z ∈ ps, LinkOk n z.2) (ol : owners.length = t) (oo : ∀ o ∈ owners, 0 ≤ o ∧ o < (n : Int)) : Net (Lof (ps.map (·.2))) (hm owners) n t :=
  ⟨fun s r l => by
    obtain ⟨z, hz, e⟩ := List.mem_map.mp l
    have := ok z hz
    rw [e] at this
    exact this, fun e h0 h1 => oo _ (hm_mem h0 (by omega))⟩
def spEnd : Sp := fun vs H Q _ => ∃ (lk ow rw : Addr) (n t : Nat) (ps : List (Addr × Int × Int)) (owners : List Int) (zs : List (Addr × List Int)), vs = [.ref lk, .ref ow, .ref rw] ∧ SL H lk gP ps ∧ (∀ z ∈ ps, LinkOk n z.2) ∧ (ps.map (·.2)).Pairwise Lex ∧
  IL H ow owners ∧ owners.length = t ∧ (∀ o ∈ owners, 0 ≤ o ∧ o < (n : Int)) ∧ SL H rw gR zs ∧ Valid n t (zs.map (·.2)) ∧ n ≤ 20 ∧ t ≤ 20 ∧
  ∀ (p a b : Addr) (ts : List (Addr × Act)) (fs : List (Addr × List Int)) (H' : Hp), H' p = some (.lst [.ref a, .ref b]) → SL H' a gA ts → SL H' b gR fs → Run (Lof (ps.map (·.2))) (hm owners) t (zs.map (·.2)) (ts.map (·.2)) (fs.map (·.2)) → Kp [] H H' → Q (.ref p) H'
abbrev N__law_end : List Str := ["_law_links_here", "_law_owners", "_law_rows_here", "_law_now", "_law_trace", "_law_item", "_law_turn", "_law_size", "_law_pair", "_law_row"]
theorem sc__law_end : FnScope N__law_end ["_law_links_here", "_law_owners", "_law_rows_here"] (defScope (top 50)) := ⟨rfl, rfl, rfl, by decide +kernel, rfl, by decide +kernel, by decide +kernel⟩
theorem d__law_end (T : Txt K mg) (D__law_offer : Def P w K mg base CX0 1 "_law_offer" ["_law_source", "_law_reader"] (spOffer K)) : Def P w K mg base CX0 2 "_law_end" ["_law_links_here", "_law_owners", "_law_rows_here"] spEnd := by
  refine T.def0 (i := 50) (j := 31) (N := N__law_end) rfl sc__law_end (fun vs H Q E h => ?_) (fun _ _ _ _ _ _ us hl => match us, hl with | [_, _, _], _ => rfl) (fun f cdv A outer s H vs Q E hr h => ?_)
  · obtain ⟨_, _, _, _, _, _, _, _, rfl, _⟩ := h
    rfl
  · obtain ⟨lk, ow, rw_, n, t, ps, owners, zs, rfl, hL, ok, srt, hO, ol, oo, hS, V0, n1, t1, hQ⟩ := h
    have N := net_of ok ol oo
    have zl : zs.length = n := by have := V0.len; rwa [List.length_map] at this
    refine ⟨_, (pss_cons (ps_setLc (i := 3) (own := [("_law_row", 9)]) (te := tCB (rLO K) (tCons (tVar 9) tNil)) (by rfl) sc__law_end.nd rfl rfl (sw_true rfl rfl rfl (by decide +kernel)) (pi_list (pv 2)) (blkOk_by (own := [("_law_row", 9)]) (N := N__law_end) (sc := defScope (top 50)) (by decide +kernel)) (fun _ _ _ _ _ => (pg_name (i := 9) sc__law_end.nd rfl (Or.inl rfl))) (fun _ _ _ _ _ => pts_nil) (fun _ _ _ _ _ => (pe_callTy call_list_of (by rfl) (T.n 1 _ rfl) (by decide +kernel) (pa_cons (pv 9) pa_nil))))
 (pss_cons (ps_set (i := 4) sc__law_end.nd rfl (Or.inl rfl) (pe_lst pa_nil))
 (pss_cons (ps_for PassesOwn.never rfl (pi_range1 (by rfl) (T.n 2 _ rfl) (pa_cons (pe_callB call_len_seq (by rfl) (T.n 0 _ rfl) (by decide +kernel) (pa_cons (pv 1) pa_nil)) pa_nil)) (pg_name (i := 5) sc__law_end.nd rfl (Or.inr rfl))
 (pss_one (ps_if (pt_not (pt_truth (pe_lc (own := [("_law_row", 9)]) (tt := tTest (tOp (rIn K false) (tVar 5) (tVar 9))) (te := tVar 9) (by rfl) sc__law_end.nd (pi_list (pv 3)) (blkOk_by (own := [("_law_row", 9)]) (N := N__law_end) (sc := defScope (top 50)) (by decide +kernel)) (fun _ _ _ _ _ => (pg_name (i := 9) sc__law_end.nd rfl (Or.inl rfl))) (fun _ _ _ _ _ => (pts_one (pt_cmpR op_in_seq (pv 5) (pv 9) (by rfl)))) (fun _ _ _ _ _ => (pv 9))) (by intro _; rfl)))
 (pss_cons (ps_expr (pe_bm PySem.F.plainAttrs_list PySem.F.slot_list_append PySem.F.type_list_append mt_append (pe_ix ix_list (pv 3) (pe_ix ix_list (pv 1) (pv 5) (fun _ _ => rfl)) (fun _ _ => rfl)) (pa_cons (pv 5) pa_nil)))
 (pss_one (ps_expr (pe_bm PySem.F.plainAttrs_list PySem.F.slot_list_append PySem.F.type_list_append mt_append (pv 4) (pa_cons (pe_tup (pa_cons pe_str (pa_cons (pv 5) pa_nil))) pa_nil)))))
 pss_nil)))
 (pss_cons (ps_for PassesOwn.never rfl (pi_range1 (by rfl) (T.n 2 _ rfl) (pa_cons (pe_op op_mul (pe_callB call_len_seq (by rfl) (T.n 0 _ rfl) (by decide +kernel) (pa_cons (pv 3) pa_nil)) (pe_callB call_len_seq (by rfl) (T.n 0 _ rfl) (by decide +kernel) (pa_cons (pv 1) pa_nil))) pa_nil)) (pg_name (i := 6) sc__law_end.nd rfl (Or.inl rfl))
 (pss_cons (ps_set (i := 7) sc__law_end.nd rfl (Or.inl rfl) (pe_callB call_len_seq (by rfl) (T.n 0 _ rfl) (by decide +kernel) (pa_cons (pv 4) pa_nil)))
 (Evl.pss_cut (ps_for PassesOwn.never rfl (pi_list (pv 0)) (pg_name (i := 8) sc__law_end.nd rfl (Or.inl rfl))
 (pss_cons (ps_set (i := 5) sc__law_end.nd rfl (Or.inr rfl) (pe_fn D__law_offer (hr.mono (by first | decide | omega)) (pa_cons (pe_ix ix_list (pv 3) (pe_ix ix_tup (pv 8) pe_int (fun _ _ => rfl)) (fun _ _ => rfl)) (pa_cons (pe_ix ix_list (pv 3) (pe_ix ix_tup (pv 8) pe_int (fun _ _ => rfl)) (fun _ _ => rfl)) pa_nil))))
 (pss_one (ps_if (pt_cmpR op_ge (pv 5) pe_int (nomark _))
 (pss_cons (ps_expr (pe_bm PySem.F.plainAttrs_list PySem.F.slot_list_append PySem.F.type_list_append mt_append (pe_ix ix_list (pv 3) (pe_ix ix_tup (pv 8) pe_int (fun _ _ => rfl)) (fun _ _ => rfl)) (pa_cons (pv 5) pa_nil)))
 (pss_cons (ps_expr (pe_bm PySem.F.plainAttrs_list PySem.F.slot_list_append PySem.F.type_list_append mt_append (pv 4) (pa_cons (pe_tup (pa_cons pe_str (pa_cons (pe_ix ix_tup (pv 8) pe_int (fun _ _ => rfl)) (pa_cons (pe_ix ix_tup (pv 8) pe_int (fun _ _ => rfl)) (pa_cons (pv 5) pa_nil))))) pa_nil)))
 (pss_one ps_break)))
 pss_nil))))
 (pss_one (ps_if (pt_cmpR op_eq (pe_callB call_len_seq (by rfl) (T.n 0 _ rfl) (by decide +kernel) (pa_cons (pv 4) pa_nil)) (pv 7) (nomark _))
 (pss_one ps_break)
 pss_nil)))))
 (pss_one (ps_ret (pe_lst (pa_cons (pv 4) (pa_cons (pv 3) pa_nil))))))))), ?_⟩
    refine ⟨_, rfl, rw_, rfl, ⟨_, hS.sq⟩, fun q hq => copy_rows hS hq (by omega) (fun _ => rfl) (fun _ => rfl) fun H1 L1 E1 => ?_⟩
    refine ⟨Nat.zero_le _, fun tr htr1 => ?_⟩
    have htr := E1.f tr htr1
    have L1' : Lg (upd H tr (.lst [])) (upd H1 tr (.lst [])) q (zs.map (·.2)) := L1.excl htr1
    have E1' := E1.mut (o := .lst []) htr
    have hS1 : SL (upd H1 tr (.lst [])) tr gA [] := SL.nil
    show tSeq _ _ _ _ (upd H1 tr (.lst []))
    generalize upd H1 tr (.lst []) = H1' at L1' E1' hS1
    generalize hX : upd H tr (.lst []) = HX at L1'
    have hXn : ∀ a, HX a = none → a ≠ tr ∧ H a = none := fun a ha => by
      rw [← hX] at ha
      exact Kp.upf ha
    -- the writes
    refine ⟨_, rfl, ow, _, rfl, .inl (hO.kp0 E1').sq, _, rfl, by rw [List.length_map]; omega, by rw [List.length_map]; omega, for_range (lo := 0) (n := ((owners.map V.int).length : Int).toNat) (fun i σ H' => ∃ rows v5 tz, σ = [some (.ref lk), some (.ref ow), some (.ref rw_), some (.ref q), some (.ref tr), v5, none, none, none, none] ∧
      Lg HX H' q rows ∧ SL H' tr gA tz ∧ Kp [] H H' ∧ Valid n t rows ∧ (∀ e : Int, 0 ≤ e → e < i → held rows e = true) ∧ tz.length ≤ i ∧ (∀ tr' f, Run (Lof (ps.map (·.2))) (hm owners) t rows tr' f → Run (Lof (ps.map (·.2))) (hm owners) t (zs.map (·.2)) (tz.map (·.2) ++ tr') f)) ?_ ?_ ?_⟩
    · exact ⟨_, none, [], rfl, L1', hS1, E1', V0, (fun e h0 h1 => by omega), Nat.le_refl _, fun _ _ h => h⟩
    · rintro i σ H2 hi ⟨rows, v5, tz, rfl, L2, hT, E2, VV, hh, tl, co⟩
      rw [Int.toNat_natCast, List.length_map] at hi
      obtain ⟨ys, hy, ey⟩ := L2.sl
      have yl : ys.length = n := by have := congrArg List.length ey; rw [List.length_map, VV.len] at this; exact this
      refine ⟨_, rfl, q, rfl, ⟨_, hy.sq⟩, fun D hD => held_rows (x := 0 + (i : Int)) hy hD (by omega) (fun _ => rfl) (fun _ => rfl) (fun _ => rfl) fun H3 xs hx ex E3 => ?_⟩
      rw [ey] at ex
      have L3 := L2.kp0 E3
      have hT3 := hT.kp0 E3 fun _ => nt_gA
      have E23 := E2.trans E3
      refine ⟨_, .inl ⟨xs, SqL.of hx, rfl⟩, ?_⟩
      rw [ex, Bool.not_not]
      have e0 : 0 + (i : Int) = (i : Int) := by omega
      refine iteB (fun hb => ?_) fun hb => ?_
      · have hb' : held rows (i : Int) = false := by rw [e0] at hb; simpa using hb
        have hd := unw_first (t := t) (rows := rows) (i := (i : Int)) (by omega) (by omega) hh hb'
        obtain ⟨V4, _⟩ := write_valid N VV hd
        obtain ⟨o0, o1⟩ := N.h (i : Int) (by omega) (by omega)
        have o1' : hm owners (i : Int) < rows.length := by rw [VV.len]; exact o1
        obtain ⟨xs3, a, hq3, hat, ha, na, L4⟩ := L3.app (r := hm owners (i : Int)) (e := 0 + (i : Int)) o0 o1'
        obtain ⟨nat_, na⟩ := hXn a na
        have ho := hm_at (owners := owners) (e := (i : Int)) (by omega) (by omega)
        have rl : (row rows (hm owners (i : Int))).length ≤ t := row_len (VV.nd _ (row_mem o0 o1')) (VV.rg _ (row_mem o0 o1'))
        refine ⟨_, rfl, _, rfl, _, rfl, ow, _, 0 + (i : Int), _, rfl, rfl, (hO.kp0 E23).sq, at_int (by omega) (by rw [e0]; exact ho), q, _, _, _, rfl, rfl, SqL.of hq3, hat, .inl ⟨rfl, _, SqL.of ha⟩, _, rfl, a, _, _, rfl, rfl, ha, small (by rw [List.length_map]; omega), ?_⟩
        have hT4 := hT3.up (o := .lst ((row rows (hm owners (i : Int))).map V.int ++ [.int (0 + (i : Int))])) nat_.symm fun z hz q => by
          have h1 := hT3.all z hz
          rw [q, ha] at h1
          revert h1
          cases z.2 <;> (intro h1; cases h1)
        have E4 := E23.mut (o := .lst ((row rows (hm owners (i : Int))).map V.int ++ [.int (0 + (i : Int))])) na
        generalize upd H3 a (.lst ((row rows (hm owners (i : Int))).map V.int ++ [.int (0 + (i : Int))])) = H4 at L4 hT4 E4
        rw [e0] at L4
        refine ⟨_, rfl, .inl ⟨rfl, _, hT4.sq⟩, _, rfl, by show 2 ≤ sizeLine; decide, fun t2 ht2 => ?_⟩
        have ntt : tr ≠ t2 := ne_of_none hT4.at_ ht2
        refine ⟨tr, _, _, rfl, rfl, by rw [upd_ne ntt]; exact hT4.at_, small (by rw [List.length_map]; omega), ?_⟩
        rw [e0]
        have hT5 := hT4.snoc (x := .w (i : Int)) ht2 hT4.npA
        refine ⟨_, _, tz ++ [(t2, Act.w (i : Int))], rfl, ?_, hT5, (E4.mut (E4.f t2 ht2)).mut htr, V4, fun e h0 h1 => ?_, by rw [List.length_append]; exact Nat.succ_le_succ tl, fun tr' f R => ?_⟩
        · exact (L4.kp0 (Kp.new ht2)).kp (Kp.set (m := [tr]) (Kp.refl _) (List.mem_singleton.mpr rfl) (by rw [upd_ne ntt]; exact hT4.at_) nt_lst) fun a ha => by
            rw [List.mem_singleton.mp ha]
            intro z
            exact (hXn tr z).1 rfl
        · rw [held_app o0 o1']
          by_cases he : e = (i : Int)
          · rw [he, decide_eq_true rfl, Bool.or_true]
          · rw [hh e h0 (by omega)]
            rfl
        · rw [List.map_append, List.append_assoc]
          exact co _ _ (Run.write hd R)
      · have hb' : held rows (i : Int) = true := by rw [e0] at hb; simpa using hb
        refine ⟨rows, _, tz, rfl, L3, hT3, E23, VV, fun e h0 h1 => ?_, Nat.le_succ_of_le tl, co⟩
        by_cases he : e = (i : Int)
        · rw [he]
          exact hb'
        · exact hh e h0 (by omega)
    · rintro σ H2 ⟨rows, v5, tz, rfl, L2, hT, E2, VV, hh, tl, co⟩
      rw [Int.toNat_natCast, List.length_map] at hh tl
      have uw : unw t rows = [] := unw_nil.mpr fun e h0 h1 => hh e h0 (by omega)
      obtain ⟨ys, hy, ey⟩ := L2.sl
      have yl : ys.length = n := by have := congrArg List.length ey; rw [List.length_map, VV.len] at this; exact this
      have pr : ((ys.map fun z => V.ref z.1).length : Int) * ((owners.map V.int).length : Int) = ((n * t : Nat) : Int) := by
        rw [List.length_map, List.length_map, yl, ol, Int.natCast_mul]
      have prl : n * t ≤ 400 := Nat.mul_le_mul n1 t1
      refine ⟨_, rfl, q, _, rfl, .inl hy.sq, _, rfl, ow, _, rfl, .inl (hO.kp0 E2).sq, _, _, rfl, rfl, .inl ⟨by rw [List.length_map]; omega, by rw [List.length_map]; omega⟩, ?_⟩
      have fin : ∀ (rows' : Rows) (tz' : List (Addr × Act)) (H' : Hp), Lg HX H' q rows' → SL H' tr gA tz' → Kp [] H H' → (∀ tr' f, Run (Lof (ps.map (·.2))) (hm owners) t rows' tr' f → Run (Lof (ps.map (·.2))) (hm owners) t (zs.map (·.2)) (tz'.map (·.2) ++ tr') f) → unw t rows' = [] → Still (Lof (ps.map (·.2))) rows' →
          ∀ p, H' p = none → Q (.ref p) (upd H' p (.lst [.ref tr, .ref q])) := fun rows' tz' H' L' hT' E' co' uw' st' p hp => by
        obtain ⟨fs, hf, ef⟩ := L'.sl
        have R := co' [] rows' (Run.done uw' st')
        rw [List.append_nil, ← ef] at R
        exact hQ p tr q tz' fs _ upd_same (hT'.upN hp) (hf.upN hp) R (E'.mut (E'.f p hp))
      refine ⟨_, rfl, (by rw [pr]; omega), (by rw [pr]; omega), for_range (lo := 0) (n := _) (fun i σ H' => ∃ rows v5 v6 v7 v8 tz, σ = [some (.ref lk), some (.ref ow), some (.ref rw_), some (.ref q), some (.ref tr), v5, v6, v7, v8, none] ∧
        Lg HX H' q rows ∧ SL H' tr gA tz ∧ Kp [] H H' ∧ Valid n t rows ∧ unw t rows = [] ∧ i ≤ lens rows ∧ tz.length ≤ t + i ∧ (∀ tr' f, Run (Lof (ps.map (·.2))) (hm owners) t rows tr' f → Run (Lof (ps.map (·.2))) (hm owners) t (zs.map (·.2)) (tz.map (·.2) ++ tr') f)) ?_ ?_ ?_⟩
      · exact ⟨rows, _, _, _, _, tz, rfl, L2, hT, E2, VV, uw, Nat.zero_le _, by omega, co⟩
      · clear co uw hh tl VV hT L2 E2 hy ey yl rows tz
        rintro i σ H3 hi ⟨rows, v5, v6, v7, v8, tz, rfl, L3, hT, E3, VV, uw, li, tl, co⟩
        replace hi : i < n * t := by rw [pr, Int.toNat_natCast] at hi; exact hi
        refine ⟨_, rfl, tr, _, rfl, .inl hT.sq, ?_⟩
        rw [List.length_map]
        refine ⟨fun σ' H' => ∃ rows' v5 v8 tz', σ' = [some (.ref lk), some (.ref ow), some (.ref rw_), some (.ref q), some (.ref tr), v5, some (.int (0 + i)), some (.int (tz.length : Int)), v8, none] ∧
          Lg HX H' q rows' ∧ SL H' tr gA tz' ∧ Kp [] H H' ∧ Valid n t rows' ∧ unw t rows' = [] ∧ (∀ tr' f, Run (Lof (ps.map (·.2))) (hm owners) t rows' tr' f → Run (Lof (ps.map (·.2))) (hm owners) t (zs.map (·.2)) (tz'.map (·.2) ++ tr') f) ∧
          ((tz'.length = tz.length ∧ Still (Lof (ps.map (·.2))) rows') ∨ (tz'.length = tz.length + 1 ∧ i + 1 ≤ lens rows')), ?_, ?_⟩
        · obtain ⟨ys, hy, ey⟩ := L3.sl
          have yl : rows.length = n := VV.len
          refine ⟨_, rfl, lk, rfl, ⟨_, (hL.kp0 E3 fun _ => nt_gP).sq⟩, for_list (K := K) (a := lk) (xs := ps.map fun z => V.ref z.1) (fun j σ H' => H' = H3 ∧ (∃ v5 v8, σ = [some (.ref lk), some (.ref ow), some (.ref rw_), some (.ref q), some (.ref tr), v5, some (.int (0 + i)), some (.int (tz.length : Int)), v8, none]) ∧
            ∀ (k : Nat) z, k < j → ps[k]? = some z → offer (row rows z.2.1) (row rows z.2.2) = none) ⟨rfl, ⟨_, _, rfl⟩, fun k z hk => absurd hk (Nat.not_lt_zero _)⟩ (fun j σ H' _ h => by rw [h.1]; exact (hL.kp0 E3 fun _ => nt_gP).sq) ?_ ?_⟩
          · rintro j y σ H4 hj ⟨rfl, ⟨v5, v8, rfl⟩, pre⟩
            obtain ⟨z, hz, rfl⟩ := map_ref_at hj
            have hzm := List.mem_of_getElem? hz
            have ht : H4 z.1 = some (gP z.2) := (hL.kp0 E3 fun _ => nt_gP).all z hzm
            obtain ⟨a1, a2, a3, a4, a5⟩ := ok z hzm
            obtain ⟨z1, _, at1, row1⟩ := sl_row hy ey a1 (by omega)
            obtain ⟨z2, _, at2, row2⟩ := sl_row hy ey a3 (by omega)
            refine ⟨_, rfl, _, rfl, z.1, _, 0, _, rfl, rfl, SqT.of ht, rfl, q, _, _, _, rfl, rfl, hy.sq, at1, _, rfl, _, rfl, z.1, _, 1, _, rfl, rfl, SqT.of ht, rfl, q, _, _, _, rfl, rfl, hy.sq, at2, z1.1, z2.1, _, _, rfl, row1, row2, ?_⟩
            cases eo : offer (row rows z.2.1) (row rows z.2.2) with
            | none =>
              refine ⟨_, rfl, -1, 0, rfl, rfl, _, rfl, iteD (fun h => absurd h (by decide)) fun _ => ⟨rfl, ⟨_, _, rfl⟩, fun k z' hk hz' => ?_⟩⟩
              rcases Nat.lt_succ_iff_lt_or_eq.mp hk with hk | hk
              · exact pre k z' hk hz'
              · subst hk
                rw [hz] at hz'
                cases hz'
                exact eo
            | some e =>
              rw [show (some e : Option Int).getD (-1) = e from rfl]
              have hLk : Lof (ps.map (·.2)) z.2.1 z.2.2 := List.mem_map.mpr ⟨z, hzm, rfl⟩
              obtain ⟨⟨ee0, ee1⟩, _, V5, l5⟩ := off_valid N VV hLk eo
              have lst : Least (Lof (ps.map (·.2))) rows z.2.1 z.2.2 e := least_of (i := j) srt (fun _ _ => Iff.rfl) (by rw [List.getElem?_map, hz]; rfl) (fun k s' r' hk hs' => by
                rw [List.getElem?_map] at hs'
                cases q : ps[k]? with
                | none => rw [q] at hs'; cases hs'
                | some z' =>
                  rw [q] at hs'
                  have := pre k z' hk q
                  rw [show z'.2 = (s', r') from Option.some.inj hs'] at this
                  exact this) eo
              obtain ⟨xs3, a, hq3, hat, ha, na, L4⟩ := L3.app (r := z.2.2) (e := e) a3 (by omega)
              obtain ⟨nat_, na⟩ := hXn a na
              have rl : (row rows z.2.2).length ≤ t := row_len (VV.nd _ (row_mem a3 (by omega))) (VV.rg _ (row_mem a3 (by omega)))
              refine ⟨_, rfl, e, 0, rfl, rfl, _, rfl, iteD (fun _ => ?_) fun h => absurd ee0 h⟩
              refine ⟨_, rfl, _, rfl, z.1, _, 1, _, rfl, rfl, SqT.of ht, rfl, q, _, _, _, rfl, rfl, SqL.of hq3, hat, .inl ⟨rfl, _, SqL.of ha⟩, _, rfl, a, _, _, rfl, rfl, ha, small (by rw [List.length_map]; omega), ?_⟩
              have nza : z.1 ≠ a := fun q => by
                rw [q, ha] at ht
                cases ht
              have ht4 : (upd H4 a (.lst ((row rows z.2.2).map V.int ++ [.int e]))) z.1 = some (gP z.2) := by rw [upd_ne nza]; exact ht
              have hT4 := hT.up (o := .lst ((row rows z.2.2).map V.int ++ [.int e])) nat_.symm fun z hz q => by
                have h1 := hT.all z hz
                rw [q, ha] at h1
                revert h1
                cases z.2 <;> (intro h1; cases h1)
              have E4 := E3.mut (o := .lst ((row rows z.2.2).map V.int ++ [.int e])) na
              generalize upd H4 a (.lst ((row rows z.2.2).map V.int ++ [.int e])) = H5 at L4 hT4 E4 ht4
              refine ⟨_, rfl, .inl ⟨rfl, _, hT4.sq⟩, _, rfl, z.1, _, 0, _, rfl, rfl, SqT.of ht4, rfl, _, rfl, z.1, _, 1, _, rfl, rfl, SqT.of ht4, rfl, _, rfl, by show 4 ≤ sizeLine; decide, fun t2 ht2 => ?_⟩
              have ntt : tr ≠ t2 := ne_of_none hT4.at_ ht2
              refine ⟨tr, _, _, rfl, rfl, by rw [upd_ne ntt]; exact hT4.at_, small (by rw [List.length_map]; omega), ?_⟩
              have hT5 := hT4.snoc (x := .p z.2.1 z.2.2 e) ht2 hT4.npA
              refine ⟨_, _, _, tz ++ [(t2, Act.p z.2.1 z.2.2 e)], rfl, ?_, hT5, (E4.mut (E4.f t2 ht2)).mut htr, V5, unw_off N VV hLk eo uw, fun tr' f R => ?_, .inr ⟨by rw [List.length_append]; rfl, by rw [l5]; omega⟩⟩
              · exact (L4.kp0 (Kp.new ht2)).kp (Kp.set (m := [tr]) (Kp.refl _) (List.mem_singleton.mpr rfl) (by rw [upd_ne ntt]; exact hT4.at_) nt_lst) fun a ha => by
                  rw [List.mem_singleton.mp ha]
                  intro z
                  exact (hXn tr z).1 rfl
              · rw [List.map_append, List.append_assoc]
                exact co _ _ (Run.pull uw lst R)
          · rintro σ H4 ⟨rfl, ⟨v5, v8, rfl⟩, pre⟩
            refine ⟨rows, _, _, tz, rfl, L3, hT, E3, VV, uw, co, .inl ⟨rfl, fun s r l => ?_⟩⟩
            obtain ⟨z, hz, ez⟩ := List.mem_map.mp l
            obtain ⟨k, hk, ek⟩ := List.getElem_of_mem hz
            have := pre k z (by rw [List.length_map]; exact hk) (by rw [List.getElem?_eq_getElem hk, ek])
            rw [ez] at this
            exact this
        · rintro σ H4 ⟨rows', v5, v8, tz', rfl, L4, hT4, E4, V4, uw4, co4, h4⟩
          refine ⟨_, rfl, tr, _, rfl, .inl hT4.sq, _, rfl, rfl, _, rfl, ?_⟩
          rw [List.length_map]
          rcases h4 with ⟨e, st⟩ | ⟨e, le⟩
          · rw [e]
            refine iteD (fun _ => ?_) fun h => absurd rfl h
            exact ⟨_, rfl, _, rfl, by show 2 ≤ sizeLine; decide, fun p hp => fin rows' tz' H4 L4 hT4 E4 co4 uw4 st p hp⟩
          · rw [e]
            refine iteD (fun h => by injection h with h; omega) fun _ => ?_
            exact ⟨rows', _, _, _, _, tz', rfl, L4, hT4, E4, V4, uw4, le, by omega, co4⟩
      · rintro σ H3 ⟨rows', v5, v6, v7, v8, tz', rfl, L4, hT4, E4, V4, uw4, le, tl4, co4⟩
        replace le : n * t ≤ lens rows' := by rw [pr, Int.toNat_natCast] at le; exact le
        exact ⟨_, rfl, _, rfl, by show 2 ≤ sizeLine; decide, fun p hp => fin rows' tz' H3 L4 hT4 E4 co4 uw4 (still_full N V4 le) p hp⟩
end
end Ps

set_option maxHeartbeats 4000000
/-! PsD9: equal data are found equal. -/
namespace Ps
open PySem PySem.Spec PyProof.Rows L2
/-- data of depth k: None, ints, texts, lists, tuples -/
inductive Pl : Nat → PyData → Prop
  | non {k} : Pl k .none
  | int {k} (i : Int) : Pl k (.int i)
  | str {k} (x : Str) : Pl k (.str x)
  | list {k} {ds : List PyData} (h : ∀ d ∈ ds, Pl k d) (l : ds.length ≤ 100000) : Pl (k + 1) (.list ds)
  | tup {k} {ds : List PyData} (h : ∀ d ∈ ds, Pl k d) (l : ds.length ≤ 100000) : Pl (k + 1) (.tuple ds)
section
variable {P : Program} {w : World} {K : PySem.W.Frag} {mg : Str → Option Value} {base : Heap}
theorem dpAll_get {H : Hp} : ∀ {xs : List V} {ds : List PyData}, DpAll K H xs ds → ∀ {i : Nat} {d : PyData}, ds[i]? = some d → ∃ v, xs[i]? = some v ∧ Dp K H v d
  | _, _, .nil, _, _, h => by simp at h
  | _, _, .cons h t, 0, d, e => by
    have e' := Option.some.inj e
    subst e'
    exact ⟨_, rfl, h⟩
  | _, _, .cons h t, i + 1, d, e => dpAll_get t (i := i) (by simpa using e)
theorem dpAll_len {H : Hp} : ∀ {xs : List V} {ds : List PyData}, DpAll K H xs ds → xs.length = ds.length
  | _, _, .nil => rfl
  | _, _, .cons h t => congrArg Nat.succ (dpAll_len t)
/-! ### _law_same -/
def spSame (K : PySem.W.Frag) : Nat → Sp
  | 0 => fun _ _ _ _ => False
  | k + 1 => fun vs H Q _ => ∃ (x y : V) (d : PyData), vs = [x, y] ∧ Pl k d ∧ Dp K H x d ∧ Dp K H y d ∧ Q (.bl true) H
abbrev N__law_same : List Str := ["_law_told_here", "_law_due", "_law_at"]
theorem sc__law_same : FnScope N__law_same ["_law_told_here", "_law_due"] (defScope (top 45)) := ⟨rfl, rfl, rfl, by decide +kernel, rfl, by decide +kernel, by decide +kernel⟩
theorem tyx_l {H : Hp} {a : Addr} {xs : List V} (h : SqL K H a xs) : TyX K H (.ref a) (.type "list") := by
  rcases h with (h | ⟨o, h⟩) | ⟨o, its, n, h, c, _⟩
  · exact .base (.lst h)
  · exact .base (.frz h)
  · exact .kList h c
theorem tyx_t {H : Hp} {a : Addr} {xs : List V} (h : SqT K H a xs) : TyX K H (.ref a) (.type "tuple") := by
  rcases h with (h | ⟨o, h⟩) | ⟨o, its, n, h, c, _⟩
  · exact .base (.tup h)
  · exact .fTuple h
  · exact .kTuple h c
theorem kB {a b : String} {r : Bool} (h : kitB a b = some r) : PySem.W.kitOne K (.type a) (.type b) = some r := kit_ty h
theorem same_step (T : Txt K mg) {k j : Nat} (D__law_same : Def P w K mg base CX0 j "_law_same" ["_law_told_here", "_law_due"] (spSame K k)) : Def P w K mg base CX0 (j + 1) "_law_same" ["_law_told_here", "_law_due"] (spSame K (k + 1)) := by
  refine T.def0 (i := 45) (j := 26) (N := N__law_same) rfl sc__law_same (fun vs H Q E h => ?_) (fun _ _ _ _ _ _ us hl => match us, hl with | [_, _], _ => rfl) (fun f cdv A outer s H vs Q E hr h => ?_)
  · obtain ⟨_, _, _, rfl, _⟩ := h
    rfl
  · obtain ⟨x, y, d, rfl, pl, hx, hy, hQ⟩ := h
    refine ⟨_, (pss_cons (ps_if (pt_cmpR op_isN (pv 1) pe_non (nomark _))
 (pss_one (ps_ret (pe_cmpR op_isN (pv 0) pe_non (nomark _))))
 pss_nil)
 (pss_cons (ps_if (pt_val (pe_callB call_isi (by rfl) (T.n 10 _ rfl) (by decide +kernel) (pa_cons (pv 1) (pa_cons (pe_bltn (v := .ty "str") (by rfl) (T.n 11 _ rfl) (by decide +kernel) rfl) pa_nil))))
 (pss_one (ps_ret (pe_and (pe_callB call_isi (by rfl) (T.n 10 _ rfl) (by decide +kernel) (pa_cons (pv 0) (pa_cons (pe_bltn (v := .ty "str") (by rfl) (T.n 11 _ rfl) (by decide +kernel) rfl) pa_nil))) (pe_one (pe_cmpR op_eq (pv 0) (pv 1) (nomark _))))))
 pss_nil)
 (pss_cons (ps_if (pt_val (pe_callB call_isi (by rfl) (T.n 10 _ rfl) (by decide +kernel) (pa_cons (pv 1) (pa_cons (pe_bltn (v := .ty "int") (by rfl) (T.n 9 _ rfl) (by decide +kernel) rfl) pa_nil))))
 (pss_one (ps_ret (pe_and (pe_callB call_isi (by rfl) (T.n 10 _ rfl) (by decide +kernel) (pa_cons (pv 0) (pa_cons (pe_bltn (v := .ty "int") (by rfl) (T.n 9 _ rfl) (by decide +kernel) rfl) pa_nil))) (pe_and (pe_not (pe_callB call_isi (by rfl) (T.n 10 _ rfl) (by decide +kernel) (pa_cons (pv 0) (pa_cons (pe_bltn (v := .ty "bool") (by rfl) (T.n 12 _ rfl) (by decide +kernel) rfl) pa_nil)))) (pe_one (pe_cmpR op_eq (pv 0) (pv 1) (nomark _)))))))
 pss_nil)
 (pss_cons (ps_if (PW.pt (pw_and (pt_val (pe_callB call_isi (by rfl) (T.n 10 _ rfl) (by decide +kernel) (pa_cons (pv 1) (pa_cons (pe_bltn (v := .ty "list") (by rfl) (T.n 1 _ rfl) (by decide +kernel) rfl) pa_nil)))) (pw_and1 (pt_not (pt_val (pe_callB call_isi (by rfl) (T.n 10 _ rfl) (by decide +kernel) (pa_cons (pv 0) (pa_cons (pe_bltn (v := .ty "list") (by rfl) (T.n 1 _ rfl) (by decide +kernel) rfl) pa_nil))))))))
 (pss_one (ps_ret pe_bl))
 pss_nil)
 (pss_cons (ps_if (PW.pt (pw_and (pt_val (pe_callB call_isi (by rfl) (T.n 10 _ rfl) (by decide +kernel) (pa_cons (pv 1) (pa_cons (pe_bltn (v := .ty "tuple") (by rfl) (T.n 13 _ rfl) (by decide +kernel) rfl) pa_nil)))) (pw_and1 (pt_not (pt_val (pe_callB call_isi (by rfl) (T.n 10 _ rfl) (by decide +kernel) (pa_cons (pv 0) (pa_cons (pe_bltn (v := .ty "tuple") (by rfl) (T.n 13 _ rfl) (by decide +kernel) rfl) pa_nil))))))))
 (pss_one (ps_ret pe_bl))
 pss_nil)
 (pss_cons (ps_if (pt_cmpR op_ne (pe_callB call_len_seq (by rfl) (T.n 0 _ rfl) (by decide +kernel) (pa_cons (pv 0) pa_nil)) (pe_callB call_len_seq (by rfl) (T.n 0 _ rfl) (by decide +kernel) (pa_cons (pv 1) pa_nil)) (nomark _))
 (pss_one (ps_ret pe_bl))
 pss_nil)
 (pss_cons (ps_for PassesOwn.never rfl (pi_range1 (by rfl) (T.n 2 _ rfl) (pa_cons (pe_callB call_len_seq (by rfl) (T.n 0 _ rfl) (by decide +kernel) (pa_cons (pv 1) pa_nil)) pa_nil)) (pg_name (i := 2) sc__law_same.nd rfl (Or.inl rfl))
 (pss_one (ps_if (pt_not (pt_val (pe_fn D__law_same (hr.mono (by first | decide | omega)) (pa_cons (pe_ix ix_seq (pv 0) (pv 2) (fun _ _ => rfl)) (pa_cons (pe_ix ix_seq (pv 1) (pv 2) (fun _ _ => rfl)) pa_nil)))))
 (pss_one (ps_ret pe_bl))
 pss_nil)))
 (pss_one (ps_ret pe_bl))))))))), ?_⟩
    refine ⟨_, rfl, rfl, _, rfl, ?_⟩
    cases pl with
    | non =>
      cases hx
      cases hy
      exact iteD (fun _ => ⟨_, rfl, rfl, hQ⟩) fun h => absurd rfl h
    | int i =>
      cases hx
      cases hy
      refine iteD (fun h => by cases h) fun _ => ?_
      refine ⟨_, rfl, _, _, _, _, _, rfl, .ty _, .base (.int i), kB (r := false) (by decide +kernel), _, rfl, iteF ?_⟩
      refine ⟨_, rfl, _, _, _, _, _, rfl, .ty _, .base (.int i), kB (r := true) (by decide +kernel), _, rfl, iteT ?_⟩
      refine ⟨_, rfl, _, _, _, _, _, rfl, .ty _, .base (.int i), kB (r := true) (by decide +kernel), _, rfl, iteT ?_⟩
      refine ⟨_, rfl, _, _, _, _, _, rfl, .ty _, .base (.int i), kB (r := false) (by decide +kernel), _, rfl, _, rfl, iteT ?_⟩
      refine ⟨_, rfl, _, rfl, rfl, ?_⟩
      rw [decide_eq_true rfl]
      exact hQ
    | str z =>
      cases hx
      cases hy
      refine iteD (fun h => by cases h) fun _ => ?_
      refine ⟨_, rfl, _, _, _, _, _, rfl, .ty _, .base (.str z), kB (r := true) (by decide +kernel), _, rfl, iteT ?_⟩
      refine ⟨_, rfl, _, _, _, _, _, rfl, .ty _, .base (.str z), kB (r := true) (by decide +kernel), _, rfl, iteT ?_⟩
      refine ⟨_, rfl, _, rfl, rfl, ?_⟩
      rw [decide_eq_true rfl]
      exact hQ
    | @list k' ds hd ld =>
      cases hx with
      | @lst a xs _ ha hxs =>
      cases hy with
      | @lst b ys _ hb hys =>
      have lx := dpAll_len hxs
      have ly := dpAll_len hys
      refine iteD (fun h => by cases h) fun _ => ?_
      refine ⟨_, rfl, _, _, _, _, _, rfl, .ty _, tyx_l hb, kB (r := false) (by decide +kernel), _, rfl, iteF ?_⟩
      refine ⟨_, rfl, _, _, _, _, _, rfl, .ty _, tyx_l hb, kB (r := false) (by decide +kernel), _, rfl, iteF ?_⟩
      refine ⟨_, rfl, _, _, _, _, _, rfl, .ty _, tyx_l hb, kB (r := true) (by decide +kernel), _, rfl, iteT ⟨_, rfl, _, _, _, _, _, rfl, .ty _, tyx_l ha, kB (r := true) (by decide +kernel), _, rfl, iteF ?_⟩⟩
      refine ⟨_, rfl, _, _, _, _, _, rfl, .ty _, tyx_l hb, kB (r := false) (by decide +kernel), _, rfl, iteF (iteF ?_)⟩
      refine ⟨_, rfl, a, _, rfl, .inl ha, _, rfl, b, _, rfl, .inl hb, rfl, _, rfl, iteN (fun h => absurd (by rw [lx, ly]) h) fun _ => ?_⟩
      refine ⟨_, rfl, b, _, rfl, .inl hb, _, rfl, by omega, by omega, for_range (lo := 0) (n := _) (fun i σ H' => H' = H ∧ ∃ v, σ = [some (.ref a), some (.ref b), v]) ⟨rfl, none, rfl⟩ ?_ ?_⟩
      · rintro i σ H' hi ⟨rfl, v, rfl⟩
        rw [Int.toNat_natCast, ly] at hi
        have e0 : (0 + (i : Int)).toNat = i := by omega
        obtain ⟨v1, g1, d1⟩ := dpAll_get hxs (i := i) (List.getElem?_eq_getElem hi)
        obtain ⟨v2, g2, d2⟩ := dpAll_get hys (i := i) (List.getElem?_eq_getElem hi)
        refine ⟨_, rfl, _, rfl, .inl ⟨a, _, _, v1, rfl, rfl, ha, atI_int (by omega) (by rw [e0]; exact g1), _, rfl, _, rfl, .inl ⟨b, _, _, v2, rfl, rfl, hb, atI_int (by omega) (by rw [e0]; exact g2), ?_⟩⟩⟩
        exact ⟨v1, v2, _, rfl, hd _ (List.getElem_mem hi), d1, d2, _, rfl, iteF ⟨rfl, _, rfl⟩⟩
      · rintro σ H' ⟨rfl, v, rfl⟩
        exact hQ
    | @tup k' ds hd ld =>
      cases hx with
      | @tup a xs _ ha hxs =>
      cases hy with
      | @tup b ys _ hb hys =>
      have lx := dpAll_len hxs
      have ly := dpAll_len hys
      refine iteD (fun h => by cases h) fun _ => ?_
      refine ⟨_, rfl, _, _, _, _, _, rfl, .ty _, tyx_t hb, kB (r := false) (by decide +kernel), _, rfl, iteF ?_⟩
      refine ⟨_, rfl, _, _, _, _, _, rfl, .ty _, tyx_t hb, kB (r := false) (by decide +kernel), _, rfl, iteF ?_⟩
      refine ⟨_, rfl, _, _, _, _, _, rfl, .ty _, tyx_t hb, kB (r := false) (by decide +kernel), _, rfl, iteF (iteF ?_)⟩
      refine ⟨_, rfl, _, _, _, _, _, rfl, .ty _, tyx_t hb, kB (r := true) (by decide +kernel), _, rfl, iteT ⟨_, rfl, _, _, _, _, _, rfl, .ty _, tyx_t ha, kB (r := true) (by decide +kernel), _, rfl, iteF ?_⟩⟩
      refine ⟨_, rfl, a, _, rfl, .inr ha, _, rfl, b, _, rfl, .inr hb, rfl, _, rfl, iteN (fun h => absurd (by rw [lx, ly]) h) fun _ => ?_⟩
      refine ⟨_, rfl, b, _, rfl, .inr hb, _, rfl, by omega, by omega, for_range (lo := 0) (n := _) (fun i σ H' => H' = H ∧ ∃ v, σ = [some (.ref a), some (.ref b), v]) ⟨rfl, none, rfl⟩ ?_ ?_⟩
      · rintro i σ H' hi ⟨rfl, v, rfl⟩
        rw [Int.toNat_natCast, ly] at hi
        have e0 : (0 + (i : Int)).toNat = i := by omega
        obtain ⟨v1, g1, d1⟩ := dpAll_get hxs (i := i) (List.getElem?_eq_getElem hi)
        obtain ⟨v2, g2, d2⟩ := dpAll_get hys (i := i) (List.getElem?_eq_getElem hi)
        refine ⟨_, rfl, _, rfl, .inr (.inl ⟨a, _, _, v1, rfl, rfl, ha, atI_int (by omega) (by rw [e0]; exact g1), _, rfl, _, rfl, .inr (.inl ⟨b, _, _, v2, rfl, rfl, hb, atI_int (by omega) (by rw [e0]; exact g2), ?_⟩)⟩)⟩
        exact ⟨v1, v2, _, rfl, hd _ (List.getElem_mem hi), d1, d2, _, rfl, iteF ⟨rfl, _, rfl⟩⟩
      · rintro σ H' ⟨rfl, v, rfl⟩
        exact hQ
theorem same_base (T : Txt K mg) : Def P w K mg base CX0 1 "_law_same" ["_law_told_here", "_law_due"] (spSame K 0) :=
  T.def0 (i := 45) (j := 26) (N := N__law_same) rfl sc__law_same (fun _ _ _ _ h => False.elim h) (fun _ _ _ _ _ _ us hl => match us, hl with | [_, _], _ => rfl) fun _ _ _ _ _ _ _ _ _ _ h => False.elim h
theorem d__law_same (T : Txt K mg) : ∀ k, Def P w K mg base CX0 (k + 1) "_law_same" ["_law_told_here", "_law_due"] (spSame K k)
  | 0 => same_base T
  | k + 1 => same_step T (d__law_same T k)
theorem pl_dI {ns : List Int} (h : ns.length ≤ 100000) : Pl 1 (dI ns) := .list (fun d hd => by
  obtain ⟨i, _, rfl⟩ := List.mem_map.mp hd
  exact .int i) (by rw [List.length_map]; exact h)
theorem pl_dA (a : Act) : Pl 1 (dA a) := by
  cases a with
  | w e => exact .tup (fun d hd => by
      rcases List.mem_cons.mp hd with rfl | hd
      · exact .str _
      · rw [List.mem_singleton.mp hd]
        exact .int _) (by show 2 ≤ 100000; decide)
  | p s r e => exact .tup (fun d hd => by
      rcases List.mem_cons.mp hd with rfl | hd
      · exact .str _
      · rcases List.mem_cons.mp hd with rfl | hd
        · exact .int _
        · rcases List.mem_cons.mp hd with rfl | hd
          · exact .int _
          · rw [List.mem_singleton.mp hd]
            exact .int _) (by show 4 ≤ 100000; decide)
theorem pl_dT {tr : List Act} (h : tr.length ≤ 100000) : Pl 2 (dT tr) := .list (fun d hd => by
  obtain ⟨a, _, rfl⟩ := List.mem_map.mp hd
  exact pl_dA a) (by rw [List.length_map]; exact h)
theorem pl_dR {rows : Rows} (h : rows.length ≤ 100000) (h2 : ∀ r ∈ rows, r.length ≤ 100000) : Pl 2 (dR rows) := .list (fun d hd => by
  obtain ⟨r, hr, rfl⟩ := List.mem_map.mp hd
  exact pl_dI (h2 r hr)) (by rw [List.length_map]; exact h)
end
end Ps

set_option maxHeartbeats 4000000
/-! PsRules: rules that the layer lacks: sets of a list of ints. -/
namespace Ps
open PySem PySem.Spec PyProof.Rows L2
/-! ### set(xs), xs a list of ints; in, len -/
def dcount (ns : List Int) : Nat := (firstMet (fun i => ns.getD i 0) ns.length).length
theorem getD_range (ns : List Int) : ∀ i, i ≤ ns.length → (List.range i).map (fun i => ns.getD i 0) = ns.take i
  | 0, _ => rfl
  | i + 1, h => by
    rw [List.range_succ, List.map_append, getD_range ns i (Nat.le_of_lt h), List.take_succ, List.getElem?_eq_getElem h]
    show ns.take i ++ [ns.getD i 0] = _
    rw [List.getD_eq_getElem?_getD, List.getElem?_eq_getElem h]
    rfl
theorem any_cont (ns : List Int) (k : Int) : (ns.any fun x => x == k) = ns.contains k := by
  induction ns with
  | nil => rfl
  | cons y ns ih =>
    rw [List.any_cons, List.contains_cons, ih]
    congr 1
    by_cases h : y = k
    · rw [h]
    · rw [beq_eq_false_iff_ne.mpr h, beq_eq_false_iff_ne.mpr (Ne.symm h)]
theorem first_cont (ns : List Int) (k : Int) : ((firstMet (fun i => ns.getD i 0) ns.length).any fun x => x == k) = ns.contains k := by
  rw [firstMet_any, getD_range ns _ (Nat.le_refl _), List.take_length, any_cont]
theorem first_len (ns : List Int) : ∀ i, i ≤ ns.length → ((firstMet (fun i => ns.getD i 0) i).length = i ↔ (ns.take i).Nodup)
  | 0, _ => ⟨fun _ => List.nodup_nil, fun _ => rfl⟩
  | i + 1, h => by
    have ih := first_len ns i (Nat.le_of_lt h)
    have le := firstMet_length_le (fun i => ns.getD i 0) i
    have e : ns.take (i + 1) = ns.take i ++ [ns[i]] := by
      rw [List.take_succ, List.getElem?_eq_getElem h]
      rfl
    have eg : ns.getD i 0 = ns[i] := by rw [List.getD_eq_getElem?_getD, List.getElem?_eq_getElem h]; rfl
    have ea : ((firstMet (fun i => ns.getD i 0) i).any fun x => x == ns.getD i 0) = (ns.take i).contains ns[i] := by
      rw [firstMet_any, getD_range ns i (Nat.le_of_lt h), any_cont, eg]
    rw [firstMet_succ, step_length, ea, e]
    by_cases hc : (ns.take i).contains ns[i] = true
    · rw [if_pos hc]
      constructor
      · intro z
        omega
      · intro z
        have h2 := (List.nodup_append.mp z).2.2
        exact absurd rfl (h2 _ (List.contains_iff_mem.mp hc) _ (List.mem_singleton.mpr rfl))
    · rw [if_neg hc]
      have hn : ns[i] ∉ ns.take i := fun z => hc (List.contains_iff_mem.mpr z)
      constructor
      · intro z
        refine List.nodup_append.mpr ⟨ih.mp (by omega), by simp, fun a ha b hb q => ?_⟩
        rw [List.mem_singleton.mp hb] at q
        rw [q] at ha
        exact hn ha
      · intro z
        have := ih.mpr (List.nodup_append.mp z).1
        omega
theorem dcount_iff (ns : List Int) : dcount ns = ns.length ↔ ns.Nodup := by
  have := first_len ns ns.length (Nat.le_refl _)
  rwa [List.take_length] at this
theorem dcount_le (ns : List Int) : dcount ns ≤ ns.length := firstMet_length_le _ _
section
variable {X : Cx}
def rSetI (K : PySem.W.Frag) : List V → Hp → VK → Prop := fun xs H Q => ∃ (l : Addr) (ns : List Int), xs = [.ref l] ∧ SqL K H l (ns.map V.int) ∧ ns.length ≤ 2000 ∧ ∀ a, H a = none → Q (.ref a) (upd H a (.set (fun k => ns.contains k) (dcount ns)))
theorem cr_setI (hc : X.calm = true) : CallR X (.type "set") (rSetI X.K) := by
  intro pins s σ H xs us Q I r h
  obtain ⟨l, ns, rfl, hq, h1, q⟩ := h
  cases r with
  | cons rx rr =>
  cases rr
  cases rx
  obtain ⟨its, r, pl, hz⟩ := I.list hq
  have hl : its.toArray.size = ns.length := by rw [List.size_toArray, ← r.length, List.length_map]
  refine call_set_list (I.ok.hd hc) pl.isList (ns := ns) (by simpa using r.ints) (by unfold scanBound; omega) fun h' tk hS hk => ?_
  rw [hl] at hS
  have hS2 : h'.SetOf (intKind X.prog X.w) s.heap.objs.size (fun k => ns.contains k) (dcount ns) := SetOf_congr hS (fun k => first_cont ns k) rfl
  refine ⟨.ref s.heap.objs.size, upd H s.heap.objs.size (.set (fun k => ns.contains k) (dcount ns)), I.laid (t' := tk) (fun b o e => hk b o (Heap.lt_size e) e) (Nat.le_refl _) hS2, rfl, q _ (I.hok.fresh (Nat.le_refl _))⟩
def rSNot : R2 := fun x y H Q => ∃ (k : Int) (a : Addr) (S : Int → Bool) (n : Nat), x = V.int k ∧ y = V.ref a ∧ H a = some (.set S n) ∧ Q (.bl (!S k)) H
theorem op_snot : OpR X (compareOp .NotIn) rSNot := by
  intro pins s σ H x y v u Q I rx ry h
  obtain ⟨k, a, S, n, rfl, rfl, ha, q⟩ := h
  obtain ⟨tk, rfl⟩ := rx
  cases ry
  have hS : s.heap.SetOf (intKind X.prog X.w) a S n := I.hok a _ ha
  exact wpAny_notInSet_of (intKind_is _ _ _ _) rfl hS ⟨.bl (!S k), H, I.tok _, rfl, q⟩
def rLenSet : List V → Hp → VK → Prop := fun xs H Q => ∃ (a : Addr) (S : Int → Bool) (n : Nat), xs = [.ref a] ∧ H a = some (.set S n) ∧ n ≤ 100000 ∧ Q (.int (n : Int)) H
theorem call_lenSet : CallR X (.builtin "len") rLenSet := by
  intro pins s σ H xs us Q I r h
  obtain ⟨a, S, n, rfl, ha, hn, q⟩ := h
  cases r with
  | cons rx rr =>
  cases rr
  cases rx
  have hS : s.heap.SetOf (intKind X.prog X.w) a S n := I.hok a _ ha
  obtain ⟨o, es, ep, t, ho, hex, hd, _, _, _, hf, hn2⟩ := hS
  exact call_len_set ho hex hd hf (by rw [hn2]; omega) ⟨.int n, H, I.tok _, ⟨_, by rw [hn2]⟩, q⟩
end
end Ps

set_option maxHeartbeats 4000000
/-! PsExc: own errors whose __init__ says super().__init__(..): InvalidLogs(e), NotStrong(). -/
namespace Ps
open PySem PySem.Spec PyProof.Rows L2
open PySem.W (Frag ksEnv ksFn)
/-- what the written part says of an own error over StoreError whose __init__ is st -/
structure ErrT (P : Program) (K : Frag) (mg : Str → Option Value) (x q : Str) (st : Stmt) (C fI : Addr) : Prop where
  gC : mg x = some (.ref C)
  cls : ∃ nm q N bs bm sn sub ab col dd k0 k1 k2 k3 k5, K.lookup C = some (excClassObj nm q C N bs bm true sn sub ab col dd k0 k1 k2 k3 k5 "ValueError.__new__") ∧ PySem.HandSPX.refsVE bm = true
  sa : PySem.W.findIn K (.ref C) "__setattr__" = some (some (.builtin "object.__setattr__"))
  iC : PySem.W.findIn K (.ref C) "__init__" = some (some (.ref fI))
  tC : PySem.W.typeIn K (.ref fI) = some (.type "function")
  kC : PySem.W.keepIn K (.ref C) = true
  exC : PySem.W.subIn K (.ref C) (.type "BaseException") = some true
  tyC : PySem.W.typeIn K (.ref C) = some (.type "type")
  al : PySem.W.ks_superIn K C C "__init__" = some (some (.builtin "ValueError.__init__"))
  hB : PySem.W.subIn K (.ref C) (.type "ValueError") = some true
  sub : PySem.W.mroIn K C (.ref C) = some true
  op : PySem.W.nsIn K PySem.cStatics "thirdparty.any" = some none
  fn : ∃ (oc : Value) (od : Option Addr) (osl : Array (Option Value)) (doc pm : Value) (an : Option Addr) (ct : Value) (cda cc : Addr) (ccl : Value) (cdd : Option Addr) (vs : Array Value) (ccs : Array (Option Value)) (file : Str) (tf : Tok) (cl : Value) (cld : Option Addr) (csl : Array (Option Value)),
    K.lookup fI = some ⟨oc, od, .func (ksFn "__init__" q (defArgs st) (defBody st) (defScope st) .none .none doc pm an (.ref cda) ct cc), osl⟩ ∧ PySem.W.codeIn K (.ref cda) q = true ∧
    K.lookup cda = some ⟨ccl, cdd, .fields vs, ccs⟩ ∧ vs[2]? = some (.str file tf) ∧ ((P.main.file : Str) == file) = true ∧ K.lookup cc = some ⟨cl, cld, .cell (some (.ref C)), csl⟩
  htop : (P.main.scope.names.lookup ("super" : Str)).isSome = false
section
variable {prog : Program} {w : World} {A : Around} {E : Value → Shared → Prop} {h : Heap} {g : Array GenState} {d : Drawn} {t : Nat} {os : OsState} {K : Frag} {mg : Str → Option Value} {base : Heap}
/-- the built-in __init__, bound to x, called -/
theorem mw_call {nm q : Str} {C N x u t0 : Addr} {bs bm : List Value} {hdct : Bool} {sn : List Str} {sub : List Value} {ab : Bool} {col : Option Bool} {dd : Option Addr} {k0 k1 k2 k3 k5 : Option Value} {rest : List Value} {Q : Value → Shared → Prop}
    (hC : h.get? C = some (excClassObj nm q C N bs bm hdct sn sub ab col dd k0 k1 k2 k3 k5 "ValueError.__new__")) (hx : h.get? x = some (PySem.HandSPX.excO C t0)) (hu : h.get? u = some (PySem.W.kxs_mw "ValueError.__init__" x)) (hz : rest.length ≤ sizeLine)
    (hq : ∀ h' t1, (∀ b o, b ≠ x → h.get? b = some o → h'.get? b = some o) → h'.get? x = some (PySem.HandSPX.excO C t1) → Q .none ⟨h', g, d, t, os⟩) :
    wpAny (model prog w) A (call (.ref u) rest) Q E ⟨h, g, d, t, os⟩ := by
  refine wpAny_call (codeAny_of_tree ?_)
  show wpAny _ A.in1 (callAny (.ref u) ⟨rest, []⟩) _ _ _
  simp only [callAny]
  refine wpAny_bind (wpAny_load hu ?_)
  simp only [PySem.W.kxs_mw, show (Value.type "method-wrapper" == Value.type "method" || Value.type "method-wrapper" == Value.type "builtin_function_or_method" || Value.type "method-wrapper" == Value.type "method-wrapper") = true by decide, if_true]
  refine PySem.W.KFB.if_so (by decide) ?_
  refine wpAny_bind (PySem.W.check_bound_init F.excBase_ValueError.toExcCallFacts hC hx rfl ?_)
  refine wpAny_bind (wpAny_pure (wpAny_pure ?_))
  refine ⟨plainId_quiet F.excBase_ValueError.init.plain _, codeAny_builtin F.excBase_ValueError.initEntry ?_⟩
  exact PySem.W.exc_init_tree (cls := .ref C) (t0 := t0) (dv := none) (c2 := .none) (c3 := .none) (b4 := .bool false) hx hz fun h' k e _ => hq h' _ k e
/-- super().__init__(a) in the __init__ of the error class C -/
theorem sup_call {nm qn : Str} {st : Stmt} {C fI L x t0 cda cc N : Addr} {bs bm : List Value} {sn : List Str} {sub : List Value} {ab : Bool} {col : Option Bool} {dd : Option Addr} {k0 k1 k2 k3 k5 : Option Value} {m : Str → Option Value} {xn q : Str} {a : Expr} {p0 p1 p2 pos : Pos} {body : List Stmt} {Q : Value → Shared → Prop}
    {oc : Value} {od : Option Addr} {osl : Array (Option Value)} {fd : FuncData} {ccl : Value} {cdd : Option Addr} {vs : Array Value} {ccs : Array (Option Value)} {file : Str} {tf : Tok} {cl : Value} {cld : Option Addr} {csl : Array (Option Value)} {ar : Arg}
    (T : ErrT prog K mg xn q st C fI) (Md : Mod K mg base) (hsm : mg "super" = none) (kb : ∀ b o, base.get? b = some o → h.get? b = some o) (hn : h.Ns L m) (hx : h.get? x = some (PySem.HandSPX.excO C t0)) (hnx : base.get? x = none) (mx : m ar.arg = some (.ref x))
    (hC : K.lookup C = some (excClassObj nm qn C N bs bm true sn sub ab col dd k0 k1 k2 k3 k5 "ValueError.__new__"))
    (hf : K.lookup fI = some ⟨oc, od, .func fd, osl⟩) (hp : (fd.params.posonlyargs ++ fd.params.args).head? = some ar) (hcode : K.lookup cda = some ⟨ccl, cdd, .fields vs, ccs⟩) (hvs : vs[2]? = some (.str file tf)) (hfile : ((prog.main.file : Str) == file) = true) (hcell : K.lookup cc = some ⟨cl, cld, .cell (some (.ref C)), csl⟩)
    (hks : (defScope st).names.lookup ("super" : Str) = some .globalImplicit) (hkc : (defScope st).names.lookup ("__class__" : Str) = some .free) (hka : (defScope st).names.lookup ar.arg = some .local) (hk : (defScope st).kind = .function)
    (ha : ∀ h1 t1, (∀ b o, h.get? b = some o → h1.get? b = some o) → wpAny (model prog w) A (eval a (ksEnv q (defScope st) L fI (.ref cda) cc)) (fun _ s1 => ∃ tk, s1 = ⟨h1, g, d, tk, os⟩) E ⟨h1, g, d, t1, os⟩)
    (hq : ∀ h' tk t1, (∀ b o, b ≠ x → h.get? b = some o → h'.get? b = some o) → h'.get? x = some (PySem.HandSPX.excO C t1) → Q .none ⟨h', g, d, tk, os⟩)
    (he : starEach (a :: []) (ksEnv q (defScope st) L fI (.ref cda) cc) = (false, eval a (ksEnv q (defScope st) L fI (.ref cda) cc)) :: starEach [] (ksEnv q (defScope st) L fI (.ref cda) cc) := by rfl)
    (hpl : (backTo pos (starEach [] (ksEnv q (defScope st) L fI (.ref cda) cc))).any (·.1) = false := by rfl) {pl : Sem Bool}
    (hev : eval (.Call (.Attribute (.Call (.Name "super" p0) [] [] p1) "__init__" p2) [a] [] pos) (ksEnv q (defScope st) L fI (.ref cda) cc) = (do
      let ov ← attributeBase (.Call (.Name "super" p0) [] [] p1) "__init__" (ksEnv q (defScope st) L fI (.ref cda) cc) (eval (.Call (.Name "super" p0) [] [] p1) (ksEnv q (defScope st) L fI (.ref cda) cc))
      standAt p2.atName
      let (f, first) ← holding [ov] (getMethod ov "__init__" pl)
      callWith pos f first (backTo pos (starEach [a] (ksEnv q (defScope st) L fI (.ref cda) cc))) []) := by rfl) :
    _root_.PySem.wpAt (model prog w) A (.func body (ksEnv q (defScope st) L fI (.ref cda) cc)) (eval (.Call (.Attribute (.Call (.Name "super" p0) [] [] p1) "__init__" p2) [a] [] pos) (ksEnv q (defScope st) L fI (.ref cda) cc)) Q E ⟨h, g, d, t, os⟩ := by
  have X : K.In h := Md.kin.keeps kb
  have I : PySem.W.InstAt h x (PySem.HandSPX.excO C t0) C none := ⟨hx, rfl, rfl, trivial⟩
  have hcl : PySem.W.clsIn K C = some { name := nm, bases := bs, mro := .ref C :: bm, ns := N, qualname := qn, hasDict := true, slotNames := sn, subclasses := sub, abstract := ab, collection := col, hasDel := false } := by unfold PySem.W.clsIn; rw [hC] <;> rfl
  obtain ⟨mb, b1, b2⟩ := Md.blt
  refine PySem.ks_wpAt_MethodCall (pl := pl) ?_ hev
  refine PySem.ks_wpAt_super_base (env := ksEnv q (defScope st) L fI (.ref cda) cc) hks hkc (by decide) rfl (X _ _ hf) rfl hp rfl (X _ _ hcode) rfl hvs hfile T.htop ?_
  refine PySem.W.ks_loadName_global hk hks (Calls.loadGlobal_builtin (env := ksEnv q (defScope st) L fI (.ref cda) cc) (Md.glob.keeps kb) hsm (b1.keeps kb) ((b2 _ (by decide)).trans PyProof.Rows.Boot.«super») ⟨rfl, ?_⟩)
  refine wpAny_loadName_free hk hkc rfl ⟨_, X _ _ hcell, rfl⟩ ?_
  refine wpAny_loadName_local hk hka hn mx ?_
  refine PySem.ks_wpAny_isType_cls (X _ _ hC) rfl ⟨rfl, ?_⟩
  refine PySem.ks_wpAny_call_super (X _ _ hC) rfl hx rfl (fun c e => by cases e) (PySem.W.looks_mroIn X T.sub) (fun h1 e1 kk1 => ?_)
  have X1 : K.In h1 := X.keeps kk1
  have hx1 := kk1 _ _ hx
  have I1 : PySem.W.InstAt h1 x (PySem.HandSPX.excO C t0) C none := ⟨hx1, rfl, rfl, trivial⟩
  have hxC : x ≠ C := fun z => by
    have := Md.kin _ _ hC
    rw [← z, hnx] at this
    cases this
  have al := T.al
  unfold PySem.W.ks_superIn at al
  rw [hcl] at al
  refine PySem.W.kxs_getMethod PySem.W.kxs_ValueError e1 (PySem.W.looks_opaque X1 T.op) (l₀ := .ref C :: bm) (fun A Q E s k q => wpAny_bind ((PySem.W.looks_clsIn X1 hcl) A _ E s k (wpAny_pure q))) rfl X1 al (I1.type.andThen (PySem.W.looks_subIn X1 T.hB)) hxC (by decide) ?_
  refine PySem.W.kxs_callWith (i := "ValueError.__init__") (x := x) (by rw [he]; show (false || (backTo pos (starEach [] _)).any (·.1)) = false; rw [hpl]; rfl) ?_
  have k2 : ∀ b o, h.get? b = some o → (h1.push (PySem.W.kxs_mw "ValueError.__init__" x)).get? b = some o := fun b o e => Heap.get?_push_of_some _ (kk1 b o e)
  rw [he]
  refine PySem.Calls.evalArgs_plain (x := eval a (ksEnv q (defScope st) L fI (.ref cda) cc)) (rest := backTo pos (starEach [] (ksEnv q (defScope st) L fI (.ref cda) cc))) ?_
  refine Calls.spliced_cons ?_
  refine wpAny_mono (ha _ _ k2) (fun v s1 hs => ?_) fun _ _ z => z
  obtain ⟨tk, rfl⟩ := hs
  refine Calls.spliced_nil ?_
  have hu : (h1.push (PySem.W.kxs_mw "ValueError.__init__" x)).get? h1.objs.size = some (PySem.W.kxs_mw "ValueError.__init__" x) := Heap.get?_push_at rfl rfl
  refine ⟨hu, ?_⟩
  exact mw_call ((X.keeps k2) _ _ hC) (k2 _ _ hx) hu (by rw [sizeLine_eq]; exact (by decide : 1 ≤ 16777216)) fun h' t1 k e => hq h' _ t1 (fun b o hb z => k b o hb (k2 b o z)) e
abbrev sIL : Stmt := inClass (top 5) 0
abbrev sNS : Stmt := inClass (top 7) 0
abbrev CT (x : Str) : Stmt → Stmt := fun s => s
theorem wv_of {h : Heap} (k : ∀ b o, base.get? b = some o → h.get? b = some o) (Md : Mod K mg base) : h.NoLimit := Md.nolimit.keeps k
theorem small_text : ∀ i : Nat, i < 32 → ((i : Int).natAbs.log2 < 1920 ∧ (Str.empty ++ ("invalid logs at replica " : Str) ++ (toString (i : Int) : Str)).length ≤ sizeLine) := by
  rw [sizeLine_eq]
  decide +kernel
theorem none_text : (Str.empty ++ ("invalid logs at replica " : Str) ++ ("None" : Str)).length ≤ sizeLine := by
  rw [sizeLine_eq]
  decide +kernel
theorem first_text : (Str.empty ++ ("invalid logs at replica " : Str)).length ≤ sizeLine := by
  rw [sizeLine_eq]
  decide +kernel
/-- what the __init__ of InvalidLogs leaves of a fresh exception at x -/
structure RepEnd (h h' : Heap) (x C dx t1 : Addr) (v : Value) : Prop where
  keep : ∀ b o, b ≠ x → h.get? b = some o → h'.get? b = some o
  obj : h'.get? x = some { cls := .ref C, dict := some dx, data := .fields #[.ref t1, .none, .none, .none, .bool false, .none] }
  dbig : h.objs.size ≤ dx
  dne : dx ≠ x
  ns : h'.Ns1 dx (fun y => if y = "replica" then some v else none)
theorem logs_init {C fI x t0 : Addr} {v : Value} {R : Result → Shared → Prop} {s : Shared} (T : ErrT prog K mg "InvalidLogs" "InvalidLogs.__init__" sIL C fI) (noN : PySem.W.findIn K (.ref C) "replica" = some none) (Md : Mod K mg base) (hsm : mg "super" = none)
    (kb : ∀ b o, base.get? b = some o → s.heap.get? b = some o) (hx : s.heap.get? x = some (PySem.HandSPX.excO C t0)) (hnx : base.get? x = none) (hroom : A.depth < recursionLimit)
    (hv : (∃ (i : Nat) (tk : Tok), v = .int (i : Int) tk ∧ i < 32) ∨ v = .none)
    (hq : ∀ h' tk dx t1, RepEnd s.heap h' x C dx t1 v → R (.ok (.ret .none)) { s with heap := h', toks := tk }) :
    codeAny (model prog w) A (.call (.ref fI) ⟨[.ref x, v], []⟩) R s := by
  obtain ⟨nm, qn, N, bs, bm, sn, sub, ab, col, dd, k0, k1, k2, k3, k5, hC, hbm⟩ := T.cls
  obtain ⟨oc, od, osl, doc, pm, an, ct, cda, cc, ccl, cdd, vs, ccs, file, tf, cl, cld, csl, hf, hcd, hcode, hvs, hfile, hcell⟩ := T.fn
  have X : K.In s.heap := Md.kin.keeps kb
  have hcl : PySem.W.clsIn K C = some { name := nm, bases := bs, mro := .ref C :: bm, ns := N, qualname := qn, hasDict := true, slotNames := sn, subclasses := sub, abstract := ab, collection := col, hasDel := false } := by unfold PySem.W.clsIn; rw [hC] <;> rfl
  obtain ⟨hp, g, d, t, os⟩ := s
  refine PySem.ks_codeAny_call_defAt (binds := [("self", .ref x), ("replica", v)]) hroom (X _ _ hf) rfl (Md.nolimit.keeps kb) (PySem.W.codeRec_of X hcd) rfl (BindsTo.of_eq (by rfl)) (show ∀ y ∈ (defScope sIL).names, y.2 ≠ .cell by decide +kernel) (fun y hy => ?_) (fun h1 hn k1 => ?_) rfl rfl rfl
  · rcases List.mem_cons.mp hy with rfl | hy
    · exact (show (defScope sIL).names.lookup ("self" : Str) = some .local by rfl)
    · rw [List.mem_singleton.mp hy]
      exact (show (defScope sIL).names.lookup ("replica" : Str) = some .local by rfl)
  have kb1 : ∀ b o, base.get? b = some o → h1.get? b = some o := fun b o e => k1 b o (kb b o e)
  have hx1 := k1 _ _ hx
  show _root_.PySem.wpAt _ _ (.func (defBody sIL) (ksEnv "InvalidLogs.__init__" (defScope sIL) hp.objs.size fI (.ref cda) cc)) (execs (defBody sIL) (ksEnv "InvalidLogs.__init__" (defScope sIL) hp.objs.size fI (.ref cda) cc)) _ _ _
  refine PySem.ks_wpAt_execs_cons (PySem.ks_wpAt_Expr_any ?_)
  refine sup_call (ar := ⟨"self", none, _⟩) T Md hsm kb1 hn hx1 hnx (by first | rfl | with_unfolding_all rfl) hC hf rfl hcode hvs hfile hcell rfl rfl rfl rfl (fun h2 t2 k2 => ?_) (fun h2 tk t1 k2 e2 => ?_)
  · refine wpAny_JoinedStr ?_
    refine wpAny_Constant_str ⟨_, _, rfl, first_text, ?_⟩
    refine wpAny_FormattedValue_plain (PySem.ESX.ldL (hn.keeps k2) (v := v) (by first | rfl | with_unfolding_all rfl) ?_)
    rcases hv with ⟨i, tk, rfl, hi⟩ | rfl
    · obtain ⟨z1, z2⟩ := small_text i hi
      exact wpAny_formatField_int z1 ⟨_, _, rfl, z2, z2, _, rfl⟩
    · exact wpAny_formatField_none ⟨_, _, rfl, none_text, none_text, _, rfl⟩
  · have hxL : hp.objs.size ≠ x := Nat.ne_of_gt (Heap.lt_size hx)
    have X2 : K.In h2 := fun a o e => k2 a o (fun z => by have := Md.kin _ _ e; rw [z, hnx] at this; cases this) (kb1 _ _ (Md.kin _ _ e))
    have hn2 : h2.Ns hp.objs.size (fun y => ([("self", Value.ref x), ("replica", v)] : List (Str × Value)).reverse.lookup y) := by
      obtain ⟨o, es, ep, e, r⟩ := hn
      exact ⟨o, es, ep, k2 _ _ hxL e, r⟩
    refine wpAt_of_wpAny ?_
    refine wpAny_execs_cons (plainObj_wpAny_Assign_Attribute ?_)
    refine PySem.ESX.ldL hn2 (v := v) (by first | rfl | with_unfolding_all rfl) (PySem.ESX.ldL hn2 (v := .ref x) (by first | rfl | with_unfolding_all rfl) ?_)
    refine PySem.W.set_plain X2 (ox := PySem.HandSPX.excO C t1) (od := none) ⟨e2, rfl, rfl, trivial⟩ T.sa ?_
    refine PySem.HandSPX.exc_osa X2 e2 hcl (show PySem.HandSPX.refsVE (.ref C :: bm) = true from hbm) rfl noN (fun h3 tk3 dx k3 dn dne hx3 hn3 => ?_)
    refine wpAny_execs_nil (hq h3 tk3 dx t1 ⟨fun b o hb e => k3 b o hb (k2 b o hb (k1 b o e)), hx3, ?_, dne, hn3⟩)
    exact Nat.le_trans (Nat.le_of_lt (show hp.objs.size < h2.objs.size from hn2.lt)) dn
theorem plain_init {C fI x t0 : Addr} {R : Result → Shared → Prop} {s : Shared} (T : ErrT prog K mg "NotStrong" "NotStrong.__init__" sNS C fI) (Md : Mod K mg base) (hsm : mg "super" = none)
    (kb : ∀ b o, base.get? b = some o → s.heap.get? b = some o) (hx : s.heap.get? x = some (PySem.HandSPX.excO C t0)) (hnx : base.get? x = none) (hroom : A.depth < recursionLimit)
    (hq : ∀ h' tk t1, (∀ b o, b ≠ x → s.heap.get? b = some o → h'.get? b = some o) → h'.get? x = some (PySem.HandSPX.excO C t1) → R (.ok (.ret .none)) { s with heap := h', toks := tk }) :
    codeAny (model prog w) A (.call (.ref fI) ⟨[.ref x], []⟩) R s := by
  obtain ⟨nm, qn, N, bs, bm, sn, sub, ab, col, dd, k0, k1, k2, k3, k5, hC, hbm⟩ := T.cls
  obtain ⟨oc, od, osl, doc, pm, an, ct, cda, cc, ccl, cdd, vs, ccs, file, tf, cl, cld, csl, hf, hcd, hcode, hvs, hfile, hcell⟩ := T.fn
  have X : K.In s.heap := Md.kin.keeps kb
  obtain ⟨hp, g, d, t, os⟩ := s
  refine PySem.ks_codeAny_call_defAt (binds := [("self", .ref x)]) hroom (X _ _ hf) rfl (Md.nolimit.keeps kb) (PySem.W.codeRec_of X hcd) rfl (BindsTo.of_eq (by rfl)) (show ∀ y ∈ (defScope sNS).names, y.2 ≠ .cell by decide +kernel) (fun y hy => ?_) (fun h1 hn k1 => ?_) rfl rfl rfl
  · rw [List.mem_singleton.mp hy]
    exact (show (defScope sNS).names.lookup ("self" : Str) = some .local by rfl)
  have kb1 : ∀ b o, base.get? b = some o → h1.get? b = some o := fun b o e => k1 b o (kb b o e)
  have hx1 := k1 _ _ hx
  show _root_.PySem.wpAt _ _ (.func (defBody sNS) (ksEnv "NotStrong.__init__" (defScope sNS) hp.objs.size fI (.ref cda) cc)) (execs (defBody sNS) (ksEnv "NotStrong.__init__" (defScope sNS) hp.objs.size fI (.ref cda) cc)) _ _ _
  refine PySem.ks_wpAt_execs_cons (PySem.ks_wpAt_Expr_any ?_)
  refine sup_call (ar := ⟨"self", none, _⟩) T Md hsm kb1 hn hx1 hnx (by first | rfl | with_unfolding_all rfl) hC hf rfl hcode hvs hfile hcell rfl rfl rfl rfl (fun h2 t2 k2 => ?_) (fun h2 tk t1 k2 e2 => ?_)
  · exact wpAny_Constant_str ⟨_, rfl⟩
  · refine wpAt_of_wpAny ?_
    exact wpAny_execs_nil (hq h2 tk t1 (fun b o hb e => k2 b o hb (k1 b o e)) e2)
end
/-! ### raise InvalidLogs(e), raise NotStrong() -/
section
variable {X : Cx} {C fI : Addr}
theorem unset {X : Cx} {pins : List (Addr × Obj)} {σ : L2.St} {H : Hp} {s : Shared} (I : Inv X pins σ H s) {a : Addr} (h : s.heap.objs.size ≤ a) : X.base.get? a = none := by
  cases e : X.base.get? a with
  | none => rfl
  | some o => exact absurd (Heap.lt_size (I.bk a o e)) (Nat.not_lt.mpr h)
theorem relO_rep {v : V} {v' : Value} (r : RelV v v') (f : Str) : RelO (List.lookup f [(("replica" : Str), v)]) (if f = "replica" then some v' else none) := by
  by_cases hw : f = "replica"
  · subst hw
    rw [if_pos rfl]
    have q : List.lookup ("replica" : Str) [(("replica" : Str), v)] = some v := by simp [List.lookup]
    rw [q]
    exact r
  · rw [if_neg hw]
    have qw : (f == ("replica" : Str)) = false := by simpa using hw
    have q2 : List.lookup f [(("replica" : Str), v)] = none := by simp [List.lookup, qw]
    rw [q2]
    trivial
/-- InvalidLogs(e) -/
def tMkRep (C : Addr) (ta : TA) : L2.St → Hp → XK → Prop := fun σ H Q => ta σ H fun vs H1 => ∃ v, vs = [v] ∧ ((∃ i : Nat, v = .int (i : Int) ∧ i < 32) ∨ v = .non) ∧ ∀ d, H1 d = none → Q (.ref C) (some d) (upd H1 d (.xd [(("replica" : Str), v)]))
theorem pmk_rep {a : Expr} {ta : TA} {p pos : Pos} {k : Nat} (T : ErrT X.prog X.K X.mg "InvalidLogs" "InvalidLogs.__init__" sIL C fI) (noN : PySem.W.findIn X.K (.ref C) "replica" = some none) (hsm : X.mg "super" = none) (hr : Room (k + 1) X.A) (ha : PA X [a] ta) (hg : Gl X "InvalidLogs" := by rfl)
    (he : starEach (a :: []) X.env = (false, eval a X.env) :: starEach [] X.env := by rfl) (hpl : (backTo pos (starEach [] X.env)).any (·.1) = false := by rfl) :
    PMk X (.Call (.Name "InvalidLogs" p) [a] [] pos) (tMkRep C ta) := by
  intro pins s σ H Q I h
  obtain ⟨nm, q, N, bs, bm, sn, sub, ab, col, dd, k0, k1, k2, k3, k5, hC, hbm⟩ := T.cls
  refine wpAny_Call_Name_kw (ld_glob I hg T.gC ?_)
  refine PySem.W.callWith_K (h₀ := X.base) I.ok.mod.kin T.kC (thn (ha.run pos pins s σ H _ I h) fun us s1 hh => ?_) he hpl
  obtain ⟨vs, H1, I1, r1, v, ev, hv, q1⟩ := hh
  subst ev
  refine ⟨I1.kIn, ?_⟩
  cases r1 with
  | cons rv rn =>
    rename_i v' us'
    cases rn
    show wpAny _ _ (call (.ref C) [v']) _ _ _
    have unb := fun {a : Addr} (h : s1.heap.objs.size ≤ a) => unset I1 h
    have bk := I1.bk
    obtain ⟨hp, g, dr, tk, os⟩ := s1
    have k : ∀ b o, hp.get? b = some o → ((hp.push (PySem.W.kdv_tup [v'])).push (PySem.HandSPX.excO C hp.objs.size)).get? b = some o := fun b o e => Heap.get?_push_of_some _ (Heap.get?_push_of_some _ e)
    have hget : ((hp.push (PySem.W.kdv_tup [v'])).push (PySem.HandSPX.excO C hp.objs.size)).get? (hp.objs.size + 1) = some (PySem.HandSPX.excO C hp.objs.size) := by heap_get
    have hv' : (∃ (i : Nat) (tk : Tok), v' = .int (i : Int) tk ∧ i < 32) ∨ v' = .none := by
      rcases hv with ⟨i, rfl, hi⟩ | rfl
      · obtain ⟨tk, rfl⟩ := rv
        exact .inl ⟨i, tk, rfl, hi⟩
      · exact .inr rv
    refine wpAny_call (PySem.HandSPX.call_own F.excBase_ValueError (fun Y => PySem.HandSPX.refsVE_contains Y bm hbm) (I1.kIn _ _ hC) (PySem.W.looks_findIn I1.kIn T.iC) (fun self => PySem.W.bind_fn I1.kIn self T.tC) (by rw [sizeLine_eq]; exact (by decide : 1 ≤ 16777216)) ?_)
    refine logs_init (s := ⟨(hp.push (PySem.W.kdv_tup [v'])).push (PySem.HandSPX.excO C hp.objs.size), g, dr, tk, os⟩) T noN I1.ok.mod hsm (fun b o e => k b o (bk b o e)) hget (unb (Nat.le_succ _)) ?_ hv' fun h' tk' d t1 M => ?_
    · have := (hr.make C [v'] []).dp
      omega
    · have z : hp.objs.size + 1 + 1 ≤ d := by
        have q := M.dbig
        first
          | (simpa only [Heap.size_push] using q)
          | exact q
          | (rw [Heap.size_push, Heap.size_push] at q; exact q)
      have hd0 : hp.objs.size ≤ d := by omega
      have hns := M.ns
      refine ⟨rfl, ?_⟩
      obtain ⟨G', g1, g2⟩ := restrict h' fun b => decide (b ≠ hp.objs.size + 1)
      have gk : ∀ b, b ≠ hp.objs.size + 1 → G'.get? b = h'.get? b := fun b hb => g1 b (decide_eq_true hb)
      have ge : G'.get? (hp.objs.size + 1) = none := g2 _ (by simp)
      have old : ∀ b o, hp.get? b = some o → G'.get? b = some o := fun b o q => by
        have hb : b ≠ hp.objs.size + 1 := Nat.ne_of_lt (Nat.lt_succ_of_lt (Heap.lt_size q))
        exact (gk b hb).trans (M.keep b o hb (k b o q))
      have ob : ObjOk X.prog X.w (upd H1 d (.xd [(("replica" : Str), v)])) G' d (.xd [(("replica" : Str), v)]) :=
        ⟨_, hns.at (fun o q => (gk d M.dne).trans q), fun f => relO_rep rv f⟩
      have J : Inv X pins σ (upd H1 d (.xd [(("replica" : Str), v)])) ⟨G', g, dr, tk', os⟩ := I1.laid (t' := tk') old hd0 ob
      refine ⟨hp.objs.size + 1, _, _, ⟨G', g, dr, tk', os⟩, _, .ref C, some d, rfl, J, fun b o q => ?_, ge, M.obj, ⟨rfl, rfl⟩, rfl, rfl, ?_, rfl, I1.bare, raises_own T.exC T.tyC, q1 d (I1.hok.fresh hd0)⟩
      · by_cases hb : b = hp.objs.size + 1
        · have q' : G'.get? b = some o := q
          rw [hb, ge] at q'; cases q'
        · exact (gk b hb).symm.trans q
      · rw [upd_ne (Ne.symm M.dne)]
        exact I1.hok.fresh (Nat.le_succ _)
/-- NotStrong() -/
theorem pmk_plain {p pos : Pos} {k : Nat} (T : ErrT X.prog X.K X.mg "NotStrong" "NotStrong.__init__" sNS C fI) (hsm : X.mg "super" = none) (hr : Room (k + 1) X.A) (hg : Gl X "NotStrong" := by rfl) :
    PMk X (.Call (.Name "NotStrong" p) [] [] pos) (fun _ H Q => Q (.ref C) none H) := by
  intro pins s σ H Q I h
  obtain ⟨nm, q, N, bs, bm, sn, sub, ab, col, dd, k0, k1, k2, k3, k5, hC, hbm⟩ := T.cls
  refine wpAny_Call_Name_kw (ld_glob I hg T.gC ?_)
  refine PySem.W.callWith_K0 I.kIn T.kC ?_
  show wpAny _ _ (call (.ref C) []) _ _ _
  have unb := fun {a : Addr} (h : s.heap.objs.size ≤ a) => unset I h
  have bk := I.bk
  obtain ⟨hp, g, dr, tk, os⟩ := s
  have k : ∀ b o, hp.get? b = some o → ((hp.push (PySem.W.kdv_tup [])).push (PySem.HandSPX.excO C hp.objs.size)).get? b = some o := fun b o e => Heap.get?_push_of_some _ (Heap.get?_push_of_some _ e)
  have hget : ((hp.push (PySem.W.kdv_tup [])).push (PySem.HandSPX.excO C hp.objs.size)).get? (hp.objs.size + 1) = some (PySem.HandSPX.excO C hp.objs.size) := by heap_get
  refine wpAny_call (PySem.HandSPX.call_own F.excBase_ValueError (fun Y => PySem.HandSPX.refsVE_contains Y bm hbm) (I.kIn _ _ hC) (PySem.W.looks_findIn I.kIn T.iC) (fun self => PySem.W.bind_fn I.kIn self T.tC) (by rw [sizeLine_eq]; exact (by decide : 0 ≤ 16777216)) ?_)
  refine plain_init (s := ⟨(hp.push (PySem.W.kdv_tup [])).push (PySem.HandSPX.excO C hp.objs.size), g, dr, tk, os⟩) T I.ok.mod hsm (fun b o e => k b o (bk b o e)) hget (unb (Nat.le_succ _)) ?_ fun h' tk' t1 kp eo => ?_
  · have := (hr.make C [] []).dp
    omega
  · refine ⟨rfl, ?_⟩
    obtain ⟨G', g1, g2⟩ := restrict h' fun b => decide (b ≠ hp.objs.size + 1)
    have gk : ∀ b, b ≠ hp.objs.size + 1 → G'.get? b = h'.get? b := fun b hb => g1 b (decide_eq_true hb)
    have ge : G'.get? (hp.objs.size + 1) = none := g2 _ (by simp)
    have old : ∀ b o, hp.get? b = some o → G'.get? b = some o := fun b o q => by
      have hb : b ≠ hp.objs.size + 1 := Nat.ne_of_lt (Nat.lt_succ_of_lt (Heap.lt_size q))
      exact (gk b hb).trans (kp b o hb (k b o q))
    have J : Inv X pins σ H ⟨G', g, dr, tk', os⟩ := I.kept (t' := tk') old
    refine ⟨hp.objs.size + 1, _, _, ⟨G', g, dr, tk', os⟩, _, .ref C, none, rfl, J, fun b o q => ?_, ge, eo, ⟨rfl, rfl⟩, rfl, rfl, I.hok.fresh (Nat.le_succ _), rfl, I.bare, raises_own T.exC T.tyC, h⟩
    by_cases hb : b = hp.objs.size + 1
    · have q' : G'.get? b = some o := q
      rw [hb, ge] at q'; cases q'
    · exact (gk b hb).symm.trans q
end
end Ps

set_option maxHeartbeats 4000000
/-! PsGen: all(test for x in e), e a list of ints; the test reads one captured name. -/
namespace Ps
open PySem PySem.Spec PyProof.Rows L2
open GxR (TabB TabG Tabbed GenS keeps_tok keeps_refl inv_tab sh_eta)
/-- the element: a test of the int i and of the captured name's int k -/
def EltC (prog : Program) (w : World) (scope : Scope) (x y : Str) (elt : Expr) (pb : Int → Int → Bool) : Prop :=
  ∀ (cenv : Env) (A' : Around) (E' : Value → Shared → Prop) (i k : Int) (t tk : Tok) (c : Addr) (s₂ : Shared) (m₂ : Str → Option Value), cenv.scope = scope → cenv.cells.lookup y = some c → s₂.heap.IsCell c (some (.int k tk)) → s₂.heap.Ns cenv.locals m₂ → m₂ x = some (.int i t) →
    wpAny (model prog w) A' (eval elt cenv) (fun y s₃ => y = .bool (pb k i) ∧ Keeps s₂ s₃) E' s₂
/-- n <= x < y -/
theorem elt_between {prog : Program} {w : World} {scope : Scope} {x y : Str} {n : Int} {j : Nat} {p1 p2 p3 p4 : Pos} (hk : scope.kind = .function) (hl : scope.names.lookup x = some .local) (hf : scope.names.lookup y = some .free) (hd : (x == ("__debug__" : Str)) = false := by decide) (hd2 : (y == ("__debug__" : Str)) = false := by decide) (hc2 : (y == ("__classdict__" : Str)) = false := by decide) :
    EltC prog w scope x y (.Compare (.Constant (.int n) j p1) [.LtE, .Lt] [.Name x p2, .Name y p3] p4) (fun k i => decide (n ≤ i) && decide (i < k)) := by
  intro cenv A' E' i k t tk c s₂ m₂ hs hcl hcell hn hm
  refine Compare_chain (wpAny_Constant_int (chain_link ?_)) (by with_unfolding_all rfl)
  refine wpAny_Name (wpAny_loadName_local (by rw [hs]; exact hk) (show cenv.scope.names.lookup x = some .local by rw [hs]; exact hl) hn hm ?_) hd
  refine le_int (wpAny_truthy_bool ?_)
  by_cases h : n ≤ i
  · rw [decide_eq_true h]
    refine ite_tt (chain_last ?_)
    refine wpAny_Name (wpAny_loadName_free (by rw [hs]; exact hk) (show cenv.scope.names.lookup y = some .free by rw [hs]; exact hf) hcl hcell ?_ hc2) hd2
    exact lt_int ⟨by show _ = Value.bool (decide (n ≤ i) && decide (i < k)); rw [decide_eq_true h, Bool.true_and], keeps_tok _ _⟩
  · rw [decide_eq_false h]
    exact ite_ff ⟨by show _ = Value.bool (decide (n ≤ i) && decide (i < k)); rw [decide_eq_false h, Bool.false_and], keeps_tok _ _⟩
/-- the test at place j -/
def trI (pb : Int → Bool) (l : List Int) (j : Nat) : Bool := match l[j]? with
  | some b => pb b
  | none => false
theorem trI_some {pb : Int → Bool} {l : List Int} {j : Nat} {b : Int} (h : l[j]? = some b) : trI pb l j = pb b := by
  unfold trI
  rw [h]
theorem all_trI (l : List Int) (pb : Int → Bool) : (List.range l.length).all (trI pb l) = l.all pb := by
  rw [Bool.eq_iff_iff, List.all_eq_true, List.all_eq_true]
  constructor
  · intro h b hb
    obtain ⟨j, hj, e⟩ := List.getElem_of_mem hb
    have q := h j (List.mem_range.mpr hj)
    rw [trI_some (List.getElem?_eq_getElem hj), e] at q
    exact q
  · intro h j hj
    have hj' := List.mem_range.mp hj
    rw [trI_some (List.getElem?_eq_getElem hj')]
    exact h _ (List.getElem_mem hj')
section
variable {X : Cx} {pins : List (Addr × Obj)} {σ : L2.St} {H : Hp} {s : Shared}
/-- the generator g over the ints, ready to be walked, in the state s5; H1: what was held before -/
def ReadyI (X : Cx) (pins : List (Addr × Obj)) (σ : L2.St) (H1 : Hp) (P : Addr) (ns : List Int) (pb : Int → Bool) (g : Addr) (s5 : Shared) : Prop :=
  ∃ (fp wr : List Addr) (G : Array GenState → Array GenState → Prop) (F : Nat → Value → Prop) (St : Nat → Shared → Prop),
    WalksS X.prog X.w X.A.in1 g fp wr G ns.length F St ∧ St 0 s5 ∧
    TruthOf X.prog X.w X.A.in1 F (trI pb ns) ∧
    ∀ s', Moved wr G s5 s' → ∃ H2, Tabbed P H1 H2 ∧ Inv X pins σ H2 s'

theorem gen_list {c P : Addr} {elt iter : Expr} {x y : Str} {px gpos : Pos} {scope : Scope} {pb : Int → Int → Bool} {te : TE} {k iy : Nat} {cy : Addr} {Q' : Value → Shared → Prop} {R : Int → List Int → Hp → Prop}
    (hr : Room k X.A) (TB : TabB X.base X.mg c P) (hcode : X.env.code = .ref c) (S : GenS X.env scope x) (hi : PE X iter te) (hel : EltC X.prog X.w scope x y elt pb)
    (hN : X.N[iy]? = some y) (hv : X.env.scope.names.lookup y = some .cell) (hcy : X.env.cells.lookup y = some cy) (hclo : cloFrom X.env.cells scope.names [] = [(y, cy)])
    (hs : ∀ v, genFold iter X.env v = pure v) (I : Inv X pins σ H s) (h : te σ H fun v H1 => ∃ (l : Addr) (ns : List Int) (kk : Int), v = .ref l ∧ SqL X.K H1 l (ns.map V.int) ∧ σ[iy]? = some (some (.int kk)) ∧ TabG H1 P ∧ R kk ns H1)
    (hQ : ∀ kk ns H1 g s5, ns.length ≤ sizeLine → R kk ns H1 → ReadyI X pins σ H1 P ns (pb kk) g s5 → Q' (.ref g) s5) :
    wpAny (model X.prog X.w) X.A (eval (.GeneratorExp elt [⟨.Name x px, iter, [], 0⟩] scope gpos) X.env) Q' X.xe s := by
  refine wpAny_GeneratorExp_walksQ hr.hd S.co (closure_ok S.free) S.cell S.dot S.loc S.kind (by have := hr.dp; omega) ?_ hs
  refine thn (hi.run pins s σ H _ I h) fun xv s1 ⟨v, H1, I1, r1, q1⟩ => ?_
  obtain ⟨l, ns, kk, rfl, hl, hk, ⟨ps, hP, ht⟩, q1⟩ := q1
  obtain rfl : xv = Value.ref l := r1
  obtain ⟨its, rv, pl, hz⟩ := I1.list hl
  have hlen : its.toArray.size = ns.length := by rw [List.size_toArray, ← rv.length, List.length_map]
  have getI : ∀ (j : Nat) (v : Value), its.toArray[j]? = some v → ∃ n t, ns[j]? = some n ∧ v = .int n t := fun j v hj => by
    rw [List.getElem?_toArray] at hj
    obtain ⟨z, hz, rz⟩ := L2.DX.pget rv hj
    obtain ⟨n, hn, rfl⟩ := map_int_at hz
    obtain ⟨t, rfl⟩ := rz
    exact ⟨n, t, hn, rfl⟩
  obtain ⟨u, tk0, hcell⟩ : ∃ u tk0, u = Value.int kk tk0 ∧ s1.heap.IsCell cy (some u) := by
    obtain ⟨m, hn, hlk⟩ := I1.loc
    obtain ⟨u, r, lk⟩ := hlk iy y _ hN hk (.inr (.inl hv))
    obtain ⟨tk0, rfl⟩ := r
    rcases lk with ⟨e, _⟩ | ⟨_, c', e, hc⟩
    · rw [show X.env.kindOf y = X.env.scope.names.lookup y from rfl, hv] at e
      cases e
    · rw [hcy] at e
      cases e
      exact ⟨_, tk0, rfl, hc⟩
  obtain ⟨rfl, hcell⟩ := hcell
  refine wpAny_pyIter_list pl.isList ?_
  generalize ho : ({ cls := .type "list_iterator", data := .fields #[.ref l, .int 0 0] } : Obj) = o
  have hPs : s1.heap.get? P = some { cls := .none, data := .fields ps } := I1.hok P _ hP
  have hPlt : P < s1.heap.objs.size := Heap.lt_size hPs
  have hP2 : (s1.heap.push o).get? P = some { cls := .none, data := .fields ps } := Heap.get?_push_of_some _ hPs
  have cd : PySem.W.CodeHd (s1.heap.push o) c P := TB.code.keeps fun b u e => Heap.get?_push_of_some _ (I1.bk b u e)
  have lim2 : (s1.heap.push o).NoLimit := I1.nolimit.push o
  have llt : l < s1.heap.objs.size := pl.lt
  have W : ∀ A' : Around, A'.handled = none → Walks X.prog X.w A' s1.heap.objs.size [s1.heap.objs.size, l] [s1.heap.objs.size] its.toArray.size (fun i v => its.toArray[i]? = some v) (fun i h => h.IsListIter s1.heap.objs.size l i ∧ h.IsList l its.toArray) :=
    fun A' hA => Walks.list hA _ l (Nat.ne_of_lt llt) _
  have lP : l ≠ P := fun z => by
    obtain ⟨o', n, e, _, _, d⟩ := pl
    rw [z, hPs] at e
    cases e
    cases d
  have cP : cy ≠ P := fun z => by
    obtain ⟨o', e, d⟩ := hcell
    rw [z, hPs] at e
    cases e
    cases d
  have hst : (fun i (h : Heap) => h.IsListIter s1.heap.objs.size l i ∧ h.IsList l its.toArray) 0 (s1.heap.push o) := ⟨⟨_, Heap.get?_push_size _ (by rw [← ho]; rfl), by rw [← ho], by rw [← ho]; rfl⟩, (pl.keeps fun b u e => Heap.get?_push_of_some _ e).isList⟩
  have cont : ∀ (code : Value) (h3 : Heap) (tk : Nat) (ps' : Array Value), Heap.ExtBut P (s1.heap.push o) h3 → (s1.heap.push o).objs.size ≤ h3.objs.size → h3.get? P = some { cls := .none, data := .fields ps' } → (∃ more, ps' = ps ++ more) → TriplesOk ps'.toList →
      wpAny (model X.prog X.w) X.A (builtinsFor X.env.globals X.env.builtins) (fun bi s₄ =>
        ∃ Ia fp wr n₀ Pf St₀ pz F, Value.ref s1.heap.objs.size = .ref Ia ∧ (∀ A' : Around, A'.handled = none → Walks X.prog X.w A' Ia fp wr n₀ Pf St₀) ∧ St₀ 0 s₄.heap ∧ (∀ b ∈ fp, b < s₄.heap.objs.size) ∧ s₄.heap.NoLimit ∧ cStatics ∉ wr ∧
          (∀ href : Heap, (∀ b o, s₄.heap.get? b = some o → href.get? b = some o) →
            QuietGen X.prog X.w (genEnv scope (cloFrom X.env.cells scope.names []) s₄.heap.objs.size code bi X.env) x [] elt (List.range s₄.heap.objs.size) wr Pf pz F href) ∧
          (∀ a h₅ tk gs, gs.bare = true → s₄.heap.objs.size < a → h₅.objs.size = a + 1 → (∀ b o, s₄.heap.get? b = some o → h₅.get? b = some o) →
            WalksS X.prog X.w X.A.in4 a (a :: s₄.heap.objs.size :: List.range s₄.heap.objs.size) (s₄.heap.objs.size :: wr) (GenOnlyQ s₄.gens.size) (passing pz n₀ 0).length
              (fun j y => ∃ i, (passing pz n₀ 0)[j]? = some i ∧ F i y) (GenAt X.prog X.w X.A.in4 a s₄.gens.size s₄.heap.objs.size (List.range s₄.heap.objs.size) wr pz n₀ F) →
            GenAt X.prog X.w X.A.in4 a s₄.gens.size s₄.heap.objs.size (List.range s₄.heap.objs.size) wr pz n₀ F 0 { s₄ with gens := s₄.gens.push gs, toks := tk, heap := h₅ } →
            Q' (.ref a) { s₄ with gens := s₄.gens.push gs, toks := tk, heap := h₅ })) X.xe { s1 with heap := h3, toks := tk } := by
    intro code h3 tk ps' hx hsz hP3 hmore ht3
    obtain ⟨bm, ob, e1, e2, e3, e4, e5, e6, e7, e8⟩ := TB.bm
    have hcP : cStatics ≠ P := fun e => by
      obtain ⟨_, hns, _⟩ := I1.nolimit
      obtain ⟨o', es, ep, ho, hd, _⟩ := hns
      rw [e, hPs] at ho
      cases ho
      cases hd
    have hcl : cStatics < s1.heap.objs.size := let ⟨_, hns, _⟩ := I1.nolimit; hns.lt
    have sz2 : (s1.heap.push o).objs.size = s1.heap.objs.size + 1 := Heap.size_push ..
    have keep3 : ∀ b u, b ≠ P → s1.heap.get? b = some u → h3.get? b = some u := fun b u hb e => hx b u hb (Heap.get?_push_of_some _ e)
    refine wpAny_builtinsFor (m := X.mg) (by rw [I1.ok.glob]; exact ((I1.mod.glob.keeps I1.bk).push o).extBut hx TB.gP) e1 e2 (keep3 _ _ e4 (I1.bk _ _ e5)) e6 e7 e8 ?_
    refine ⟨s1.heap.objs.size, [s1.heap.objs.size, l], [s1.heap.objs.size], its.toArray.size, _, _, (fun _ => true), (fun i y => ∃ n, ns[i]? = some n ∧ y = .bool (pb kk n)), rfl, W, ?_, ?_, lim2.extBut hx hcP, ?_, ?_, ?_⟩
    · refine (W X.A hr.hd).frame _ _ _ hst fun b hb u e => hx b u (fun z => ?_) e
      rcases List.mem_cons.mp hb with z2 | z2
      · exact Nat.ne_of_lt hPlt (z.symm.trans z2)
      · exact lP ((List.mem_singleton.mp z2).symm.trans z)
    · intro b hb
      rcases List.mem_cons.mp hb with z | z
      · rw [z]
        show s1.heap.objs.size < h3.objs.size
        omega
      · rw [List.mem_singleton.mp z]
        have sz3 : (s1.heap.push o).objs.size ≤ h3.objs.size := hsz
        have : s1.heap.objs.size < h3.objs.size := by omega
        exact Nat.lt_trans llt this
    · intro z
      rcases List.mem_cons.mp z with z | z
      · exact Nat.ne_of_lt hcl z
      · cases z
    · intro href hhref
      have cell4 : h3.IsCell cy (some (.int kk tk0)) := by
        obtain ⟨oc, e, d⟩ := hcell
        exact ⟨oc, keep3 _ _ cP e, d⟩
      refine ⟨fun A' E' i v s₂ m₂ hA hPv hn hm hk => ?_, fun A' E' i v s₂ m₂ hA hPv hp hn hm hk => ?_⟩
      · simp only [List.forIn_nil]
        exact wpAny_pure ⟨rfl, keeps_refl _⟩
      · obtain ⟨n, u, hn', rfl⟩ := getI i v hPv
        have cell5 : s₂.heap.IsCell cy (some (.int kk tk0)) := by
          obtain ⟨oc, e, d⟩ := cell4
          refine ⟨oc, hk cy (List.mem_range.mpr (Heap.lt_size e)) (fun z => ?_) oc (hhref _ _ e), d⟩
          obtain ⟨oc', e', _⟩ := hcell
          exact Nat.ne_of_lt (Heap.lt_size e') (List.mem_singleton.mp z)
        exact wpAny_mono (hel _ A' E' n kk u tk0 cy s₂ m₂ rfl (by show (cloFrom X.env.cells scope.names []).lookup y = some cy; rw [hclo]; simp [List.lookup]) cell5 hn hm) (fun y s3 r => ⟨⟨n, hn', r.1⟩, r.2⟩) fun _ _ e => e
    · intro g h5 tk5 gs hgb hag hsz5 hk5 W5 hat
      simp only [GxR.passing_true, List.length_range] at W5
      rw [hlen] at W5
      have hat' := hat
      rw [hlen] at hat'
      refine hQ kk ns H1 g _ (by rw [← List.length_map (f := V.int)]; exact hz) q1 ⟨_, _, _, _, _, W5.in4_1, hat', ?_, fun s' hm => ?_⟩
      · intro j y sj Qj Ej hy hQj
        obtain ⟨i, hij, n, hn', rfl⟩ := hy
        obtain ⟨hj, ej⟩ := List.getElem?_eq_some_iff.mp hij
        rw [List.getElem_range] at ej
        subst ej
        have hQ2 : Qj (trI (pb kk) ns j) sj := hQj
        rw [trI_some hn'] at hQ2
        exact wpAny_truthy_bool hQ2
      · obtain ⟨more, em⟩ := hmore
        have nwr : ∀ b u, s1.heap.get? b = some u → b ∉ h3.objs.size :: [s1.heap.objs.size] := fun b u e hb => by
          have hl := Heap.lt_size e
          rcases List.mem_cons.mp hb with z | z
          · rw [z] at hl
            have h9 : (h3.objs.size : Nat) < s1.heap.objs.size := hl
            omega
          · rcases List.mem_cons.mp z with z | z
            · rw [z] at hl
              exact Nat.lt_irrefl _ hl
            · cases z
        have J := inv_tab (more := more) (h' := s'.heap) (g' := s'.gens) (d' := s'.drawn) (t' := s'.toks) I1 hP (fun b u hb e => hm.heap b u (nwr b u e) (hk5 b u (keep3 b u hb e)))
          (by rw [← em]; exact hm.heap P _ (nwr P _ hPs) (hk5 P _ hP3)) (AllBare.movedS (I1.bare.push hgb) hm)
        rw [sh_eta s1 s' hm.os] at J
        refine ⟨upd H1 P (.tbl (ps ++ more)), ⟨⟨ps ++ more, upd_same, by rw [← em]; exact ht3⟩, fun b hb => upd_ne hb⟩, J⟩
  refine ⟨lim2, ?_⟩
  cases hf : codeAmong gpos ps.toList with
  | none =>
    refine wpAny_genexprCodeX hcode (cd.code hP2 ht) (cd.tab hP2) hf fun c' h' tk hx hge hlt hco' _ htab' _ => ?_
    obtain ⟨o1, vs, f1, tf, fl, tg, inF, tx, tt, op, _, _, _, _, _, _, _, _, _, htr, _⟩ := hco'
    exact cont _ h' tk _ hx (Nat.le_trans hge (Nat.le_of_lt hlt)) htab'.2 ⟨_, rfl⟩ htr
  | some cv =>
    refine wpAny_genexprCode_hit hcode (cd.code hP2 ht) hf ?_
    exact cont cv (s1.heap.push o) s1.toks ps (Heap.ExtBut.refl _ _) (Nat.le_refl _) hP2 ⟨#[], by simp⟩ ht
/-- all(test for x in e), e a list of ints; behind it the def's table may have grown -/
def tAllI (K : PySem.W.Frag) (P : Addr) (iy : Nat) (pb : Int → Int → Bool) (te : TE) : TE := fun σ H Q => te σ H fun v H1 => ∃ (l : Addr) (ns : List Int) (kk : Int), v = .ref l ∧ SqL K H1 l (ns.map V.int) ∧ σ[iy]? = some (some (.int kk)) ∧ TabG H1 P ∧ ∀ H2, Tabbed P H1 H2 → Q (.bl (ns.all (pb kk))) H2
theorem pe_allI {c P : Addr} {elt iter : Expr} {x y : Str} {px p pos gpos : Pos} {scope : Scope} {pb : Int → Int → Bool} {te : TE} {k iy : Nat} {cy : Addr}
    (hr : Room k X.A) (hg : Gl X "all") (hm : X.mg "all" = none) (hb : bootBuiltins "all" = some (.builtin "all")) (TB : TabB X.base X.mg c P) (hcode : X.env.code = .ref c) (S : GenS X.env scope x) (hi : PE X iter te) (hel : EltC X.prog X.w scope x y elt pb)
    (hN : X.N[iy]? = some y) (hv : X.env.scope.names.lookup y = some .cell) (hcy : X.env.cells.lookup y = some cy) (hclo : cloFrom X.env.cells scope.names [] = [(y, cy)])
    (hs : ∀ v, genFold iter X.env v = pure v)
    (he : starEach [.GeneratorExp elt [⟨.Name x px, iter, [], 0⟩] scope gpos] X.env = (false, eval (.GeneratorExp elt [⟨.Name x px, iter, [], 0⟩] scope gpos) X.env) :: starEach [] X.env := by rfl) :
    PE X (.Call (.Name "all" p) [.GeneratorExp elt [⟨.Name x px, iter, [], 0⟩] scope gpos] [] pos) (tAllI X.K P iy pb te) := by
  refine ⟨fun pins s σ H Q I h => ?_⟩
  refine wpAny_Call_Name_kw (ld_blt I hg hm hb ?_)
  refine PyProof.Rows.callWith_builtin1 ?_ he (by rfl)
  rw [he]
  show wpAny _ _ (spliced ((false, eval (.GeneratorExp elt [⟨.Name x px, iter, [], 0⟩] scope gpos) X.env) :: backTo pos (starEach [] X.env))) _ _ s
  refine Calls.spliced_cons (gen_list (R := fun kk ns H1 => ∀ H2, Tabbed P H1 H2 → Q (.bl (ns.all (pb kk))) H2) hr TB hcode S hi hel hN hv hcy hclo hs I h fun kk ns H1 g s5 hz hR hG => ?_)
  obtain ⟨fp, wr, G, F, St, W, hst, htr, hI⟩ := hG
  refine Calls.spliced_nil ?_
  refine call_all_walkS (W.self 0 _ _ _ hst ⟨g, fp, wr, G, _, F, St, _, rfl, W, hst, htr, fun s' hmv => ?_⟩)
  obtain ⟨H2, hT, J⟩ := hI s' hmv
  refine ⟨.bl _, H2, J, rfl, ?_⟩
  rw [all_trI ns (pb kk)]
  exact hR H2 hT
end
end Ps

set_option maxHeartbeats 4000000
/-! PsObj: nets and clusters in the heap; what the top has left of the classes; defs that may raise; methods. -/
namespace Ps
open PySem PySem.Spec PyProof.Rows L2
open He (ga ma)
abbrev aN (K : PySem.W.Frag) : Addr := ga K "Net"
abbrev aC (K : PySem.W.Frag) : Addr := ga K "Cluster"
abbrev aL (K : PySem.W.Frag) : Addr := ga K "InvalidLogs"
abbrev aS (K : PySem.W.Frag) : Addr := ga K "NotStrong"
abbrev aE (K : PySem.W.Frag) : Addr := ga K "StoreError"
def propG (K : PySem.W.Frag) (C : Addr) (f : Str) : Addr := match PySem.W.recIn K (ma K C f) "property" with
  | some (.ref g :: _) => g
  | _ => 0
abbrev sLinks : Stmt := inClass (top 32) 7
/-- what the top has left of the classes -/
structure TxC (P : Program) (K : PySem.W.Frag) (mg : Str → Option Value) : Prop extends Txt K mg where
  gl : ∀ x ∈ glos, mg x = some (.ref (ga K x))
  clN : Cls K (aN K)
  clC : Cls K (aC K)
  naN : ∀ f ∈ (["count", "_linked", "_links"] : List Str), NoAttr K (aN K) f
  naC : ∀ f ∈ (["net", "size", "_homes"] : List Str), NoAttr K (aC K) f
  mkN : Mk K (aN K) (ma K (aN K) "__init__")
  mkC : Mk K (aC K) (ma K (aC K) "__init__")
  home : Meth K (aC K) "home_of" (ma K (aC K) "home_of")
  lnk : PropOf K (aN K) "links" (ma K (aN K) "links") (propG K (aN K) "links")
  lnkF : ∃ fd, FunD K "links" "Net.links" (defArgs sLinks) (defBody sLinks) (defScope sLinks) [] [] (propG K (aN K) "links") fd
  rdN : ClX.CRead K (aN K) (.type "type")
  rdC : ClX.CRead K (aC K) (.type "type")
  mostN : ∃ u, ClX.CVal K (aN K) (.type "type") "MOST" (.int 24) u
  mostC : ∃ u, ClX.CVal K (aC K) (.type "type") "MOST" (.int 60) u
  first : ∃ t, mg "FIRST" = some (.str "first" t)
  eL : ErrT P K mg "InvalidLogs" "InvalidLogs.__init__" sIL (aL K) (ma K (aL K) "__init__")
  eLn : PySem.W.findIn K (.ref (aL K)) "replica" = some none
  eS : ErrT P K mg "NotStrong" "NotStrong.__init__" sNS (aS K) (ma K (aS K) "__init__")
/-! ### the objects -/
/-- a net at a: n replicas, links ps at lk -/
structure NetAt (K : PySem.W.Frag) (H : Hp) (a : Addr) (n : Nat) (lk : Addr) (ps : List (Addr × Int × Int)) : Prop where
  ex : ∃ dx fs, H a = some (.ins (aN K) dx fs) ∧ fs.lookup ("count" : Str) = some (.int (n : Int)) ∧ fs.lookup ("_links" : Str) = some (.ref lk) ∧ fs.lookup ("links" : Str) = none
  sl : SL H lk gP ps
/-- a cluster at a, its net at b -/
structure Clu (K : PySem.W.Frag) (H : Hp) (a b : Addr) (n : Nat) (lk : Addr) (ps : List (Addr × Int × Int)) (owners : List Int) : Prop where
  ex : ∃ dx fs ho, H a = some (.ins (aC K) dx fs) ∧ fs.lookup ("net" : Str) = some (.ref b) ∧ fs.lookup ("size" : Str) = some (.int (owners.length : Int)) ∧ fs.lookup ("_homes" : Str) = some (.ref ho) ∧ fs.lookup ("home_of" : Str) = none ∧ IL H ho owners
  net : NetAt K H b n lk ps
section
variable {K : PySem.W.Frag} {H H' : Hp} {a b lk : Addr} {n : Nat} {ps : List (Addr × Int × Int)} {owners : List Int}
theorem NetAt.kp0 (h : NetAt K H a n lk ps) (e : Kp [] H H') : NetAt K H' a n lk ps := by
  obtain ⟨⟨dx, fs, h1, h2⟩, h3⟩ := h
  exact ⟨⟨dx, fs, e.k _ _ h1 nil_not nt_ins, h2⟩, h3.kp0 e fun _ => nt_gP⟩
theorem Clu.kp0 (h : Clu K H a b n lk ps owners) (e : Kp [] H H') : Clu K H' a b n lk ps owners := by
  obtain ⟨⟨dx, fs, ho, h1, h2, h3, h4, h5, h6⟩, h7⟩ := h
  exact ⟨⟨dx, fs, ho, e.k _ _ h1 nil_not nt_ins, h2, h3, h4, h5, h6.kp0 e⟩, h7.kp0 e⟩
end
/-! ### defs that may raise -/
section
variable {P : Program} {w : World} {K : PySem.W.Frag} {mg : Str → Option Value} {base : Heap}
/-- a def that may let an exception out -/
theorem Txt.defX {x : Str} {i j k : Nat} {N ps : List Str} {sp : Sp} (T : Txt K mg) (h : fnL[j]? = some (dd x i)) (S : FnScope N ps (defScope (top i))) (len : ∀ vs H Q E, sp vs H Q E → vs.length = ps.length)
    (b : ∀ (kV doc pm : Value) (an : Option Addr) (cdv ct : Value) (us : List Value), us.length = ps.length → bindArgs (PySem.W.fnOf x x (defArgs (top i)) (defBody (top i)) (defScope (top i)) .none kV doc pm an cdv ct) ⟨us, []⟩ = pure (ps.zip us))
    (body : ∀ (f : Addr) (cdv : Value) (A : Around) (outer : List Env) (s : Shared) (H : Hp) (vs : List V) (Q : VK) (E : XK), Room k (A.deeper (envOfC x (defScope (top i)) s.heap.objs.size f cdv)) → sp vs H Q E →
      ∃ t, PSs (cxOf (L2.CX P w) P w K mg base N x (defScope (top i)) f cdv A outer s H E) (defBody (top i)) t ∧ t { nx := fun _ H' => Q .non H', rt := Q } (start N vs) H) : Def P w K mg base (L2.CX P w) (k + 1) x ps sp := by
  obtain ⟨fd, F⟩ := T.d j _ h
  have hm := T.g j _ h rfl
  have B : Binds K fd ps [] := FunD.bindsN F b
  exact ⟨He.fAd K (x, none), fd, FunD.ok F S len fun cdv A outer s H vs Q E hr hs => body _ cdv A outer s H vs Q E hr hs, hm, F.kp, B⟩
/-- a method -/
structure DefM (P : Program) (w : World) (K : PySem.W.Frag) (mg : Str → Option Value) (base : Heap) (CX : CXT) (k : Nat) (f : Addr) (ps : List Str) (sp : Sp) : Prop where
  ex : ∃ fd : FuncData, FnOk P w K mg base CX k f fd ps sp ∧ Binds K fd ps []
theorem Txt.meth {C m q : Str} {i j l k : Nat} {N ps : List Str} {sp : Sp} (T : Txt K mg) (h : fnL[j]? = some (dm C m q i l)) (S : FnScope N ps (defScope (inClass (top i) l))) (len : ∀ vs H Q E, sp vs H Q E → vs.length = ps.length)
    (b : ∀ (kV doc pm : Value) (an : Option Addr) (cdv ct : Value) (us : List Value), us.length = ps.length → bindArgs (PySem.W.fnOf m q (defArgs (inClass (top i) l)) (defBody (inClass (top i) l)) (defScope (inClass (top i) l)) .none kV doc pm an cdv ct) ⟨us, []⟩ = pure (ps.zip us))
    (body : ∀ (f : Addr) (cdv : Value) (A : Around) (outer : List Env) (s : Shared) (H : Hp) (vs : List V) (Q : VK) (E : XK), Room k (A.deeper (envOfC q (defScope (inClass (top i) l)) s.heap.objs.size f cdv)) → sp vs H Q E →
      ∃ t, PSs (cxOf CX0 P w K mg base N q (defScope (inClass (top i) l)) f cdv A outer s H E).nox (defBody (inClass (top i) l)) t ∧ t { nx := fun _ H' => Q .non H', rt := Q } (start N vs) H) : DefM P w K mg base CX0 (k + 1) (ma K (ga K C) m) ps sp := by
  obtain ⟨fd, F⟩ := T.d j _ h
  have B : Binds K fd ps [] := FunD.bindsN F b
  exact ⟨fd, FunD.ok F S len fun cdv A outer s H vs Q E hr hs => by
    obtain ⟨t, h1, h2⟩ := body _ cdv A outer s H vs Q E hr hs
    exact ⟨t, h1.nox, h2⟩, B⟩
end
section
variable {X : Cx} {e : Expr} {es : List Expr} {x : Str} {k : Nat} {ps : List Str} {sp : Sp} {t : TA} {p pos : Pos}
/-- a def that may raise, called where it does not -/
theorem pe_fnX (D : Def X.prog X.w X.K X.mg X.base (L2.CX X.prog X.w) k x ps sp) (hr : Room k X.A) (ha : PA X (e :: es) t) (hg : Gl X x := by rfl) (hdb : (x == ("__debug__" : Str)) = false := by decide)
    (he : starEach (e :: es) X.env = (false, eval e X.env) :: starEach es X.env := by rfl) (hpl : (backTo pos (starEach es X.env)).any (·.1) = false := by rfl) :
    PE X (.Call (.Name x p) (e :: es) [] pos) (tCall sp [] E0 t) := by
  obtain ⟨f, fd, F, hm, hk, hb⟩ := D.ex
  exact pe_call F hr hg hm hk hb .nil passL ha hdb he hpl
/-- .. where its exception goes on -/
theorem pe_fnS {W : WX} (D : Def X.prog X.w X.K X.mg X.base (L2.CX X.prog X.w) k x ps sp) (hr : Room k X.A) (tk : Takes X W) (ha : PA X (e :: es) t) (hg : Gl X x := by rfl) (hdb : (x == ("__debug__" : Str)) = false := by decide)
    (he : starEach (e :: es) X.env = (false, eval e X.env) :: starEach es X.env := by rfl) (hpl : (backTo pos (starEach es X.env)).any (·.1) = false := by rfl) :
    PE X (.Call (.Name x p) (e :: es) [] pos) (tCallS sp (WE W) t) := by
  obtain ⟨f, fd, F, hm, hk, hb⟩ := D.ex
  exact pe_callS F hr hg hm hk hb (fun σ => passAt tk σ) ha hdb he hpl
end
section
variable {X : Cx} {k : Nat} {o : Expr} {ta : TE} {pos : Pos}
/-! ### net.links -/
def spNetLk (K : PySem.W.Frag) : Sp := fun vs H Q _ => ∃ (a : Addr) (n : Nat) (lk : Addr) (ps : List (Addr × Int × Int)), vs = [.ref a] ∧ NetAt K H a n lk ps ∧ ∀ p, H p = none → Q (.ref p) (upd H p (.lst (ps.map fun z => V.ref z.1)))
end
end Ps

set_option maxHeartbeats 4000000
/-! PsP1: the program's small defs: copies, places, entries, offers, links, homes. -/
namespace Ps
open PySem PySem.Spec PyProof.Rows L2
open He (ga ma)
section
variable {P : Program} {w : World} {K : PySem.W.Frag} {mg : Str → Option Value} {base : Heap}
/-! ### copy_logs -/
def spCopy : Sp := fun vs H Q _ => ∃ (p : Addr) (zs : List (Addr × List Int)), vs = [.ref p] ∧ SL H p gR zs ∧ zs.length ≤ 100000 ∧ ∀ D H', Lg H H' D (zs.map (·.2)) → Kp [] H H' → Q (.ref D) H'
abbrev N_copy_logs : List Str := ["logs", "log"]
theorem sc_copy_logs : FnScope N_copy_logs ["logs"] (defScope (top 9)) := ⟨rfl, rfl, rfl, by decide +kernel, rfl, by decide +kernel, by decide +kernel⟩
theorem d_copy_logs (T : Txt K mg) : Def P w K mg base CX0 1 "copy_logs" ["logs"] spCopy := by
  refine T.def0 (i := 9) (j := 0) (N := N_copy_logs) rfl sc_copy_logs (fun vs H Q E h => ?_) (fun _ _ _ _ _ _ us hl => match us, hl with | [_], _ => rfl) (fun f cdv A outer s H vs Q E hr h => ?_)
  · obtain ⟨_, _, rfl, _⟩ := h
    rfl
  · obtain ⟨p, zs, rfl, hS, hl, hQ⟩ := h
    refine ⟨_, (pss_one (ps_ret (pe_lc (own := [("log", 1)]) (te := tCB (rLO K) (tCons (tVar 1) tNil)) (by rfl) sc_copy_logs.nd (pi_list (pv 0)) (blkOk_by (own := [("log", 1)]) (N := N_copy_logs) (sc := defScope (top 9)) (by decide +kernel)) (fun _ _ _ _ _ => (pg_name (i := 1) sc_copy_logs.nd rfl (Or.inl rfl))) (fun _ _ _ _ _ => pts_nil) (fun _ _ _ _ _ => (pe_callTy call_list_of (by rfl) (T.n 1 _ rfl) (by decide +kernel) (pa_cons (pv 1) pa_nil)))))), ?_⟩
    exact ⟨_, rfl, p, rfl, ⟨_, hS.sq⟩, fun D hD => copy_rows hS hD hl (fun _ => rfl) (fun _ => rfl) fun H1 L1 E1 => hQ D H1 L1 E1⟩
/-! ### action_entry -/
def entry_ : Act → Int
  | .w e => e
  | .p _ _ e => e
def place_ (owners : List Int) : Act → Int
  | .w e => hm owners e
  | .p _ r _ => r
def spEntry : Sp := fun vs H Q _ => ∃ (t : Addr) (a : Act), vs = [.ref t] ∧ H t = some (gA a) ∧ Q (.int (entry_ a)) H
abbrev N_action_entry : List Str := ["action"]
theorem sc_action_entry : FnScope N_action_entry ["action"] (defScope (top 21)) := ⟨rfl, rfl, rfl, by decide +kernel, rfl, by decide +kernel, by decide +kernel⟩
theorem d_action_entry (T : Txt K mg) : Def P w K mg base CX0 1 "action_entry" ["action"] spEntry := by
  refine T.def0 (i := 21) (j := 9) (N := N_action_entry) rfl sc_action_entry (fun vs H Q E h => ?_) (fun _ _ _ _ _ _ us hl => match us, hl with | [_], _ => rfl) (fun f cdv A outer s H vs Q E hr h => ?_)
  · obtain ⟨_, _, rfl, _⟩ := h
    rfl
  · obtain ⟨t, a, rfl, ht, hQ⟩ := h
    refine ⟨_, (pss_one (ps_ret (pe_ix ix_tup (pv 0) (pe_un un_neg pe_int) (fun _ _ => rfl)))), ?_⟩
    cases a with
    | w e => exact ⟨_, rfl, _, rfl, t, _, -1, _, rfl, rfl, SqT.of ht, rfl, hQ⟩
    | p s r e => exact ⟨_, rfl, _, rfl, t, _, -1, _, rfl, rfl, SqT.of ht, rfl, hQ⟩
/-! ### Cluster.home_of -/
def spHome (K : PySem.W.Frag) : Sp := fun vs H Q _ => ∃ (a b : Addr) (n : Nat) (lk : Addr) (ps : List (Addr × Int × Int)) (owners : List Int) (e : Int), vs = [.ref a, .int e] ∧ Clu K H a b n lk ps owners ∧ 0 ≤ e ∧ e < owners.length ∧ Q (.int (hm owners e)) H
abbrev N_Cluster_home_of : List Str := ["self", "entry"]
theorem sc_Cluster_home_of : FnScope N_Cluster_home_of ["self", "entry"] (defScope (inClass (top 36) 3)) := ⟨rfl, rfl, rfl, by decide +kernel, rfl, by decide +kernel, by decide +kernel⟩
theorem d_home (T : TxC P K mg) : DefM P w K mg base CX0 1 (ma K (aC K) "home_of") ["self", "entry"] (spHome K) := by
  refine T.toTxt.meth (C := "Cluster") (m := "home_of") (q := "Cluster.home_of") (i := 36) (l := 3) (j := 39) (N := N_Cluster_home_of) rfl sc_Cluster_home_of (fun vs H Q E h => ?_) (fun _ _ _ _ _ _ us hl => match us, hl with | [_, _], _ => rfl) (fun f cdv A outer s H vs Q E hr h => ?_)
  · obtain ⟨_, _, _, _, _, _, _, rfl, _⟩ := h
    rfl
  · obtain ⟨a, b, n, lk, ps, owners, e, rfl, C, h0, h1, hQ⟩ := h
    obtain ⟨dx, fs, ho, c1, c2, c3, c4, c5, c6⟩ := C.ex
    have na : ∀ f ∈ (["net", "size", "_homes"] : List Str), NoAttr K (aC K) f := T.naC
    refine ⟨_, (pss_cons (ps_if (PW.pt (pw_or (pt_cmpR op_lt (pv 1) pe_int (nomark _)) (pw_or1 (pt_cmpR op_ge (pv 1) (pe_fld (pv 0) rfl) (nomark _)))))
 (pss_one ps_never)
 pss_nil)
 (pss_one (ps_ret (pe_ix ix_list (pe_fld (pv 0) rfl) (pv 1) (fun _ _ => rfl))))), ?_⟩
    refine ⟨_, rfl, e, 0, rfl, rfl, _, rfl, iteD (fun h => absurd h (by omega)) fun _ => ?_⟩
    refine ⟨_, rfl, _, rfl, a, _, dx, fs, _, rfl, c1, T.clC, na _ (by decide), c3, e, _, rfl, rfl, _, rfl, iteD (fun h => absurd h (by omega)) fun _ => ?_⟩
    exact ⟨_, rfl, a, _, dx, fs, _, rfl, c1, T.clC, na _ (by decide), c4, _, rfl, ho, _, e, _, rfl, rfl, c6.sq, at_int h0 (hm_at h0 h1), hQ⟩
/-! ### Net.links -/
abbrev N_Net_links : List Str := ["self"]
theorem sc_Net_links : FnScope N_Net_links ["self"] (defScope (inClass (top 32) 7)) := ⟨rfl, rfl, rfl, by decide +kernel, rfl, by decide +kernel, by decide +kernel⟩
theorem d_links (T : TxC P K mg) : DefM P w K mg base CX0 1 (propG K (aN K) "links") ["self"] (spNetLk K) := by
  obtain ⟨fd, F⟩ := T.lnkF
  have B : Binds K fd ["self"] [] := FunD.bindsN F (fun _ _ _ _ _ _ us hl => match us, hl with | [_], _ => rfl)
  refine ⟨fd, FunD.ok F sc_Net_links (fun vs H Q E h => ?_) (fun cdv A outer s H vs Q E hr h => ?_), B⟩
  · obtain ⟨_, _, _, _, rfl, _⟩ := h
    rfl
  · obtain ⟨a, n, lk, ps, rfl, C, hQ⟩ := h
    obtain ⟨dx, fs, c1, c2, c3, c4⟩ := C.ex
    have na : ∀ f ∈ (["count", "_linked", "_links"] : List Str), NoAttr K (aN K) f := T.naN
    refine ⟨_, (pss_one (ps_ret (pe_callTy call_list_of (by rfl) (T.n 1 _ rfl) (by decide +kernel) (pa_cons (pe_fld (pv 0) rfl) pa_nil)))), ?_⟩
    exact ⟨_, rfl, a, _, dx, fs, _, rfl, c1, T.clN, na _ (by decide), c3, lk, _, rfl, .inl C.sl.sq, fun p hp => hQ p hp⟩
end
section
variable {X : Cx} {o e : Expr} {ta te : TE} {pos apos : Pos} {k : Nat}
/-- net.links -/
theorem pe_links (T : TxC X.prog X.K X.mg) (he : PE X e ta) (hr : Room 2 X.A) (hab : attributeBase e "links" X.env (eval e X.env) = eval e X.env := by rfl) : PE X (.Attribute e "links" pos) (tProp (aN X.K) (spNetLk X.K) [] E0 ta) := by
  obtain ⟨fd, F, B⟩ := (d_links (w := X.w) (base := X.base) T).ex
  exact pe_prop he T.clN T.lnk F hr B .nil pass0 hab
/-- cluster.home_of(e) -/
theorem pe_home {pl : Sem Bool} (T : TxC X.prog X.K X.mg) (ho : PE X o ta) (he : PE X e te) (hr : Room 1 X.A)
    (ht : eval (.Call (.Attribute o "home_of" apos) [e] [] pos) X.env = (do
      let ov ← eval o X.env
      standAt apos.atName
      let (f, first) ← holding [ov] (getMethod ov "home_of" pl)
      callWith pos f first (backTo pos (starEach [e] X.env)) (backToKw pos (keywordEach [] X.env))) := by rfl) 
    (hst : starEach [e] X.env = (false, eval e X.env) :: starEach [] X.env := by rfl) (hpl : (backTo pos (starEach [] X.env)).any (·.1) = false := by rfl) :
    PE X (.Call (.Attribute o "home_of" apos) [e] [] pos) (tMeth (aC X.K) "home_of" (spHome X.K) [] E0 ta (tCons te tNil)) := by
  obtain ⟨fd, F, B⟩ := (d_home (w := X.w) (base := X.base) T).ex
  exact pe_meth ho T.clC T.home F hr B .nil pass0 (pa_cons he pa_nil hst) hst hpl ht
end
section
variable {P : Program} {w : World} {K : PySem.W.Frag} {mg : Str → Option Value} {base : Heap}
/-! ### place_of -/
/-- an action of a run -/
def ActIn (owners : List Int) : Act → Prop
  | .w e => 0 ≤ e ∧ e < owners.length
  | .p _ _ _ => True
def spPlace (K : PySem.W.Frag) : Sp := fun vs H Q _ => ∃ (a b : Addr) (n : Nat) (lk : Addr) (ps : List (Addr × Int × Int)) (owners : List Int) (t : Addr) (x : Act), vs = [.ref a, .ref t] ∧ Clu K H a b n lk ps owners ∧ H t = some (gA x) ∧ ActIn owners x ∧ Q (.int (place_ owners x)) H
abbrev N_place_of : List Str := ["cluster", "action"]
theorem sc_place_of : FnScope N_place_of ["cluster", "action"] (defScope (top 20)) := ⟨rfl, rfl, rfl, by decide +kernel, rfl, by decide +kernel, by decide +kernel⟩
theorem d_place_of (T : TxC P K mg) : Def P w K mg base CX0 2 "place_of" ["cluster", "action"] (spPlace K) := by
  refine T.toTxt.def0 (i := 20) (j := 8) (N := N_place_of) rfl sc_place_of (fun vs H Q E h => ?_) (fun _ _ _ _ _ _ us hl => match us, hl with | [_, _], _ => rfl) (fun f cdv A outer s H vs Q E hr h => ?_)
  · obtain ⟨_, _, _, _, _, _, _, _, rfl, _⟩ := h
    rfl
  · obtain ⟨a, b, n, lk, ps, owners, t, x, rfl, C, ht, ok, hQ⟩ := h
    obtain ⟨dx, fs, ho, c1, c2, c3, c4, c5, c6⟩ := id C.ex
    refine ⟨_, (pss_cons (ps_if (pt_cmpR op_eq (pe_ix ix_tup (pv 1) pe_int (fun _ _ => rfl)) pe_str (nomark _))
 (pss_one (ps_ret (pe_home T (pv 0) (pe_ix ix_tup (pv 1) pe_int (fun _ _ => rfl)) (hr.mono (by first | decide | omega)))))
 pss_nil)
 (pss_one (ps_ret (pe_ix ix_tup (pv 1) pe_int (fun _ _ => rfl))))), ?_⟩
    cases x with
    | w e =>
      refine ⟨_, rfl, t, _, 0, _, rfl, rfl, SqT.of ht, rfl, rfl, _, rfl, iteD (fun _ => ?_) fun h => absurd rfl h⟩
      exact ⟨_, rfl, a, dx, fs, rfl, c1, c5, _, rfl, t, _, 1, _, rfl, rfl, SqT.of ht, rfl, a, b, n, lk, ps, owners, e, rfl, C, ok.1, ok.2, hQ⟩
    | p s r e =>
      refine ⟨_, rfl, t, _, 0, _, rfl, rfl, SqT.of ht, rfl, rfl, _, rfl, iteD (fun h => absurd h (by decide)) fun _ => ?_⟩
      exact ⟨_, rfl, t, _, 2, _, rfl, rfl, SqT.of ht, rfl, hQ⟩
/-! ### _append_to -/
def spAppTo (K : PySem.W.Frag) : Sp := fun vs H Q _ => ∃ (a b : Addr) (n : Nat) (lk : Addr) (ps : List (Addr × Int × Int)) (owners : List Int) (p t l : Addr) (x : Act) (xs : List V) (r : List Int), vs = [.ref a, .ref p, .ref t] ∧ Clu K H a b n lk ps owners ∧ H t = some (gA x) ∧ ActIn owners x ∧
  H p = some (.lst xs) ∧ atI xs (place_ owners x) = some (.ref l) ∧ H l = some (.lst (r.map V.int)) ∧ r.length ≤ 2000 ∧ Q .non (upd H l (.lst (r.map V.int ++ [.int (entry_ x)])))
abbrev N__append_to : List Str := ["cluster", "logs", "action"]
theorem sc__append_to : FnScope N__append_to ["cluster", "logs", "action"] (defScope (top 23)) := ⟨rfl, rfl, rfl, by decide +kernel, rfl, by decide +kernel, by decide +kernel⟩
theorem d__append_to (T : TxC P K mg) : Def P w K mg base CX0 3 "_append_to" ["cluster", "logs", "action"] (spAppTo K) := by
  have D_place_of := d_place_of (w := w) (base := base) T
  have D_action_entry := d_action_entry (P := P) (w := w) (base := base) T.toTxt
  refine T.toTxt.def0 (i := 23) (j := 11) (N := N__append_to) rfl sc__append_to (fun vs H Q E h => ?_) (fun _ _ _ _ _ _ us hl => match us, hl with | [_, _, _], _ => rfl) (fun f cdv A outer s H vs Q E hr h => ?_)
  · obtain ⟨_, _, _, _, _, _, _, _, _, _, _, _, rfl, _⟩ := h
    rfl
  · obtain ⟨a, b, n, lk, ps, owners, p, t, l, x, xs, r, rfl, C, ht, ok, hp, hat, hl, hz, hQ⟩ := h
    refine ⟨_, (pss_one (ps_expr (pe_bm PySem.F.plainAttrs_list PySem.F.slot_list_append PySem.F.type_list_append mt_append (pe_ix ix_list (pv 1) (pe_fn D_place_of (hr.mono (by first | decide | omega)) (pa_cons (pv 0) (pa_cons (pv 2) pa_nil))) (fun _ _ => rfl)) (pa_cons (pe_fn D_action_entry (hr.mono (by first | decide | omega)) (pa_cons (pv 2) pa_nil)) pa_nil)))), ?_⟩
    refine ⟨_, rfl, _, rfl, _, rfl, a, b, n, lk, ps, owners, t, x, rfl, C, ht, ok, p, _, _, _, rfl, rfl, SqL.of hp, hat, .inl ⟨rfl, _, SqL.of hl⟩, _, rfl, t, x, rfl, ht, l, _, _, rfl, rfl, hl, small (by rw [List.length_map]; omega), hQ⟩
/-! ### appended -/
def spAppd (K : PySem.W.Frag) : Sp := fun vs H Q _ => ∃ (a b : Addr) (n : Nat) (lk : Addr) (ps : List (Addr × Int × Int)) (owners : List Int) (p t : Addr) (x : Act) (zs : List (Addr × List Int)), vs = [.ref a, .ref p, .ref t] ∧ Clu K H a b n lk ps owners ∧ H t = some (gA x) ∧ ActIn owners x ∧ SL H p gR zs ∧ zs.length ≤ 100000 ∧
  0 ≤ place_ owners x ∧ place_ owners x < zs.length ∧ (∀ z ∈ zs, z.2.length ≤ 2000) ∧ ∀ D H', Lg H H' D (app (zs.map (·.2)) (place_ owners x) (entry_ x)) → Kp [] H H' → Q (.ref D) H'
abbrev N_appended : List Str := ["cluster", "logs", "action", "after"]
theorem sc_appended : FnScope N_appended ["cluster", "logs", "action"] (defScope (top 22)) := ⟨rfl, rfl, rfl, by decide +kernel, rfl, by decide +kernel, by decide +kernel⟩
theorem d_appended (T : TxC P K mg) : Def P w K mg base CX0 4 "appended" ["cluster", "logs", "action"] (spAppd K) := by
  have D_copy_logs := d_copy_logs (P := P) (w := w) (base := base) T.toTxt
  have D__append_to := d__append_to (w := w) (base := base) T
  refine T.toTxt.def0 (i := 22) (j := 10) (N := N_appended) rfl sc_appended (fun vs H Q E h => ?_) (fun _ _ _ _ _ _ us hl => match us, hl with | [_, _, _], _ => rfl) (fun f cdv A outer s H vs Q E hr h => ?_)
  · obtain ⟨_, _, _, _, _, _, _, _, _, _, rfl, _⟩ := h
    rfl
  · obtain ⟨a, b, n, lk, ps, owners, p, t, x, zs, rfl, C, ht, ok, hS, hl, p0, p1, rz, hQ⟩ := h
    refine ⟨_, (pss_cons (ps_set (i := 3) sc_appended.nd rfl (Or.inl rfl) (pe_fn D_copy_logs (hr.mono (by first | decide | omega)) (pa_cons (pv 1) pa_nil)))
 (pss_cons (ps_expr (pe_fn D__append_to (hr.mono (by first | decide | omega)) (pa_cons (pv 0) (pa_cons (pv 3) (pa_cons (pv 2) pa_nil)))))
 (pss_one (ps_ret (pv 3))))), ?_⟩
    refine ⟨_, rfl, p, zs, rfl, hS, hl, fun D H1 L1 E1 => ?_⟩
    obtain ⟨xs, l, hD, hat, hla, nl, L2_⟩ := L1.app (r := place_ owners x) (e := entry_ x) p0 (by rw [List.length_map]; exact p1)
    have rl : (row (zs.map (·.2)) (place_ owners x)).length ≤ 2000 := by
      obtain ⟨z, hz, e⟩ := List.mem_map.mp (row_mem (rows := zs.map (·.2)) p0 (by rw [List.length_map]; exact p1))
      rw [← e]
      exact rz z hz
    refine ⟨_, rfl, _, rfl, _, rfl, a, b, n, lk, ps, owners, D, t, l, x, xs, _, rfl, C.kp0 E1, E1.k _ _ ht nil_not nt_gA, ok, hD, hat, hla, rl, ?_⟩
    exact ⟨_, rfl, hQ D _ L2_ (E1.mut nl)⟩
end
end Ps

set_option maxHeartbeats 4000000
/-! PsP2: the program's offers. -/
namespace Ps
open PySem PySem.Spec PyProof.Rows L2
open He (ga ma)
section
variable {P : Program} {w : World} {K : PySem.W.Frag} {mg : Str → Option Value} {base : Heap}
/-! ### offered -/
theorem nt_set {p : Int → Bool} {n : Nat} : NT (.set p n) := fun _ z => nomatch z
theorem take1_filter {α : Type} (p : α → Bool) : ∀ l : List α, (l.filter p).take 1 = (l.find? p).toList
  | [] => rfl
  | a :: l => by
    rw [List.filter_cons, List.find?_cons]
    cases p a with
    | true => rfl
    | false => exact take1_filter p l
def spOffd : Sp := fun vs H Q _ => ∃ (a b : Addr) (src rd : List Int), vs = [.ref a, .ref b, .str "first"] ∧ IL H a src ∧ IL H b rd ∧ src.length ≤ 2000 ∧ rd.length ≤ 2000 ∧ ∀ p H', H p = none → IL H' p (offer src rd).toList → Kp [] H H' → Q (.ref p) H'
abbrev N_offered : List Str := ["source_log", "reader_log", "rule", "held", "lacking", "entry"]
theorem sc_offered : FnScope N_offered ["source_log", "reader_log", "rule"] (defScope (top 19)) := ⟨rfl, rfl, rfl, by decide +kernel, rfl, by decide +kernel, by decide +kernel⟩
theorem d_offered (T : TxC P K mg) : Def P w K mg base CX0 1 "offered" ["source_log", "reader_log", "rule"] spOffd := by
  obtain ⟨tF, hF⟩ := T.first
  refine T.toTxt.def0 (i := 19) (j := 7) (N := N_offered) rfl sc_offered (fun vs H Q E h => ?_) (fun _ _ _ _ _ _ us hl => match us, hl with | [_, _, _], _ => rfl) (fun f cdv A outer s H vs Q E hr h => ?_)
  · obtain ⟨_, _, _, _, rfl, _⟩ := h
    rfl
  · obtain ⟨a, b, src, rd, rfl, ha, hb, ls, lr, hQ⟩ := h
    refine ⟨_, (pss_cons (ps_set (i := 3) sc_offered.nd rfl (Or.inr rfl) (pe_callTy (cr_setI rfl) (by rfl) (T.n 4 _ rfl) (by decide +kernel) (pa_cons (pv 1) pa_nil)))
 (pss_cons (ps_setLc (i := 4) (own := [("entry", 5)]) (tt := tTest (tOp rSNot (tVar 5) (tVar 3))) (te := tVar 5) (by rfl) sc_offered.nd rfl rfl (sw_true rfl rfl rfl (by decide +kernel)) (pi_list (pv 0)) (blkOk_by (own := [("entry", 5)]) (N := N_offered) (sc := defScope (top 19)) (by decide +kernel)) (fun _ _ _ _ _ => (pg_name (i := 5) sc_offered.nd rfl (Or.inl rfl))) (fun _ _ _ _ _ => (pts_one (pt_cmpR op_snot (pv 5) (pv 3) (by rfl)))) (fun _ _ _ _ _ => (pv 5)))
 (pss_cons (ps_if (pt_cmpR op_eq (pv 2) (pe_glob (v := .str "first") (by rfl) hF ⟨_, rfl⟩) (nomark _))
 (pss_one (ps_ret (pe_slice sl_list (pv 4) po_none (po_some pe_int))))
 pss_nil)
 (pss_one (ps_ret (pv 4)))))), ?_⟩
    refine ⟨_, rfl, b, rd, rfl, hb.sq, lr, fun h hh => ?_⟩
    have hs : (upd H h (.set (fun k => rd.contains k) (dcount rd))) h = some (.set (fun k => rd.contains k) (dcount rd)) := upd_same
    have E0 : Kp [] H (upd H h (.set (fun k => rd.contains k) (dcount rd))) := Kp.new hh
    have ha' := ha.kp0 E0
    generalize upd H h (.set (fun k => rd.contains k) (dcount rd)) = H1 at hs E0 ha'
    refine ⟨_, rfl, a, rfl, ⟨_, ha'.sq⟩, fun D hD => lc_list (K := K) (a := a) (xs := src.map V.int) (fun j H2 => Kp [] H1 H2 ∧ IL H2 D ((src.take j).filter fun e => !rd.contains e)) ⟨Kp.new hD, upd_same⟩ (fun j H2 _ h => (ha'.kp0 h.1).sq) ?_ ?_⟩
    · rintro j y H2 hj ⟨E2, hL⟩
      obtain ⟨x, hx, rfl⟩ := map_int_at hj
      have jl : j < src.length := (List.getElem?_eq_some_iff.mp hx).1
      have tk : (src.take (j + 1)).filter (fun e => !rd.contains e) = (src.take j).filter (fun e => !rd.contains e) ++ if !rd.contains x then [x] else [] := by
        rw [List.take_succ, hx, List.filter_append]
        congr 1
        show List.filter (fun e => !rd.contains e) [x] = _
        rw [List.filter_cons]
        rfl
      refine ⟨rfl, _, rfl, _, rfl, x, h, _, _, rfl, rfl, E2.k _ _ hs nil_not nt_set, _, rfl, iteB (fun hc => ?_) fun hc => ⟨E2, by rw [tk, hc]; simpa using hL⟩⟩
      refine ⟨_, rfl, _, hL, small (by rw [List.length_map]; have := List.length_filter_le (fun e => !rd.contains e) (src.take j); rw [List.length_take] at this; omega), E2.mut hD, ?_⟩
      show upd _ _ _ _ = _
      rw [upd_same, tk, hc, List.map_append]
      rfl
    · rintro H2 ⟨E2, hL⟩
      rw [List.length_map, List.take_length] at hL
      refine ⟨_, rfl, rfl, _, rfl, iteD (fun _ => ?_) fun h => absurd rfl h⟩
      refine ⟨_, rfl, 1, rfl, D, _, rfl, hL.sq, fun p hp => ?_⟩
      have e : cutV ((src.filter fun e => !rd.contains e).map V.int) none (some 1) = ((offer src rd).toList).map V.int := by
        rw [show (1 : Int) = ((1 : Nat) : Int) from rfl, cut_map, take1_filter]
        rfl
      exact hQ p _ (E0.f p (E2.f p hp)) (by show upd _ _ _ _ = _; rw [upd_same]; exact congrArg (fun z => some (HO.lst z)) e) ((E0.trans E2).trans (Kp.new hp))
end
end Ps

set_option maxHeartbeats 4000000
/-! PsP3: first links, and pulls until none is left. -/
namespace Ps
open PySem PySem.Spec PyProof.Rows L2
open He (ga ma)
theorem nt_dT {kvs : List (List Key × V)} : NT (.dT kvs) := fun _ z => nomatch z
theorem putK_len {κ : Type} [DecidableEq κ] {kvs : List (κ × V)} {k : κ} {v : V} : (putK kvs k v).length ≤ kvs.length + 1 := by
  unfold putK
  split
  · rw [List.length_map]
    exact Nat.le_succ _
  · rw [List.length_append]
    exact Nat.le_refl _
/-- what _first_links finds of the first m links -/
def FirstOf (kvs : List (Key × V)) (ls : List (Int × Int)) (m : Nat) : Prop := ∀ r : Int,
  (valV kvs (Sum.inl r) = none → ∀ (k : Nat) q, k < m → ls[k]? = some q → q.1 ≠ r) ∧
  (∀ v, valV kvs (Sum.inl r) = some v → ∃ f : Nat, v = .int (f : Int) ∧ f < m ∧ ∀ (k : Nat) q, k < f → ls[k]? = some q → q.1 ≠ r)
section
variable {P : Program} {w : World} {K : PySem.W.Frag} {mg : Str → Option Value} {base : Heap}
def spFirst : Sp := fun vs H Q _ => ∃ (lk : Addr) (ps : List (Addr × Int × Int)), vs = [.ref lk] ∧ SL H lk gP ps ∧ ps.length ≤ 20000 ∧ ∀ d kvs H', H' d = some (.dK kvs) → FirstOf kvs (ps.map (·.2)) ps.length → Kp [] H H' → Q (.ref d) H'
abbrev N__first_links : List Str := ["links", "first_of", "at", "source", "_"]
theorem sc__first_links : FnScope N__first_links ["links"] (defScope (top 25)) := ⟨rfl, rfl, rfl, by decide +kernel, rfl, by decide +kernel, by decide +kernel⟩
theorem d__first_links (T : Txt K mg) : Def P w K mg base CX0 1 "_first_links" ["links"] spFirst := by
  refine T.def0 (i := 25) (j := 12) (N := N__first_links) rfl sc__first_links (fun vs H Q E h => ?_) (fun _ _ _ _ _ _ us hl => match us, hl with | [_], _ => rfl) (fun f cdv A outer s H vs Q E hr h => ?_)
  · obtain ⟨_, _, rfl, _⟩ := h
    rfl
  · obtain ⟨lk, ps, rfl, hL, hl, hQ⟩ := h
    refine ⟨_, (pss_cons (ps_set (i := 1) sc__first_links.nd rfl (Or.inl rfl) pe_dnewK)
 (pss_cons (ps_for PassesOwn.never rfl (pi_enum (by rfl) (T.n 3 _ rfl) (pa_cons (pv 0) pa_nil)) (pg_tup (by rfl) (pgs_cons (pg_name (i := 2) sc__first_links.nd rfl (Or.inl rfl)) (pgs_cons (pg_tup (by rfl) (pgs_cons (pg_name (i := 3) sc__first_links.nd rfl (Or.inl rfl)) (pgs_cons (pg_name (i := 4) sc__first_links.nd rfl (Or.inl rfl)) pgs_nil))) pgs_nil)))
 (pss_one (ps_if (pt_cmp (pc_dnotin (hu_of hr) (pv 3) (pv 1)))
 (pss_one (ps_dput (hu_of hr) (pv 1) (pv 3) (pv 2) rfl))
 pss_nil)))
 (pss_one (ps_ret (pv 1))))), ?_⟩
    refine fun d hd => ?_
    refine ⟨_, rfl, lk, _, rfl, (hL.upN hd).sq, for_it (n := (ps.map fun z => V.ref z.1).length) walk_enum (fun i σ H' => ∃ v1 v2 v3 kvs, σ = [some (.ref lk), some (.ref d), v1, v2, v3] ∧ Kp [] H H' ∧ H' d = some (.dK kvs) ∧ kvs.length ≤ i ∧ FirstOf kvs (ps.map (·.2)) i) ?_ ?_ ?_ ?_⟩
    · exact ⟨none, none, none, [], rfl, Kp.new hd, upd_same, Nat.le_refl _, fun r => ⟨fun _ k q hk => absurd hk (Nat.not_lt_zero _), fun v h => by cases h⟩⟩
    · rintro i σ H1 _ ⟨_, _, _, kvs, rfl, E1, _⟩
      exact (hL.kp0 E1 fun _ => nt_gP).sq
    · rintro i x σ H1 H2 hi ⟨v1, v2, v3, kvs, rfl, E1, hD, kl, FO⟩ ⟨t, x1, x2, rfl, ht, rfl, e1, e2⟩
      cases e1
      obtain ⟨z, hz, rfl⟩ := map_ref_at e2
      have hz1 : H1 z.1 = some (gP z.2) := (hL.kp0 E1 fun _ => nt_gP).all z (List.mem_of_getElem? hz)
      have hlk : (ps.map (·.2))[i]? = some z.2 := by rw [List.getElem?_map, hz]; rfl
      have il : i < ps.length := (List.getElem?_eq_some_iff.mp hz).1
      have hD2 : (upd H1 t (.tup [.int (i : Nat), .ref z.1])) d = some (.dK kvs) := by rw [upd_ne (ne_of_none hD ht)]; exact hD
      have hz2 : (upd H1 t (.tup [.int (i : Nat), .ref z.1])) z.1 = some (gP z.2) := by rw [upd_ne (ne_of_none hz1 ht)]; exact hz1
      have E2 : Kp [] H (upd H1 t (.tup [.int (i : Nat), .ref z.1])) := E1.mut (E1.f t ht)
      refine ⟨t, _, rfl, SqT.of upd_same, rfl, _, _, rfl, _, _, rfl, ⟨z.1, _, rfl, SqT.of hz2, rfl, _, _, rfl, _, _, rfl, rfl, rfl, ?_⟩⟩
      refine ⟨_, rfl, _, rfl, d, _, rfl, DGet.k (k := Sum.inl z.2.1) hD2, _, rfl, ?_⟩
      have keep : ∀ r, FirstOf kvs (ps.map (·.2)) i → z.2.1 ≠ r → ((valV kvs (Sum.inl r) = none → ∀ (k : Nat) q, k < i + 1 → (ps.map (·.2))[k]? = some q → q.1 ≠ r) ∧
        (∀ v, valV kvs (Sum.inl r) = some v → ∃ f : Nat, v = .int (f : Int) ∧ f < i + 1 ∧ ∀ (k : Nat) q, k < f → (ps.map (·.2))[k]? = some q → q.1 ≠ r)) := fun r F ne => by
        refine ⟨fun h k q hk hq => ?_, fun v h => ?_⟩
        · rcases Nat.lt_succ_iff_lt_or_eq.mp hk with hk | hk
          · exact (F r).1 h k q hk hq
          · subst hk
            rw [hlk] at hq
            cases hq
            exact ne
        · obtain ⟨f, h1, h2, h3⟩ := (F r).2 v h
          exact ⟨f, h1, Nat.lt_succ_of_lt h2, h3⟩
      cases hv : valV kvs (Sum.inl z.2.1) with
      | none =>
        refine ⟨_, rfl, _, rfl, _, rfl, d, _, rfl, DPut.k (k := Sum.inl z.2.1) hD2 (small (by omega)), ?_⟩
        refine ⟨_, _, _, _, rfl, E2.mut hd, upd_same, Nat.le_trans putK_len (Nat.succ_le_succ kl), fun r => ?_⟩
        rw [valV_put]
        by_cases hr : r = z.2.1
        · subst hr
          rw [if_pos rfl]
          exact ⟨fun h => (by cases h), fun v h => ⟨i, (Option.some.inj h).symm, Nat.lt_succ_self i, fun k q hk hq => (FO _).1 hv k q hk hq⟩⟩
        · rw [if_neg (fun h => hr (Sum.inl.inj h))]
          exact keep r FO (fun h => hr h.symm)
      | some v =>
        refine ⟨_, _, _, kvs, rfl, E2, hD2, Nat.le_succ_of_le kl, fun r => ?_⟩
        by_cases hr : z.2.1 = r
        · subst hr
          obtain ⟨f, h1, h2, h3⟩ := (FO _).2 v hv
          exact ⟨fun h => (by rw [hv] at h; cases h), fun v' h => ⟨f, (by rw [hv] at h; rw [← Option.some.inj h]; exact h1), Nat.lt_succ_of_lt h2, h3⟩⟩
        · exact keep r FO hr
    · rintro σ H1 ⟨v1, v2, v3, kvs, rfl, E1, hD, kl, FO⟩
      rw [List.length_map] at FO
      exact ⟨_, rfl, hQ d kvs H1 hD FO E1⟩
end
end Ps

set_option maxHeartbeats 4000000
/-! PsP4: the program pulls until none is left. -/
namespace Ps
open PySem PySem.Spec PyProof.Rows L2
open He (ga ma)
theorem off_keep {rows : Rows} {s r x e : Int} (h : offer (row rows s) (row rows r) = none) (ne : s ≠ x) (s0 : 0 ≤ s) (r0 : 0 ≤ r) (x0 : 0 ≤ x) (x1 : x < rows.length) : offer (row (app rows x e) s) (row (app rows x e) r) = none := by
  rw [offer_none] at h ⊢
  rw [row_app_ne x0 s0 ne]
  intro y hy
  by_cases hr : r = x
  · rw [hr, row_app x0 x1]
    rw [hr] at h
    exact List.mem_append_left _ (h y hy)
  · rw [row_app_ne x0 r0 hr]
    exact h y hy
section
variable {P : Program} {w : World} {K : PySem.W.Frag} {mg : Str → Option Value} {base : Heap}
/-- what a run of the program needs of the cluster and the logs -/
structure RunOk (n : Nat) (ps : List (Addr × Int × Int)) (owners : List Int) (rows : Rows) : Prop where
  ok : ∀ z ∈ ps, LinkOk n z.2
  srt : (ps.map (·.2)).Pairwise Lex
  oo : ∀ o ∈ owners, 0 ≤ o ∧ o < (n : Int)
  val : Valid n owners.length rows
  n1 : n ≤ 20
  t1 : owners.length ≤ 20
  l1 : ps.length ≤ 20000
def spSettle (K : PySem.W.Frag) : Sp := fun vs H Q _ => ∃ (cl b : Addr) (n : Nat) (lk : Addr) (ps : List (Addr × Int × Int)) (owners : List Int) (p : Addr) (zs : List (Addr × List Int)), vs = [.ref cl, .ref p] ∧ Clu K H cl b n lk ps owners ∧ SL H p gR zs ∧ RunOk n ps owners (zs.map (·.2)) ∧ unw owners.length (zs.map (·.2)) = [] ∧
  ∀ (r T D : Addr) (tz : List (Addr × Act)) (fin : Rows) (H' : Hp), H' r = some (.tup [.ref T, .ref D]) → H T = none → SL H' T gA tz → Lg H H' D fin → Run (Lof (ps.map (·.2))) (hm owners) owners.length (zs.map (·.2)) (tz.map (·.2)) fin → tz.length ≤ 400 → Kp [] H H' → Q (.ref r) H'
abbrev N_settle_from : List Str := ["cluster", "logs", "links", "first_of", "current", "trace", "at", "source", "reader", "found"]
theorem sc_settle_from : FnScope N_settle_from ["cluster", "logs"] (defScope (top 26)) := ⟨rfl, rfl, rfl, by decide +kernel, rfl, by decide +kernel, by decide +kernel⟩
theorem d_settle_from (T : TxC P K mg) : Def P w K mg base CX0 3 "settle_from" ["cluster", "logs"] (spSettle K) := by
  have D__first_links := d__first_links (P := P) (w := w) (base := base) T.toTxt
  have D_copy_logs := d_copy_logs (P := P) (w := w) (base := base) T.toTxt
  have D_offered := d_offered (w := w) (base := base) T
  obtain ⟨tF, hF⟩ := T.first
  refine T.toTxt.def0 (i := 26) (j := 13) (N := N_settle_from) rfl sc_settle_from (fun vs H Q E h => ?_) (fun _ _ _ _ _ _ us hl => match us, hl with | [_, _], _ => rfl) (fun f cdv A outer s H vs Q E hr h => ?_)
  · obtain ⟨_, _, _, _, _, _, _, _, rfl, _⟩ := h
    rfl
  · obtain ⟨cl, b, n, lk, ps, owners, p, zs, rfl, C, hS, RO, hu, hQ⟩ := h
    obtain ⟨dx, fs, ho, c1, c2, c3, c4, c5, c6⟩ := id C.ex
    obtain ⟨dx2, fs2, d1, d2, d3, d4⟩ := id C.net.ex
    have hC0 : ∀ f ∈ (["net", "size", "_homes"] : List Str), NoAttr K (aC K) f := T.naC
    have zl : zs.length = n := by have := RO.val.len; rwa [List.length_map] at this
    have n1 := RO.n1
    have t1 := RO.t1
    have l1 := RO.l1
    have N := net_of (t := owners.length) RO.ok rfl RO.oo
    refine ⟨_, (pss_cons (ps_set (i := 2) sc_settle_from.nd rfl (Or.inl rfl) (pe_links T (pe_fld (pv 0) rfl) (hr.mono (by first | decide | omega))))
 (pss_cons (ps_set (i := 3) sc_settle_from.nd rfl (Or.inl rfl) (pe_fn D__first_links (hr.mono (by first | decide | omega)) (pa_cons (pv 2) pa_nil)))
 (pss_cons (ps_set (i := 4) sc_settle_from.nd rfl (Or.inl rfl) (pe_fn D_copy_logs (hr.mono (by first | decide | omega)) (pa_cons (pv 1) pa_nil)))
 (pss_cons (ps_set (i := 5) sc_settle_from.nd rfl (Or.inl rfl) (pe_lst pa_nil))
 (pss_cons (ps_set (i := 6) sc_settle_from.nd rfl (Or.inl rfl) pe_int)
 (pss_cons (ps_while PassesOwn.never (pt_cmpR op_lt (pv 6) (pe_callB call_len_seq (by rfl) (T.n 0 _ rfl) (by decide +kernel) (pa_cons (pv 2) pa_nil)) (nomark _))
 (pss_cons (ps_asg (pe_ix ix_list (pv 2) (pv 6) (fun _ _ => rfl)) (pg_tup (by rfl) (pgs_cons (pg_name (i := 7) sc_settle_from.nd rfl (Or.inl rfl)) (pgs_cons (pg_name (i := 8) sc_settle_from.nd rfl (Or.inl rfl)) pgs_nil))))
 (pss_cons (ps_set (i := 9) sc_settle_from.nd rfl (Or.inl rfl) (pe_fn D_offered (hr.mono (by first | decide | omega)) (pa_cons (pe_ix ix_list (pv 4) (pv 7) (fun _ _ => rfl)) (pa_cons (pe_ix ix_list (pv 4) (pv 8) (fun _ _ => rfl)) (pa_cons (pe_glob (v := .str "first") (by rfl) hF ⟨_, rfl⟩) pa_nil)))))
 (pss_one (ps_if (pt_truth (pv 9) (by intro _; rfl))
 (pss_cons (ps_expr (pe_bm PySem.F.plainAttrs_list PySem.F.slot_list_append PySem.F.type_list_append mt_append (pv 5) (pa_cons (pe_tup (pa_cons pe_str (pa_cons (pv 7) (pa_cons (pv 8) (pa_cons (pe_ix ix_list (pv 9) pe_int (fun _ _ => rfl)) pa_nil))))) pa_nil)))
 (pss_cons (ps_expr (pe_bm PySem.F.plainAttrs_list PySem.F.slot_list_append PySem.F.type_list_append mt_append (pe_ix ix_list (pv 4) (pv 8) (fun _ _ => rfl)) (pa_cons (pe_ix ix_list (pv 9) pe_int (fun _ _ => rfl)) pa_nil)))
 (pss_one (ps_set (i := 6) sc_settle_from.nd rfl (Or.inl rfl) (pe_callB (call_min2 rfl) (by rfl) (T.n 7 _ rfl) (by decide +kernel) (pa_cons (pv 6) (pa_cons (pe_dget2 (hu_of hr) (pv 3) (pv 8) (pv 6) ⟨rfl, rfl, rfl, rfl⟩) pa_nil)))))))
 (pss_one (ps_set (i := 6) sc_settle_from.nd rfl (Or.inl rfl) (pe_op op_add (pv 6) pe_int))))))))
 (pss_one (ps_ret (pe_tup (pa_cons (pv 5) (pa_cons (pv 4) pa_nil))))))))))), ?_⟩
    refine ⟨_, rfl, cl, _, dx, fs, _, rfl, c1, T.clC, hC0 _ (by decide), c2, b, dx2, fs2, rfl, d1, b, n, lk, ps, rfl, C.net, fun lk' hlk => ?_⟩
    have hL : SL (upd H lk' (.lst (ps.map fun z => V.ref z.1))) lk' gP ps := C.net.sl.sub hlk fun z hz => hz
    have E0 : Kp [] H (upd H lk' (.lst (ps.map fun z => V.ref z.1))) := Kp.new hlk
    generalize upd H lk' (.lst (ps.map fun z => V.ref z.1)) = H0 at hL E0
    refine ⟨_, rfl, lk', ps, rfl, hL, l1, fun d kvs H1 hd FO E1 => ?_⟩
    have E01 := E0.trans E1
    have hL1 := hL.kp0 E1 fun _ => nt_gP
    have hS1 := hS.kp0 E01 fun _ => nt_gR
    refine ⟨_, rfl, p, zs, rfl, hS1, by omega, fun D H2 L2_ E2 => ?_⟩
    have E02 := E01.trans E2
    refine ⟨Nat.zero_le _, fun tr htr => ?_⟩
    have htr0 := E02.f tr htr
    have L2' : Lg (upd H1 tr (.lst [])) (upd H2 tr (.lst [])) D (zs.map (·.2)) := L2_.excl htr
    have EX : Kp [] H (upd H1 tr (.lst [])) := E01.mut htr0
    have E3 : Kp [] H (upd H2 tr (.lst [])) := E02.mut htr0
    have E13 : Kp [] H1 (upd H2 tr (.lst [])) := E2.mut (E2.f tr htr)
    have hT3 : SL (upd H2 tr (.lst [])) tr gA [] := SL.nil
    generalize upd H2 tr (.lst []) = H3 at L2' E3 E13 hT3
    generalize hX : upd H1 tr (.lst []) = HX at L2' EX
    have hXn : ∀ a, HX a = none → a ≠ tr ∧ H1 a = none := fun a ha => by
      rw [← hX] at ha
      exact Kp.upf ha
    have pr : n * owners.length ≤ 400 := Nat.mul_le_mul n1 t1
    have mu : ∀ (rows : Rows), Valid n owners.length rows → lens rows ≤ n * owners.length := fun rows V => lens_le V
    refine ⟨fun m σ H' => ∃ (rows : Rows) (at_ : Nat) (v7 v8 v9 : Option V) (tz : List (Addr × Act)), σ = [some (.ref cl), some (.ref p), some (.ref lk'), some (.ref d), some (.ref D), some (.ref tr), some (.int (at_ : Int)), v7, v8, v9] ∧ Lg HX H' D rows ∧ SL H' tr gA tz ∧ Kp [] H1 H' ∧ Valid n owners.length rows ∧ unw owners.length rows = [] ∧
        at_ ≤ ps.length ∧ (∀ (k : Nat) z, k < at_ → ps[k]? = some z → offer (row rows z.2.1) (row rows z.2.2) = none) ∧ tz.length ≤ lens rows ∧
        (∀ tr' f, Run (Lof (ps.map (·.2))) (hm owners) owners.length rows tr' f → Run (Lof (ps.map (·.2))) (hm owners) owners.length (zs.map (·.2)) (tz.map (·.2) ++ tr') f) ∧ m = (n * owners.length - lens rows) * (ps.length + 1) + (ps.length - at_), ?_, ?_⟩
    · exact ⟨_, zs.map (·.2), 0, none, none, none, [], rfl, L2', hT3, E13, RO.val, hu, Nat.zero_le _, (fun k z hk => absurd hk (Nat.not_lt_zero _)), Nat.zero_le _, fun _ _ h => h, rfl⟩
    · rintro m σ H4 ⟨rows, at_, v7, v8, v9, tz, rfl, L4, hT, E4, VV, uw, atl, pre, tl, co, rfl⟩
      have E04 := E01.trans E4
      have hL4 := hL1.kp0 E4 fun _ => nt_gP
      refine ⟨_, rfl, _, rfl, lk', _, rfl, .inl hL4.sq, (at_ : Int), _, rfl, rfl, _, rfl, ?_⟩
      rw [List.length_map]
      refine iteD (fun hlt => ?_) fun hge => ?_
      · have hlt' : at_ < ps.length := by omega
        refine ⟨fun σ' H' => ∃ m', m' < (n * owners.length - lens rows) * (ps.length + 1) + (ps.length - at_) ∧ _, fun _ _ h => h, ?_⟩
        obtain ⟨z, hz⟩ : ∃ z, ps[at_]? = some z := ⟨_, List.getElem?_eq_getElem hlt'⟩
        have hzm := List.mem_of_getElem? hz
        have ht : H4 z.1 = some (gP z.2) := hL4.all z hzm
        obtain ⟨a1, a2, a3, a4, a5⟩ := RO.ok z hzm
        obtain ⟨ys, hy, ey⟩ := L4.sl
        have rl := VV.len
        obtain ⟨z1, _, at1, row1⟩ := sl_row hy ey a1 (by omega)
        obtain ⟨z2, _, at2, row2⟩ := sl_row hy ey a3 (by omega)
        have rl1 : (row rows z.2.1).length ≤ owners.length := row_len (VV.nd _ (row_mem a1 (by omega))) (VV.rg _ (row_mem a1 (by omega)))
        have rl2 : (row rows z.2.2).length ≤ owners.length := row_len (VV.nd _ (row_mem a3 (by omega))) (VV.rg _ (row_mem a3 (by omega)))
        refine ⟨_, rfl, _, rfl, lk', _, (at_ : Int), _, rfl, rfl, hL4.sq, atI_nat (by rw [List.getElem?_map, hz]; rfl), z.1, _, rfl, SqT.of ht, rfl, _, _, rfl, _, _, rfl, rfl, ?_⟩
        refine ⟨_, rfl, _, rfl, D, _, _, _, rfl, rfl, hy.sq, at1, _, rfl, _, rfl, D, _, _, _, rfl, rfl, hy.sq, at2, z1.1, z2.1, _, _, rfl, row1, row2, by omega, by omega, fun q H5 hq4 hq E5 => ?_⟩
        have L5 := L4.kp0 E5
        have hT5 := hT.kp0 E5 fun _ => nt_gA
        have E45 := E4.trans E5
        have tl4 : lens rows ≤ n * owners.length := mu rows VV
        refine ⟨_, rfl, _, .inl ⟨_, hq.sq, rfl⟩, ?_⟩
        cases eo : offer (row rows z.2.1) (row rows z.2.2) with
        | none =>
          refine iteB (fun h => (by cases h)) fun _ => ?_
          refine ⟨_, rfl, _, _, rfl, rfl, _, ?_, rows, at_ + 1, _, _, _, tz, rfl, L5, hT5, E45, VV, uw, hlt', fun k z' hk hz' => ?_, tl, co, rfl⟩
          · have : ps.length - (at_ + 1) < ps.length - at_ := by omega
            omega
          · rcases Nat.lt_succ_iff_lt_or_eq.mp hk with hk | hk
            · exact pre k z' hk hz'
            · subst hk
              rw [hz] at hz'
              cases hz'
              exact eo
        | some e =>
          refine iteB (fun _ => ?_) fun h => (by cases h)
          rw [eo] at hq
          have hLk : Lof (ps.map (·.2)) z.2.1 z.2.2 := List.mem_map.mpr ⟨z, hzm, rfl⟩
          obtain ⟨⟨ee0, ee1⟩, _, V6, l6⟩ := off_valid N VV hLk eo
          have lst : Least (Lof (ps.map (·.2))) rows z.2.1 z.2.2 e := least_of (i := at_) RO.srt (fun _ _ => Iff.rfl) (by rw [List.getElem?_map, hz]; rfl) (fun k s' r' hk hs' => by
            rw [List.getElem?_map] at hs'
            cases q : ps[k]? with
            | none => rw [q] at hs'; cases hs'
            | some z' =>
              rw [q] at hs'
              have := pre k z' hk q
              rw [show z'.2 = (s', r') from Option.some.inj hs'] at this
              exact this) eo
          refine ⟨_, rfl, .inl ⟨rfl, _, hT5.sq⟩, _, rfl, _, rfl, _, rfl, q, _, 0, _, rfl, rfl, hq.sq, rfl, by show 4 ≤ sizeLine; decide, fun t2 ht2 => ?_⟩
          have ntt : tr ≠ t2 := ne_of_none hT5.at_ ht2
          refine ⟨tr, _, _, rfl, rfl, by rw [upd_ne ntt]; exact hT5.at_, small (by rw [List.length_map]; omega), ?_⟩
          have hT6 : SL (upd (upd H5 t2 (.tup [.str "pull", .int z.2.1, .int z.2.2, .int e])) tr (.lst ((tz.map fun z => V.ref z.1) ++ [.ref t2]))) tr gA (tz ++ [(t2, .p z.2.1 z.2.2 e)]) := hT5.snoc (x := Act.p z.2.1 z.2.2 e) ht2 hT5.npA
          have E6 : Kp [] H1 (upd (upd H5 t2 (.tup [.str "pull", .int z.2.1, .int z.2.2, .int e])) tr (.lst ((tz.map fun z => V.ref z.1) ++ [.ref t2]))) := (E45.mut (E45.f t2 ht2)).mut (E2.f tr htr)
          have L6 : Lg HX (upd (upd H5 t2 (.tup [.str "pull", .int z.2.1, .int z.2.2, .int e])) tr (.lst ((tz.map fun z => V.ref z.1) ++ [.ref t2]))) D rows :=
            (L5.kp0 (Kp.new ht2)).kp (Kp.set (m := [tr]) (Kp.refl _) (List.mem_singleton.mpr rfl) (by rw [upd_ne ntt]; exact hT5.at_) nt_lst) fun a ha => by
              rw [List.mem_singleton.mp ha]
              intro z
              exact (hXn tr z).1 rfl
          have hq6 : IL (upd (upd H5 t2 (.tup [.str "pull", .int z.2.1, .int z.2.2, .int e])) tr (.lst ((tz.map fun z => V.ref z.1) ++ [.ref t2]))) q (some e).toList := (hq.upN ht2).up (ne_of_none hT.at_ hq4).symm
          generalize upd (upd H5 t2 (.tup [.str "pull", .int z.2.1, .int z.2.2, .int e])) tr (.lst ((tz.map fun z => V.ref z.1) ++ [.ref t2])) = H6 at hT6 E6 L6 hq6
          obtain ⟨xs3, a, hq3, hat, ha, na, L7⟩ := L6.app (r := z.2.2) (e := e) a3 (by omega)
          obtain ⟨nat_, na⟩ := hXn a na
          refine ⟨_, rfl, _, rfl, D, _, _, _, rfl, rfl, SqL.of hq3, hat, .inl ⟨rfl, _, SqL.of ha⟩, _, rfl, q, _, 0, _, rfl, rfl, hq6.sq, rfl, a, _, _, rfl, rfl, ha, small (by rw [List.length_map]; omega), ?_⟩
          have hT7 := hT6.up (o := .lst ((row rows z.2.2).map V.int ++ [.int e])) nat_.symm fun z hz q => by
            have h1 := hT6.all z hz
            rw [q, ha] at h1
            revert h1
            cases z.2 <;> (intro h1; cases h1)
          have E7 := E6.mut (o := .lst ((row rows z.2.2).map V.int ++ [.int e])) na
          generalize upd H6 a (.lst ((row rows z.2.2).map V.int ++ [.int e])) = H7 at L7 hT7 E7
          have hd7 := E7.k _ _ hd nil_not nt_dK
          -- the place to go on from
          obtain ⟨gi, at2_, hg, hmin, hle, hdone⟩ : ∃ (gi : Int) (at2_ : Nat), (valV kvs (Sum.inl z.2.2)).getD (.int (at_ : Int)) = .int gi ∧ (if gi < (at_ : Int) then gi else (at_ : Int)) = (at2_ : Int) ∧ at2_ ≤ at_ ∧ ∀ (k : Nat) z', k < at2_ → ps[k]? = some z' → z'.2.1 ≠ z.2.2 := by
            have hF2 := FO z.2.2
            cases hv : valV kvs (Sum.inl z.2.2) with
            | none => exact ⟨at_, at_, rfl, by split <;> rfl, Nat.le_refl _, fun k z' hk hz' => hF2.1 hv k z'.2 (by omega) (by rw [List.getElem?_map, hz']; rfl)⟩
            | some v =>
              obtain ⟨f, rfl, h2, h3⟩ := hF2.2 v hv
              by_cases hlt2 : f < at_
              · exact ⟨f, f, rfl, if_pos (by omega), by omega, fun k z' hk hz' => h3 k z'.2 hk (by rw [List.getElem?_map, hz']; rfl)⟩
              · exact ⟨f, at_, rfl, if_neg (by omega), Nat.le_refl _, fun k z' hk hz' => h3 k z'.2 (by omega) (by rw [List.getElem?_map, hz']; rfl)⟩
          refine ⟨_, rfl, _, rfl, d, rfl, .inl ⟨kvs, .inl hd7⟩, _, rfl, _, rfl, _, DGet.k (k := Sum.inl z.2.2) hd7, (at_ : Int), gi, by rw [hg], ?_⟩
          refine ⟨_, ?_, app rows z.2.2 e, at2_, _, _, _, tz ++ [(t2, Act.p z.2.1 z.2.2 e)], by rw [hmin]; rfl, L7, hT7, E7, V6, unw_off N VV hLk eo uw, by omega, fun k z' hk hz' => ?_, by rw [List.length_append, l6]; exact Nat.succ_le_succ tl, fun tr' f R => ?_, rfl⟩
          · have mv := mu _ V6
            rw [l6] at mv ⊢
            have e1 : n * owners.length - lens rows = (n * owners.length - (lens rows + 1)) + 1 := by omega
            rw [e1, Nat.add_mul, Nat.one_mul]
            omega
          · obtain ⟨b1, b2, b3, b4, b5⟩ := RO.ok z' (List.mem_of_getElem? hz')
            exact off_keep (pre k z' (by omega) hz') (hdone k z' hk hz') b1 b3 a3 (by omega)
          · rw [List.map_append, List.append_assoc]
            exact co _ _ (Run.pull uw lst R)
      · have st : Still (Lof (ps.map (·.2))) rows := fun s r l => by
          obtain ⟨z, hz, ez⟩ := List.mem_map.mp l
          obtain ⟨k, hk, ek⟩ := List.getElem_of_mem hz
          have := pre k z (by omega) (by rw [List.getElem?_eq_getElem hk, ek])
          rw [ez] at this
          exact this
        refine ⟨_, rfl, _, rfl, by show 2 ≤ sizeLine; decide, fun r hr => ?_⟩
        have Rn := co [] rows (Run.done uw st)
        rw [List.append_nil] at Rn
        exact hQ r tr D tz rows _ upd_same htr0 (hT.upN hr) ((L4.kp0 (Kp.new hr)).back EX) Rn (Nat.le_trans tl (Nat.le_trans (mu rows VV) pr)) (E04.mut (E04.f r hr))
end
end Ps

set_option maxHeartbeats 4000000
/-! PsP5: the program looks at logs. -/
namespace Ps
open PySem PySem.Spec PyProof.Rows L2
open He (ga ma)
theorem kp_tab {H H' : Hp} {P : Addr} (h : GxR.Tabbed P H H') (g : GxR.TabG H P) : Kp [] H H' := by
  obtain ⟨t, k⟩ := h
  refine ⟨fun a o ha _ nt => ?_, fun P' h' => ?_, fun a ha => ?_⟩
  · by_cases e : a = P
    · obtain ⟨ps, hp, _⟩ := g
      rw [e, hp] at ha
      exact absurd (Option.some.inj ha).symm (nt ps)
    · rw [k a e]
      exact ha
  · by_cases e : P' = P
    · rw [e]
      exact t
    · obtain ⟨ps, hp, q⟩ := h'
      exact ⟨ps, by rw [k P' e]; exact hp, q⟩
  · by_cases e : a = P
    · obtain ⟨ps, hp, _⟩ := t
      rw [e, hp] at ha
      cases ha
    · rw [← k a e]
      exact ha
section
variable {P : Program} {w : World} {K : PySem.W.Frag} {mg : Str → Option Value} {base : Heap} {Pt : Addr}
/-! ### _is_log -/
abbrev cIs (K : PySem.W.Frag) : Addr := He.codeOf K ("_is_log", none)
def spIsLog (Pt : Addr) : Sp := fun vs H Q _ => ∃ (t : Nat) (l : Addr) (ns : List Int), vs = [.int (t : Int), .ref l] ∧ IL H l ns ∧ ns.length ≤ 2000 ∧ GxR.TabG H Pt ∧ ∀ H', Kp [] H H' → Q (.bl (okRow t ns)) H'
abbrev N__is_log : List Str := ["size", "log"]
theorem sc__is_log : FnScope N__is_log ["size", "log"] (defScope (top 12)) := ⟨rfl, rfl, rfl, by decide +kernel, rfl, by decide +kernel, by decide +kernel⟩
theorem d__is_log (T : Txt K mg) (TB : GxR.TabB base mg (cIs K) Pt) : Def P w K mg base CX0 1 "_is_log" ["size", "log"] (spIsLog Pt) := by
  obtain ⟨fd, F⟩ := T.d 3 _ rfl
  have hm := T.g 3 _ rfl rfl
  have B : Binds K fd ["size", "log"] [] := FunD.bindsN F (fun _ _ _ _ _ _ us hl => match us, hl with | [_, _], _ => rfl)
  have kp := F.kp
  obtain ⟨oc, od, dV, kV, doc, pm, an, cdv, ct, osl, rfl, lk, hcd, _, _⟩ := F.ex
  obtain ⟨c0, hc0⟩ := He.codeIn_ref hcd
  have hco : cdv = .ref (cIs K) := by
    have := He.codeOf_eq (p := ("_is_log", none)) lk (c := c0) hc0
    rw [hc0, ← this]
  refine ⟨He.fAd K ("_is_log", none), _, fn_of (name := "_is_log") (qual := "_is_log") lk hcd sc__is_log (fun vs H Q E h => ?_) (fun A outer s H vs Q E hr h => ?_), hm, kp, B⟩
  · obtain ⟨_, _, _, rfl, _⟩ := h
    rfl
  · obtain ⟨t, l, ns, rfl, hl, lz, tg, hQ⟩ := h
    have gfree : ∀ (L : Addr), ∀ y ∈ ([(Str.ofString ".0", NameKind.local), (Str.ofString "entry", NameKind.local), (Str.ofString "size", NameKind.free)] : List (Str × NameKind)), y.2 = .free → ∃ c, ([(("size" : Str), L)] : List (Str × Addr)).lookup y.1 = some c := fun L y hy hf => by
      rcases List.mem_cons.mp hy with rfl | hy
      · cases hf
      · rcases List.mem_cons.mp hy with rfl | hy
        · cases hf
        · rw [List.mem_singleton.mp hy]
          exact ⟨L, rfl⟩
    have gfree := gfree (s.heap.objs.size + 1)
    refine ⟨_, PSs.nox (X := cxOf CX0 P w K mg base N__is_log "_is_log" (defScope (top 12)) _ cdv A outer s H E) (pss_cons (ps_if (pt_cmpR op_ne (pe_callB call_lenSet (by rfl) (T.n 0 _ rfl) (by decide +kernel) (pa_cons (pe_callTy (cr_setI rfl) (by rfl) (T.n 4 _ rfl) (by decide +kernel) (pa_cons (pv 1) pa_nil)) pa_nil)) (pe_callB call_len_seq (by rfl) (T.n 0 _ rfl) (by decide +kernel) (pa_cons (pv 1) pa_nil)) (nomark _))
 (pss_one (ps_ret pe_bl))
 pss_nil)
 (pss_one (ps_ret (pe_allI (iy := 0) hr (by rfl) (T.n 5 _ rfl) (by decide +kernel) TB (by show cdv = _; exact hco) ⟨rfl, rfl, by decide +kernel, rfl, rfl, gfree⟩ (pv 1) (elt_between rfl rfl rfl) rfl rfl rfl rfl (fun _ => rfl))))), ?_⟩
    refine ⟨_, rfl, l, ns, rfl, hl.sq, lz, fun a ha => ?_⟩
    have hs : (upd H a (.set (fun k => ns.contains k) (dcount ns))) a = some (.set (fun k => ns.contains k) (dcount ns)) := upd_same
    have E1 : Kp [] H (upd H a (.set (fun k => ns.contains k) (dcount ns))) := Kp.new ha
    generalize upd H a (.set (fun k => ns.contains k) (dcount ns)) = H1 at hs E1
    have hl1 := hl.kp0 E1
    refine ⟨a, _, _, rfl, hs, Nat.le_trans (dcount_le ns) (by omega), _, rfl, l, _, rfl, .inl hl1.sq, rfl, _, rfl, ?_⟩
    rw [List.length_map]
    have nd : (dcount ns : Int) = (ns.length : Int) ↔ ns.Nodup := by
      rw [← dcount_iff]
      exact Int.ofNat_inj
    refine iteN (fun he => ?_) fun he => ?_
    · have e : okRow t ns = false := by
        unfold okRow
        rw [decide_eq_false (fun h => he (congrArg V.int (nd.mpr h))), Bool.false_and]
      rw [e] at hQ
      exact hQ H1 E1
    · refine ⟨_, rfl, l, ns, (t : Int), rfl, hl1.sq, rfl, E1.t _ tg, fun H2 hT => ?_⟩
      have e : okRow t ns = ns.all fun i => decide (0 ≤ i) && decide (i < (t : Int)) := by
        unfold okRow
        rw [decide_eq_true (nd.mp (V.int.inj he)), Bool.true_and]
      rw [← e]
      exact hQ H2 (E1.trans (kp_tab hT (E1.t _ tg)))
end
end Ps

set_option maxHeartbeats 4000000
/-! PsP6: the program checks logs; unwritten entries. -/
namespace Ps
open PySem PySem.Spec PyProof.Rows L2
open He (ga ma)
section
variable {P : Program} {w : World} {K : PySem.W.Frag} {mg : Str → Option Value} {base : Heap} {Pt : Addr}
/-! ### check_logs -/
/-- what InvalidLogs is raised with -/
def Bad (n t : Nat) (rows : Rows) (v : V) : Prop := (rows.length ≠ n ∧ v = .non) ∨ (rows.length = n ∧ ∃ i : Nat, v = .int (i : Int) ∧ FirstBad t rows i)
def spCheck (K : PySem.W.Frag) (Pt : Addr) : Sp := fun vs H Q E => ∃ (cl b : Addr) (n : Nat) (lk : Addr) (ps : List (Addr × Int × Int)) (owners : List Int) (p : Addr) (zs : List (Addr × List Int)), vs = [.ref cl, .ref p] ∧ Clu K H cl b n lk ps owners ∧ SL H p gR zs ∧ zs.length ≤ 30 ∧ (∀ z ∈ zs, z.2.length ≤ 2000) ∧ GxR.TabG H Pt ∧
  (Valid n owners.length (zs.map (·.2)) → ∀ D H', Lg H H' D (zs.map (·.2)) → Kp [] H H' → Q (.ref D) H') ∧
  (∀ v, Bad n owners.length (zs.map (·.2)) v → ∀ d H', H' d = some (.xd [(("replica" : Str), v)]) → Kp [] H H' → E (.ref (aL K)) (some d) H')
theorem nt_xd {fs : List (Str × V)} : NT (.xd fs) := fun _ z => nomatch z
abbrev N_check_logs : List Str := ["cluster", "logs", "replica", "log"]
theorem sc_check_logs : FnScope N_check_logs ["cluster", "logs"] (defScope (top 10)) := ⟨rfl, rfl, rfl, by decide +kernel, rfl, by decide +kernel, by decide +kernel⟩
theorem d_check_logs (T : TxC P K mg) (TB : GxR.TabB base mg (cIs K) Pt) : Def P w K mg base (L2.CX P w) 2 "check_logs" ["cluster", "logs"] (spCheck K Pt) := by
  have D__is_log := d__is_log (P := P) (w := w) T.toTxt TB
  have D_copy_logs := d_copy_logs (P := P) (w := w) (base := base) T.toTxt
  refine T.toTxt.defX (i := 10) (j := 1) (N := N_check_logs) rfl sc_check_logs (fun vs H Q E h => ?_) (fun _ _ _ _ _ _ us hl => match us, hl with | [_, _], _ => rfl) (fun f cdv A outer s H vs Q E hr h => ?_)
  · obtain ⟨_, _, _, _, _, _, _, _, rfl, _⟩ := h
    rfl
  · obtain ⟨cl, b, n, lk, ps, owners, p, zs, rfl, C, hS, zl, rl, tg, hQ, hE⟩ := h
    obtain ⟨dx, fs, ho, c1, c2, c3, c4, c5, c6⟩ := id C.ex
    obtain ⟨dx2, fs2, d1, d2, d3, d4⟩ := id C.net.ex
    have hC0 : ∀ f ∈ (["net", "size", "_homes"] : List Str), NoAttr K (aC K) f := T.naC
    have hN0 : ∀ f ∈ (["count", "_linked", "_links"] : List Str), NoAttr K (aN K) f := T.naN
    refine ⟨_, (pss_cons (ps_if (pt_cmpR op_ne (pe_callB call_len_seq (by rfl) (T.n 0 _ rfl) (by decide +kernel) (pa_cons (pv 1) pa_nil)) (pe_fld (pe_fld (pv 0) rfl) rfl) (nomark _))
 (pss_one (ps_raise rfl (takes_of rfl rfl rfl rfl) (pmk_rep (k := 0) T.eL T.eLn (T.n 16 _ rfl) (hr.mono (by first | decide | omega)) (pa_cons pe_non pa_nil))))
 pss_nil)
 (pss_cons (ps_for (passes_of rfl) rfl (pi_enum (by rfl) (T.n 3 _ rfl) (pa_cons (pv 1) pa_nil)) (pg_tup (by rfl) (pgs_cons (pg_name (i := 2) sc_check_logs.nd rfl (Or.inl rfl)) (pgs_cons (pg_name (i := 3) sc_check_logs.nd rfl (Or.inl rfl)) pgs_nil)))
 (pss_one (ps_if (pt_not (pt_val (pe_fn D__is_log (hr.mono (by first | decide | omega)) (pa_cons (pe_fld (pv 0) rfl) (pa_cons (pv 3) pa_nil)))))
 (pss_one (ps_raise rfl (takes_of rfl rfl rfl rfl) (pmk_rep (k := 0) T.eL T.eLn (T.n 16 _ rfl) (hr.mono (by first | decide | omega)) (pa_cons (pv 2) pa_nil))))
 pss_nil)))
 (pss_one (ps_ret (pe_fn D_copy_logs (hr.mono (by first | decide | omega)) (pa_cons (pv 1) pa_nil)))))), ?_⟩
    refine ⟨_, rfl, p, _, rfl, .inl hS.sq, _, rfl, cl, _, dx, fs, _, rfl, c1, T.clC, hC0 _ (by decide), c2, b, _, dx2, fs2, _, rfl, d1, T.clN, hN0 _ (by decide), d2, rfl, _, rfl, iteN (fun hne => ?_) fun he => ?_⟩
    · rw [List.length_map] at hne
      refine ⟨_, rfl, .inr rfl, fun d hd => ?_⟩
      exact hE .non (.inl ⟨fun e => hne (by rw [← e, List.length_map]), rfl⟩) d _ upd_same (Kp.new hd)
    · have he' : (zs.map (·.2)).length = n := by
        have := V.int.inj he
        rw [List.length_map] at this ⊢
        omega
      refine ⟨_, rfl, p, _, rfl, hS.sq, for_it (n := (zs.map fun z => V.ref z.1).length) walk_enum (fun i σ H' => ∃ v2 v3, σ = [some (.ref cl), some (.ref p), v2, v3] ∧ Kp [] H H' ∧ ∀ (j : Nat) r, j < i → (zs.map (·.2))[j]? = some r → okRow owners.length r = true) ?_ ?_ ?_ ?_⟩
      · exact ⟨none, none, rfl, Kp.refl H, fun j r hj => absurd hj (Nat.not_lt_zero _)⟩
      · rintro i σ H1 _ ⟨_, _, rfl, E1, _⟩
        exact (hS.kp0 E1 fun _ => nt_gR).sq
      · rintro i x σ H1 H2 hi ⟨v2, v3, rfl, E1, pre⟩ ⟨t, x1, x2, rfl, ht, rfl, e1, e2⟩
        cases e1
        obtain ⟨z, hz, rfl⟩ := map_ref_at e2
        have hzm := List.mem_of_getElem? hz
        have hz1 : IL H1 z.1 z.2 := (hS.kp0 E1 fun _ => nt_gR).all z hzm
        have hlk : (zs.map (·.2))[i]? = some z.2 := by rw [List.getElem?_map, hz]; rfl
        have il : i < zs.length := (List.getElem?_eq_some_iff.mp hz).1
        have hz2 : IL (upd H1 t (.tup [.int (i : Nat), .ref z.1])) z.1 z.2 := hz1.upN ht
        have E2 : Kp [] H (upd H1 t (.tup [.int (i : Nat), .ref z.1])) := E1.mut (E1.f t ht)
        have htt : (upd H1 t (.tup [.int (i : Nat), .ref z.1])) t = some (.tup [.int (i : Nat), .ref z.1]) := upd_same
        generalize upd H1 t (.tup [.int (i : Nat), .ref z.1]) = H2 at hz2 E2 htt
        refine ⟨t, _, rfl, SqT.of htt, rfl, _, _, rfl, _, _, rfl, rfl, ?_⟩
        refine ⟨_, rfl, cl, _, dx, fs, _, rfl, E2.k _ _ c1 nil_not nt_ins, T.clC, hC0 _ (by decide), c3, _, rfl, owners.length, z.1, z.2, rfl, hz2, rl z hzm, E2.t _ tg, fun H3 E3 => ⟨_, rfl, ?_⟩⟩
        have E13 := E2.trans E3
        cases ok : okRow owners.length z.2 with
        | true =>
          refine ⟨_, _, rfl, E13, fun j r hj hr => ?_⟩
          rcases Nat.lt_succ_iff_lt_or_eq.mp hj with hj | hj
          · exact pre j r hj hr
          · subst hj
            rw [hlk] at hr
            cases hr
            exact ok
        | false =>
          refine ⟨_, rfl, _, rfl, .inl ⟨i, rfl, by omega⟩, fun d hd => ?_⟩
          exact hE (.int (i : Int)) (.inr ⟨he', i, rfl, ⟨z.2, hlk, ok⟩, pre⟩) d _ upd_same (E13.mut (E13.f d hd))
      · rintro σ H1 ⟨v2, v3, rfl, E1, pre⟩
        rw [List.length_map] at pre
        refine ⟨_, rfl, p, zs, rfl, hS.kp0 E1 fun _ => nt_gR, by omega, fun D H2 L2_ E2 => hQ (valid_of he' fun r hr => ?_) D H2 (L2_.back E1) (E1.trans E2)⟩
        obtain ⟨j, hj, e⟩ := List.getElem_of_mem hr
        exact pre j r (by rw [List.length_map] at hj; exact hj) (by rw [List.getElem?_eq_getElem hj, e])
end
end Ps

set_option maxHeartbeats 4000000
/-! PsP7: unwritten entries; the program finishes logs. -/
namespace Ps
open PySem PySem.Spec PyProof.Rows L2
open He (ga ma)
section
variable {P : Program} {w : World} {K : PySem.W.Frag} {mg : Str → Option Value} {base : Heap} {Pt : Addr}
/-! ### unwritten -/
def HeldBy (kvs : List (Key × V)) (es : List Int) : Prop := ∀ e : Int, (valV kvs (Sum.inl e)).isSome = es.contains e
theorem HeldBy.put {kvs : List (Key × V)} {es : List Int} (h : HeldBy kvs es) (e : Int) : HeldBy (putK kvs (Sum.inl e) (.bl true)) (es ++ [e]) := fun x => by
  rw [valV_put]
  by_cases hx : x = e
  · subst hx
    rw [if_pos rfl]
    simp
  · rw [if_neg (fun z => hx (Sum.inl.inj z)), h x]
    simp [hx]
theorem flat_len : ∀ {rows : Rows} {m : Nat}, (∀ r ∈ rows, r.length ≤ m) → rows.flatten.length ≤ rows.length * m
  | [], _, _ => by simp
  | r :: rows, m, h => by
    have := flat_len (rows := rows) fun x hx => h x (List.mem_cons_of_mem _ hx)
    have h2 := h r (List.mem_cons_self ..)
    rw [List.flatten_cons, List.length_append, List.length_cons, Nat.add_mul, Nat.one_mul]
    omega
theorem held_flat (rows : Rows) (e : Int) : held rows e = rows.flatten.contains e := by
  rw [Bool.eq_iff_iff, held_iff, List.contains_iff_mem, List.mem_flatten]
theorem flat_take {rows : Rows} {i : Nat} {r : List Int} (h : rows[i]? = some r) : (rows.take (i + 1)).flatten = (rows.take i).flatten ++ r := by
  rw [List.take_succ, h, List.flatten_append]
  simp
def spUnw (K : PySem.W.Frag) (Pt : Addr) : Sp := fun vs H Q _ => ∃ (cl b : Addr) (n : Nat) (lk : Addr) (ps : List (Addr × Int × Int)) (owners : List Int) (p : Addr) (zs : List (Addr × List Int)), vs = [.ref cl, .ref p] ∧ Clu K H cl b n lk ps owners ∧ SL H p gR zs ∧ GxR.TabG H Pt ∧ Valid n owners.length (zs.map (·.2)) ∧ n ≤ 20 ∧ owners.length ≤ 20 ∧
  ∀ q H', H q = none → IL H' q (unw owners.length (zs.map (·.2))) → Kp [] H H' → Q (.ref q) H'
abbrev N_unwritten : List Str := ["cluster", "logs", "checked", "held", "log", "entry"]
theorem sc_unwritten : FnScope N_unwritten ["cluster", "logs"] (defScope (top 11)) := ⟨rfl, rfl, rfl, by decide +kernel, rfl, by decide +kernel, by decide +kernel⟩
theorem d_unwritten (T : TxC P K mg) (TB : GxR.TabB base mg (cIs K) Pt) : Def P w K mg base CX0 3 "unwritten" ["cluster", "logs"] (spUnw K Pt) := by
  have D_check_logs := d_check_logs (w := w) T TB
  refine T.toTxt.def0 (i := 11) (j := 2) (N := N_unwritten) rfl sc_unwritten (fun vs H Q E h => ?_) (fun _ _ _ _ _ _ us hl => match us, hl with | [_, _], _ => rfl) (fun f cdv A outer s H vs Q E hr h => ?_)
  · obtain ⟨_, _, _, _, _, _, _, _, rfl, _⟩ := h
    rfl
  · obtain ⟨cl, b, n, lk, ps, owners, p, zs, rfl, C, hS, tg, VV, n1, t1, hQ⟩ := h
    obtain ⟨dx, fs, ho, c1, c2, c3, c4, c5, c6⟩ := id C.ex
    have hC0 : ∀ f ∈ (["net", "size", "_homes"] : List Str), NoAttr K (aC K) f := T.naC
    have zl : zs.length = n := by have := VV.len; rwa [List.length_map] at this
    have rl : ∀ z ∈ zs, z.2.length ≤ owners.length := fun z hz => row_len (VV.nd _ (List.mem_map.mpr ⟨z, hz, rfl⟩)) (VV.rg _ (List.mem_map.mpr ⟨z, hz, rfl⟩))
    refine ⟨_, (pss_cons (ps_set (i := 2) sc_unwritten.nd rfl (Or.inl rfl) (pe_fnX D_check_logs (hr.mono (by first | decide | omega)) (pa_cons (pv 0) (pa_cons (pv 1) pa_nil))))
 (pss_cons (ps_set (i := 3) sc_unwritten.nd rfl (Or.inr rfl) pe_dnewK)
 (pss_cons (ps_for PassesOwn.never rfl (pi_list (pv 2)) (pg_name (i := 4) sc_unwritten.nd rfl (Or.inl rfl))
 (pss_one (ps_for PassesOwn.never rfl (pi_list (pv 4)) (pg_name (i := 5) sc_unwritten.nd rfl (Or.inl rfl))
 (pss_one (ps_dput (hu_of hr) (pv 3) (pv 5) pe_bl rfl)))))
 (pss_one (ps_ret (pe_lc (own := [("entry", 5)]) (by rfl) sc_unwritten.nd (pi_range1 (by rfl) (T.n 2 _ rfl) (pa_cons (pe_fld (pv 0) rfl) pa_nil)) (blkOk_by (own := [("entry", 5)]) (N := N_unwritten) (sc := defScope (top 11)) (by decide +kernel)) (fun _ _ _ _ _ => (pg_name (i := 5) sc_unwritten.nd rfl (Or.inl rfl))) (fun _ _ _ _ _ => (pts_one (pt_cmp (pc_dnotin (hu_of hr) (pv 5) (pv 3))))) (fun _ _ _ _ _ => (pv 5)))))))), ?_⟩
    refine ⟨_, rfl, _, rfl, cl, b, n, lk, ps, owners, p, zs, rfl, C, hS, by omega, (fun z hz => Nat.le_trans (rl z hz) (by omega)), tg, fun _ D H1 L1 E1 => ?_, fun v hv => ?_⟩
    · refine fun d hd => ?_
      obtain ⟨ys, hy, ey⟩ := L1.sl
      have yl : ys.length = n := by have := congrArg List.length ey; rw [List.length_map, VV.len] at this; exact this
      have hyd := hy.upN (o := .dK []) hd
      have Ed : Kp [] H (upd H1 d (.dK [])) := E1.mut (E1.f d hd)
      have hdd : (upd H1 d (.dK [])) d = some (.dK []) := upd_same
      generalize upd H1 d (.dK []) = H2 at hyd Ed hdd
      have d0 := E1.f d hd
      refine ⟨_, rfl, D, rfl, ⟨_, hyd.sq⟩, for_list (K := K) (a := D) (xs := ys.map fun z => V.ref z.1) (fun i σ H' => ∃ v4 v5 kvs, σ = [some (.ref cl), some (.ref p), some (.ref D), some (.ref d), v4, v5] ∧ SL H' D gR ys ∧ Kp [] H H' ∧ H' d = some (.dK kvs) ∧ HeldBy kvs ((ys.map (·.2)).take i).flatten ∧ kvs.length ≤ i * 20) ?_ ?_ ?_ ?_⟩
      · exact ⟨none, none, [], rfl, hyd, Ed, hdd, fun e => rfl, Nat.zero_le _⟩
      · rintro i σ H' _ ⟨_, _, _, _, e, _⟩
        exact e.sq
      · rintro i y σ H3 hi ⟨v4, v5, kvs, rfl, hy3, E3, hd3, hh, kl⟩
        obtain ⟨z, hz, rfl⟩ := map_ref_at hi
        have hzm := List.mem_of_getElem? hz
        have hlk : (ys.map (·.2))[i]? = some z.2 := by rw [List.getElem?_map, hz]; rfl
        have il : i < ys.length := (List.getElem?_eq_some_iff.mp hz).1
        have zr : z.2.length ≤ owners.length := by
          have : z.2 ∈ zs.map (·.2) := by rw [← ey]; exact List.mem_map.mpr ⟨z, hzm, rfl⟩
          exact row_len (VV.nd _ this) (VV.rg _ this)
        have hz3 : IL H3 z.1 z.2 := hy3.all z hzm
        refine ⟨_, rfl, z.1, rfl, ⟨_, hz3.sq⟩, for_list (K := K) (a := z.1) (xs := z.2.map V.int) (fun j σ H' => ∃ v5 kvs, σ = [some (.ref cl), some (.ref p), some (.ref D), some (.ref d), some (.ref z.1), v5] ∧ SL H' D gR ys ∧ Kp [] H H' ∧ H' d = some (.dK kvs) ∧ HeldBy kvs (((ys.map (·.2)).take i).flatten ++ z.2.take j) ∧ kvs.length ≤ i * 20 + j) ?_ ?_ ?_ ?_⟩
        · exact ⟨v5, kvs, rfl, hy3, E3, hd3, by rw [List.take_zero, List.append_nil]; exact hh, kl⟩
        · rintro j σ H' _ ⟨_, _, _, e, _⟩
          exact (show IL H' z.1 z.2 from e.all z hzm).sq
        · rintro j y σ H4 hj ⟨v5, kvs, rfl, hy4, E4, hd4, hh4, kl4⟩
          obtain ⟨x, hx, rfl⟩ := map_int_at hj
          have jl : j < z.2.length := (List.getElem?_eq_some_iff.mp hx).1
          refine ⟨_, rfl, _, rfl, d, _, rfl, DPut.k (k := Sum.inl x) hd4 (small (by omega)), ?_⟩
          refine ⟨_, _, rfl, hy4.up (fun z => by have := hy4.at_; rw [z, hd4] at this; cases this) (fun z hz q => ?_), E4.mut d0, upd_same, ?_, Nat.le_trans putK_len (Nat.succ_le_succ kl4)⟩
          · have := hy4.all z hz
            rw [q, hd4] at this
            cases this
          · have := hh4.put x
            rw [List.take_succ, hx, ← List.append_assoc]
            exact this
        · rintro σ H4 ⟨v5, kvs, rfl, hy4, E4, hd4, hh4, kl4⟩
          rw [List.length_map, List.take_length] at hh4
          rw [List.length_map] at kl4
          refine ⟨_, _, kvs, rfl, hy4, E4, hd4, by rw [flat_take hlk]; exact hh4, by omega⟩
      · rintro σ H3 ⟨v4, v5, kvs, rfl, hy3, E3, hd3, hh, kl⟩
        rw [List.length_map] at hh
        have hh' : ∀ e : Int, (valV kvs (Sum.inl e)).isSome = held (zs.map (·.2)) e := fun e => by
          rw [hh e, List.take_of_length_le (by rw [List.length_map]; exact Nat.le_refl _), ← held_flat, ey]
        refine ⟨_, rfl, cl, _, dx, fs, _, rfl, E3.k _ _ c1 nil_not nt_ins, T.clC, hC0 _ (by decide), c3, (owners.length : Int), rfl, by omega, by omega, fun q hq => ?_⟩
        refine lc_range (lo := 0) (n := (owners.length : Int).toNat) (fun i H4 => Kp [] H3 H4 ∧ IL H4 q ((ents i).filter fun e => !held (zs.map (·.2)) e)) ⟨Kp.new hq, upd_same⟩ ?_ ?_
        · rintro i H4 hi ⟨E4, hL⟩
          have il : i < owners.length := by omega
          have e0 : (0 + (i : Int)) = (i : Int) := by omega
          have en : ents (i + 1) = ents i ++ [(i : Int)] := by
            unfold ents
            rw [List.range_succ, List.map_append]
            rfl
          refine ⟨rfl, _, rfl, _, rfl, d, _, rfl, DGet.k (k := Sum.inl (0 + (i : Int))) (E4.k _ _ hd3 nil_not nt_dK), _, rfl, ?_⟩
          rw [hh' (0 + (i : Int)), e0, en]
          refine iteB (fun hc => ?_) fun hc => ⟨E4, ?_⟩
          · refine ⟨_, rfl, _, hL, small (by rw [List.length_map]; have := List.length_filter_le (fun e => !held (zs.map (·.2)) e) (ents i); rw [ents_len] at this; omega), E4.mut hq, ?_⟩
            show upd _ _ _ _ = _
            rw [upd_same, List.filter_append, List.map_append, List.filter_cons, hc]
            rfl
          · rw [List.filter_append, List.filter_cons, hc]
            show IL _ _ (_ ++ [])
            rw [List.append_nil]
            exact hL
        · rintro H4 ⟨E4, hL⟩
          rw [Int.toNat_natCast] at hL
          exact hQ q H4 (E3.f q hq) hL (E3.trans E4)
    · rcases hv with ⟨h1, _⟩ | ⟨_, i, _, fb⟩
      · exact absurd VV.len h1
      · exact (VV.noBad fb).elim
end
end Ps

set_option maxHeartbeats 4000000
/-! PsP8: the program finishes logs. -/
namespace Ps
open PySem PySem.Spec PyProof.Rows L2
open He (ga ma)
theorem unw_nodup (t : Nat) (rows : Rows) : (unw t rows).Nodup := (ents_nodup t).filter _
/-- a write takes the first unwritten entry away -/
theorem unw_tail {t : Nat} {rows : Rows} {r e : Int} (h : 0 ≤ r) (h2 : r < rows.length) {us : List Int} (hu : unw t rows = e :: us) : unw t (app rows r e) = us := by
  rw [unw_app h h2, hu]
  have nd := unw_nodup t rows
  rw [hu] at nd
  obtain ⟨n1, n2⟩ := List.nodup_cons.mp nd
  rw [List.filter_cons, decide_eq_true rfl]
  show List.filter _ us = us
  rw [List.filter_eq_self]
  intro x hx
  have : x ≠ e := fun z => n1 (by rw [← z]; exact hx)
  simp [this]
section
variable {P : Program} {w : World} {K : PySem.W.Frag} {mg : Str → Option Value} {base : Heap} {Pt : Addr}
def spFin (K : PySem.W.Frag) (Pt : Addr) : Sp := fun vs H Q _ => ∃ (cl b : Addr) (n : Nat) (lk : Addr) (ps : List (Addr × Int × Int)) (owners : List Int) (p : Addr) (zs : List (Addr × List Int)), vs = [.ref cl, .ref p] ∧ Clu K H cl b n lk ps owners ∧ SL H p gR zs ∧ GxR.TabG H Pt ∧ RunOk n ps owners (zs.map (·.2)) ∧
  ∀ (r T D : Addr) (tz : List (Addr × Act)) (fin : Rows) (H' : Hp), H' r = some (.tup [.ref T, .ref D]) → H T = none → SL H' T gA tz → Lg H H' D fin → Run (Lof (ps.map (·.2))) (hm owners) owners.length (zs.map (·.2)) (tz.map (·.2)) fin → tz.length ≤ 800 → Kp [] H H' → Q (.ref r) H'
abbrev N_finish_from : List Str := ["cluster", "logs", "trace", "now", "action", "pulls", "full", "entry"]
theorem sc_finish_from : FnScope N_finish_from ["cluster", "logs"] (defScope (top 28)) := ⟨rfl, rfl, rfl, by decide +kernel, rfl, by decide +kernel, by decide +kernel⟩
theorem d_finish_from (T : TxC P K mg) (TB : GxR.TabB base mg (cIs K) Pt) : Def P w K mg base CX0 5 "finish_from" ["cluster", "logs"] (spFin K Pt) := by
  have D_unwritten := d_unwritten (w := w) T TB
  have D_copy_logs := d_copy_logs (P := P) (w := w) (base := base) T.toTxt
  have D_appended := d_appended (w := w) (base := base) T
  have D_settle_from := d_settle_from (w := w) (base := base) T
  refine T.toTxt.def0 (i := 28) (j := 14) (N := N_finish_from) rfl sc_finish_from (fun vs H Q E h => ?_) (fun _ _ _ _ _ _ us hl => match us, hl with | [_, _], _ => rfl) (fun f cdv A outer s H vs Q E hr h => ?_)
  · obtain ⟨_, _, _, _, _, _, _, _, rfl, _⟩ := h
    rfl
  · obtain ⟨cl, b, n, lk, ps, owners, p, zs, rfl, C, hS, tg, RO, hQ⟩ := h
    have zl : zs.length = n := by have := RO.val.len; rwa [List.length_map] at this
    have n1 := RO.n1
    have t1 := RO.t1
    have N := net_of (t := owners.length) RO.ok rfl RO.oo
    have ul : (unw owners.length (zs.map (·.2))).length ≤ owners.length := by
      have := List.length_filter_le (fun e => !held (zs.map (·.2)) e) (ents owners.length)
      rwa [ents_len] at this
    refine ⟨_, (pss_cons (ps_setLc (i := 2) (own := [("entry", 7)]) (by rfl) sc_finish_from.nd rfl rfl (sw_true rfl rfl rfl (by decide +kernel)) (pi_list (pe_fn D_unwritten (hr.mono (by first | decide | omega)) (pa_cons (pv 0) (pa_cons (pv 1) pa_nil)))) (blkOk_by (own := [("entry", 7)]) (N := N_finish_from) (sc := defScope (top 28)) (by decide +kernel)) (fun _ _ _ _ _ => (pg_name (i := 7) sc_finish_from.nd rfl (Or.inl rfl))) (fun _ _ _ _ _ => pts_nil) (fun _ _ _ _ _ => (pe_tup (pa_cons pe_str (pa_cons (pv 7) pa_nil)))))
 (pss_cons (ps_set (i := 3) sc_finish_from.nd rfl (Or.inl rfl) (pe_fn D_copy_logs (hr.mono (by first | decide | omega)) (pa_cons (pv 1) pa_nil)))
 (pss_cons (ps_for PassesOwn.never rfl (pi_list (pv 2)) (pg_name (i := 4) sc_finish_from.nd rfl (Or.inl rfl))
 (pss_one (ps_set (i := 3) sc_finish_from.nd rfl (Or.inl rfl) (pe_fn D_appended (hr.mono (by first | decide | omega)) (pa_cons (pv 0) (pa_cons (pv 3) (pa_cons (pv 4) pa_nil)))))))
 (pss_cons (ps_asg (pe_fn D_settle_from (hr.mono (by first | decide | omega)) (pa_cons (pv 0) (pa_cons (pv 3) pa_nil))) (pg_tup (by rfl) (pgs_cons (pg_name (i := 5) sc_finish_from.nd rfl (Or.inl rfl)) (pgs_cons (pg_name (i := 6) sc_finish_from.nd rfl (Or.inl rfl)) pgs_nil))))
 (pss_one (ps_ret (pe_tup (pa_cons (pe_op op_cat (pv 2) (pv 5)) (pa_cons (pv 6) pa_nil))))))))), ?_⟩
    refine ⟨_, rfl, _, rfl, cl, b, n, lk, ps, owners, p, zs, rfl, C, hS, tg, RO.val, n1, t1, fun q H1 hq0 hq E1 => ⟨q, rfl, ⟨_, hq.sq⟩, fun tr htr => ?_⟩⟩
    generalize hus : unw owners.length (zs.map (·.2)) = us at hq ul
    refine lc_list (K := K) (a := q) (xs := us.map V.int) (fun j H2 => Kp [] H1 H2 ∧ ∃ tz : List (Addr × Act), SL H2 tr gA tz ∧ tz.map (·.2) = (us.take j).map Act.w) ⟨Kp.new htr, [], SL.nil, rfl⟩ (fun j H2 _ h => (hq.kp0 h.1).sq) ?_ ?_
    · rintro j y H2 hj ⟨E2, tz, hT, et⟩
      obtain ⟨x, hx, rfl⟩ := map_int_at hj
      have jl : j < us.length := (List.getElem?_eq_some_iff.mp hx).1
      have tl : tz.length = j := by
        have := congrArg List.length et
        rw [List.length_map, List.length_map, List.length_take] at this
        omega
      refine ⟨rfl, yesT ?_⟩
      refine ⟨_, rfl, by show 2 ≤ sizeLine; decide, fun t ht => ?_⟩
      have ntt : tr ≠ t := ne_of_none hT.at_ ht
      refine ⟨_, by rw [upd_ne ntt]; exact hT.at_, small (by rw [List.length_map]; omega), (E2.mut (E2.f t ht)).mut htr, tz ++ [(t, Act.w x)], hT.snoc (x := Act.w x) ht hT.npA, ?_⟩
      rw [List.map_append, et, List.take_succ, hx, List.map_append]
      rfl
    · rintro H2 ⟨E2, tz, hT, et⟩
      rw [List.length_map, List.take_length] at et
      have E02 := E1.trans E2
      have tzl : tz.length = us.length := by have := congrArg List.length et; rwa [List.length_map, List.length_map] at this
      have hS2 := hS.kp0 E02 fun _ => nt_gR
      refine ⟨_, rfl, p, zs, rfl, hS2, by omega, fun D H3 L3 E3 => ?_⟩
      have E03 := E02.trans E3
      refine ⟨_, rfl, tr, rfl, ⟨_, (hT.kp0 E3 fun _ => nt_gA).sq⟩, for_list (K := K) (a := tr) (xs := tz.map fun z => V.ref z.1) (fun i σ H' => ∃ D' v4 rows, σ = [some (.ref cl), some (.ref p), some (.ref tr), some (.ref D'), v4, none, none, none] ∧ Kp [] H2 H' ∧ Lg H2 H' D' rows ∧ Valid n owners.length rows ∧ unw owners.length rows = us.drop i ∧
        (∀ tr' f, Run (Lof (ps.map (·.2))) (hm owners) owners.length rows tr' f → Run (Lof (ps.map (·.2))) (hm owners) owners.length (zs.map (·.2)) ((us.take i).map Act.w ++ tr') f)) ?_ ?_ ?_ ?_⟩
      · exact ⟨D, none, _, rfl, E3, L3, RO.val, hus, fun _ _ h => h⟩
      · rintro i σ H' _ ⟨_, _, _, _, e, _⟩
        exact (hT.kp0 e fun _ => nt_gA).sq
      · rintro i y σ H4 hi ⟨D', v4, rows, rfl, E4, L4, VV, uw, co⟩
        obtain ⟨z, hz, rfl⟩ := map_ref_at hi
        have hzm := List.mem_of_getElem? hz
        have il : i < us.length := by rw [← tzl]; exact (List.getElem?_eq_some_iff.mp hz).1
        have ez : z.2 = Act.w us[i] := by
          have h1 : (tz.map (·.2))[i]? = some z.2 := by rw [List.getElem?_map, hz]; rfl
          rw [et, List.getElem?_map, List.getElem?_eq_getElem il] at h1
          exact (Option.some.inj h1).symm
        have hz4 : H4 z.1 = some (gA (Act.w us[i])) := by
          have := (hT.kp0 E4 fun _ => nt_gA).all z hzm
          rwa [ez] at this
        have ud : unw owners.length rows = us[i] :: us.drop (i + 1) := by rw [uw]; exact List.drop_eq_getElem_cons il
        have hh : (unw owners.length rows).head? = some us[i] := by rw [ud]; rfl
        obtain ⟨e0, e1, e2⟩ := unw_head hh
        obtain ⟨h0, h1⟩ := N.h _ e0 e1
        obtain ⟨V5, l5⟩ := write_valid N VV hh
        obtain ⟨ys, hy, ey⟩ := L4.sl
        have yl : ys.length = n := by have := congrArg List.length ey; rw [List.length_map, VV.len] at this; exact this
        have yr : ∀ z ∈ ys, z.2.length ≤ 2000 := fun z hz => by
          have : z.2 ∈ rows := by rw [← ey]; exact List.mem_map.mpr ⟨z, hz, rfl⟩
          exact Nat.le_trans (row_len (VV.nd _ this) (VV.rg _ this)) (by omega)
        refine ⟨_, rfl, _, rfl, _, rfl, cl, b, n, lk, ps, owners, D', z.1, Act.w us[i], ys, rfl, C.kp0 (E02.trans E4), hz4, ⟨e0, e1⟩, hy, by omega, h0, (by show hm owners us[i] < _; omega), yr, fun D2 H5 L5 E5 => ?_⟩
        rw [ey] at L5
        refine ⟨D2, _, _, rfl, E4.trans E5, L5.back E4, V5, unw_tail h0 (by rw [VV.len]; exact h1) ud, fun tr' f R => ?_⟩
        have := co _ _ (Run.write hh R)
        rw [List.take_succ, List.getElem?_eq_getElem il, List.map_append, List.append_assoc]
        exact this
      · rintro σ H4 ⟨D', v4, rows, rfl, E4, L4, VV, uw, co⟩
        rw [List.length_map, tzl, List.drop_length] at uw
        rw [List.length_map, tzl, List.take_length] at co
        obtain ⟨ys, hy, ey⟩ := L4.sl
        have E04 := E02.trans E4
        refine ⟨_, rfl, _, rfl, cl, b, n, lk, ps, owners, D', ys, rfl, C.kp0 E04, hy, (by rw [ey]; exact ⟨RO.ok, RO.srt, RO.oo, VV, n1, t1, RO.l1⟩), (by rw [ey]; exact uw), fun r T2 D2 pz fin H5 hr hT2 hP L5 R5 pl E5 => ?_⟩
        rw [ey] at R5
        have hT5 := (hT.kp0 E4 fun _ => nt_gA).kp0 E5 fun _ => nt_gA
        have E05 := E04.trans E5
        refine ⟨r, _, rfl, SqT.of hr, rfl, _, _, rfl, _, _, rfl, rfl, ?_⟩
        refine ⟨_, rfl, _, rfl, tr, T2, _, _, rfl, rfl, hT5.at_, hP.at_, smallE (by rw [List.length_map, List.length_map]; omega), fun ch hch => ?_⟩
        have hc5 : SL (upd H5 ch (.lst ((tz.map fun z => V.ref z.1) ++ pz.map fun z => V.ref z.1))) ch gA (tz ++ pz) := ⟨by rw [upd_same, List.map_append], fun z hz => by
          rcases List.mem_append.mp hz with hz | hz
          · rw [upd_ne (ne_of_none (hT5.all z hz) hch)]
            exact hT5.all z hz
          · rw [upd_ne (ne_of_none (hP.all z hz) hch)]
            exact hP.all z hz⟩
        have c0 := E05.f ch hch
        refine ⟨_, rfl, by show 2 ≤ sizeLine; decide, fun r2 hr2 => ?_⟩
        refine hQ r2 ch D2 (tz ++ pz) fin _ upd_same c0 (hc5.upN hr2) (((L5.back E04).kp0 (Kp.new hch)).kp0 (Kp.new hr2)) ?_ (by rw [List.length_append]; omega) ((E05.mut c0).mut (by
          have := Kp.upf hr2
          exact E05.f r2 this.2))
        rw [List.map_append, et]
        exact co _ _ R5
end
end Ps

set_option maxHeartbeats 4000000
/-! PsP9: the program's reachability. -/
namespace Ps
open PySem PySem.Spec PyProof.Rows L2
open He (ga ma)
/-! ### dicts whose keys are a list of ints, dicts of lists -/
def mkK (R : List Int) : List (Key × V) := R.map fun k => ((Sum.inl k : Key), V.bl true)
theorem mkK_val (R : List Int) (k : Int) : (valV (mkK R) (Sum.inl k)).isSome = R.contains k := by
  rw [← valV_any]
  unfold mkK
  rw [List.any_map]
  induction R with
  | nil => rfl
  | cons y R ih =>
    rw [List.any_cons, List.contains_cons, ih]
    congr 1
    by_cases h : y = k
    · rw [h]
      simp
    · have h2 : (k == y) = false := beq_eq_false_iff_ne.mpr (Ne.symm h)
      rw [h2]
      exact decide_eq_false fun z => h (Sum.inl.inj z)
theorem mkK_put {R : List Int} {k : Int} (h : R.contains k = false) : putK (mkK R) (Sum.inl k) (.bl true) = mkK (R ++ [k]) := by
  unfold putK
  rw [if_neg (by rw [valV_any, mkK_val, h]; exact Bool.false_ne_true)]
  unfold mkK
  rw [List.map_append]
  rfl
/-- what is known of the places that are reached -/
structure RF (L : Int → Int → Prop) (n : Nat) (R : List Int) : Prop where
  z : (0 : Int) ∈ R
  nd : R.Nodup
  rg : ∀ x ∈ R, 0 ≤ x ∧ x < n
  snd : ∀ x ∈ R, Rch L 0 x
theorem RF.len {L : Int → Int → Prop} {n : Nat} {R : List Int} (h : RF L n R) : R.length ≤ n := row_len h.nd h.rg
theorem RF.add {L : Int → Int → Prop} {n : Nat} {R : List Int} {x r : Int} (h : RF L n R) (hx : x ∈ R) (l : L x r) (r0 : 0 ≤ r) (r1 : r < n) (hn : r ∉ R) : RF L n (R ++ [r]) :=
  ⟨List.mem_append_left _ h.z, List.nodup_append.mpr ⟨h.nd, by simp, fun a ha b hb q => hn (by rw [List.mem_singleton.mp hb] at q; rw [← q]; exact ha)⟩,
    fun y hy => by
      rcases List.mem_append.mp hy with hy | hy
      · exact h.rg y hy
      · rw [List.mem_singleton.mp hy]
        exact ⟨r0, r1⟩,
    fun y hy => by
      rcases List.mem_append.mp hy with hy | hy
      · exact h.snd y hy
      · rw [List.mem_singleton.mp hy]
        exact (h.snd x hx).step l⟩
/-- a dict at d: to each i the i-th of the lists zs -/
structure DR (H : Hp) (d : Addr) (zs : List (Addr × List Int)) : Prop where
  ex : ∃ kvs, H d = some (.dK kvs) ∧ kvs.length ≤ zs.length ∧ ∀ k : Int, valV kvs (Sum.inl k) = if 0 ≤ k then (zs[k.toNat]?).map (fun z => V.ref z.1) else none
  all : ∀ z ∈ zs, IL H z.1 z.2
  nd : (zs.map (·.1)).Nodup
section
variable {H H' : Hp} {d : Addr} {zs : List (Addr × List Int)} {m : List Addr}
theorem DR.kp (h : DR H d zs) (e : Kp m H H') (hd : d ∉ m) (hz : ∀ z ∈ zs, z.1 ∉ m) : DR H' d zs := by
  obtain ⟨kvs, h1, h2⟩ := h.ex
  exact ⟨⟨kvs, e.k _ _ h1 hd nt_dK, h2⟩, fun z hzm => (h.all z hzm).kp e (hz z hzm), h.nd⟩
theorem DR.kp0 (h : DR H d zs) (e : Kp [] H H') : DR H' d zs := h.kp e nil_not fun _ _ => nil_not
theorem DR.get (h : DR H d zs) {k : Int} {z : Addr × List Int} (h0 : 0 ≤ k) (hz : zs[k.toNat]? = some z) : DGet H d (.int k) (some (.ref z.1)) := by
  obtain ⟨kvs, h1, h2, h3⟩ := h.ex
  have := DGet.k (k := Sum.inl k) h1
  rw [h3 k, if_pos h0, hz] at this
  exact this
theorem DR.has (h : DR H d zs) (k : Int) : ∃ o, DGet H d (.int k) o ∧ o.isSome = (decide (0 ≤ k) && decide (k < zs.length)) := by
  obtain ⟨kvs, h1, h2, h3⟩ := h.ex
  refine ⟨_, DGet.k (k := Sum.inl k) h1, ?_⟩
  rw [h3 k]
  by_cases h0 : 0 ≤ k
  · rw [if_pos h0, decide_eq_true h0, Bool.true_and]
    by_cases hk : k < zs.length
    · rw [decide_eq_true hk, List.getElem?_eq_getElem (by omega)]
      rfl
    · rw [decide_eq_false hk, List.getElem?_eq_none (by omega)]
      rfl
  · rw [if_neg h0, decide_eq_false h0]
    rfl
/-- a list grows -/
theorem DR.app (h : DR H d zs) {k x : Int} {z : Addr × List Int} (h0 : 0 ≤ k) (hz : zs[k.toNat]? = some z) : DR (upd H z.1 (.lst (z.2.map V.int ++ [.int x]))) d (zs.set k.toNat (z.1, z.2 ++ [x])) := by
  obtain ⟨kvs, h1, h2, h3⟩ := h.ex
  have hzm := List.mem_of_getElem? hz
  have hl : k.toNat < zs.length := (List.getElem?_eq_some_iff.mp hz).1
  have ea : (zs.set k.toNat (z.1, z.2 ++ [x])).map (·.1) = zs.map (·.1) := by
    rw [List.map_set]
    apply List.ext_getElem?
    intro j
    by_cases hj : k.toNat = j
    · subst hj
      rw [List.getElem?_set_self (by rw [List.length_map]; exact hl), List.getElem?_map, hz]
      rfl
    · rw [List.getElem?_set_ne hj]
  have dz : d ≠ z.1 := fun e => by
    have := h.all z hzm
    unfold IL at this
    rw [← e, h1] at this
    cases this
  refine ⟨⟨kvs, by rw [upd_ne dz]; exact h1, by rw [List.length_set]; exact h2, fun j => ?_⟩, fun y hy => ?_, by rw [ea]; exact h.nd⟩
  · rw [h3 j]
    by_cases hj : 0 ≤ j
    · rw [if_pos hj, if_pos hj]
      have g : ∀ (l : List (Addr × List Int)) (j : Nat), (l[j]?).map (fun z => V.ref z.1) = ((l.map (·.1))[j]?).map V.ref := fun l j => by
        rw [List.getElem?_map, Option.map_map]
        rfl
      rw [g, g, ea]
    · rw [if_neg hj, if_neg hj]
  · obtain ⟨j, hj, e⟩ := List.getElem_of_mem hy
    have e' : (zs.set k.toNat (z.1, z.2 ++ [x]))[j]? = some y := by rw [List.getElem?_eq_getElem hj, e]
    by_cases hij : k.toNat = j
    · subst hij
      rw [List.getElem?_set_self hl] at e'
      rw [← Option.some.inj e']
      show upd _ _ _ _ = _
      rw [upd_same, List.map_append]
      rfl
    · rw [List.getElem?_set_ne hij] at e'
      have hy' : y ∈ zs := List.mem_of_getElem? e'
      refine (h.all y hy').up fun q => ?_
      have g1 : (zs.map (·.1))[k.toNat]? = some z.1 := by rw [List.getElem?_map, hz]; rfl
      have g2 : (zs.map (·.1))[j]? = some z.1 := by rw [List.getElem?_map, e', ← q]; rfl
      exact hij (nd_ix h.nd g1 g2)
/-- a new empty list for the next key -/
theorem DR.more (h : DR H d zs) {l : Addr} {kvs : List (Key × V)} (hd : H d = some (.dK kvs)) (h3 : ∀ k : Int, valV kvs (Sum.inl k) = if 0 ≤ k then (zs[k.toNat]?).map (fun z => V.ref z.1) else none) (kl : kvs.length ≤ zs.length) (hl : H l = none) :
    DR (upd (upd H l (.lst [])) d (.dK (putK kvs (Sum.inl (zs.length : Int)) (.ref l)))) d (zs ++ [(l, [])]) := by
  have dl : d ≠ l := ne_of_none hd hl
  refine ⟨⟨_, upd_same, by rw [List.length_append]; exact Nat.le_trans putK_len (Nat.succ_le_succ kl), fun k => ?_⟩, fun z hz => ?_, ?_⟩
  · rw [valV_put, h3 k]
    by_cases hk : k = (zs.length : Int)
    · subst hk
      rw [if_pos rfl, if_pos (by omega), Int.toNat_natCast, List.getElem?_concat_length]
      rfl
    · rw [if_neg (fun z => hk (Sum.inl.inj z))]
      by_cases h0 : 0 ≤ k
      · rw [if_pos h0, if_pos h0]
        by_cases hlt : k.toNat < zs.length
        · rw [List.getElem?_append_left hlt]
        · rw [List.getElem?_eq_none (by omega), List.getElem?_eq_none (by rw [List.length_append, List.length_singleton]; omega)]
      · rw [if_neg h0, if_neg h0]
  · rcases List.mem_append.mp hz with hz | hz
    · refine ((h.all z hz).upN hl).up fun e => ?_
      have := h.all z hz
      unfold IL at this
      rw [e, hd] at this
      cases this
    · rw [List.mem_singleton.mp hz]
      show upd _ _ _ l = _
      rw [upd_ne dl.symm, upd_same]
      rfl
  · rw [List.map_append, List.nodup_append]
    refine ⟨h.nd, by simp, fun a ha b hb q => ?_⟩
    obtain ⟨y, hy, ey⟩ := List.mem_map.mp ha
    have hb' : b = l := by simpa using hb
    have := h.all y hy
    unfold IL at this
    rw [ey, q, hb', hl] at this
    cases this
end
section
variable {P : Program} {w : World} {K : PySem.W.Frag} {mg : Str → Option Value} {base : Heap} {Pt : Addr}
def spSpread : Sp := fun vs H Q _ => ∃ (lk st al : Addr) (n : Nat) (ps : List (Addr × Int × Int)), vs = [.ref lk, .ref st, .ref al] ∧ SL H lk gP ps ∧ (∀ z ∈ ps, LinkOk n z.2) ∧ ps.length ≤ 20000 ∧ IL H st [0] ∧ IL H al (ents n) ∧ 0 < n ∧ n ≤ 20 ∧
  ∀ (p : Addr) (met : List Int) (H' : Hp), IL H' p met → met.Pairwise (· < ·) → Reached (Lof (ps.map (·.2))) n met → Kp [] H H' → Q (.ref p) H'
abbrev N_spread : List Str := ["links", "starts", "allowed", "readers_of", "replica", "source", "reader", "reached", "waiting"]
theorem sc_spread : FnScope N_spread ["links", "starts", "allowed"] (defScope (top 14)) := ⟨rfl, rfl, rfl, by decide +kernel, rfl, by decide +kernel, by decide +kernel⟩
theorem d_spread (T : Txt K mg) : Def P w K mg base CX0 1 "spread" ["links", "starts", "allowed"] spSpread := by
  refine T.def0 (i := 14) (j := 4) (N := N_spread) rfl sc_spread (fun vs H Q E h => ?_) (fun _ _ _ _ _ _ us hl => match us, hl with | [_, _, _], _ => rfl) (fun f cdv A outer s H vs Q E hr h => ?_)
  · obtain ⟨_, _, _, _, _, rfl, _⟩ := h
    rfl
  · obtain ⟨lk, st, al, n, ps, rfl, hL, ok, pl, hSt, hAl, n0, n1, hQ⟩ := h
    refine ⟨_, (pss_cons (ps_set (i := 3) sc_spread.nd rfl (Or.inl rfl) pe_dnewK)
 (pss_cons (ps_for PassesOwn.never rfl (pi_list (pv 2)) (pg_name (i := 4) sc_spread.nd rfl (Or.inl rfl))
 (pss_one (ps_dput (hu_of hr) (pv 3) (pv 4) (pe_lst pa_nil) rfl)))
 (pss_cons (ps_for PassesOwn.never rfl (pi_list (pv 0)) (pg_tup (by rfl) (pgs_cons (pg_name (i := 5) sc_spread.nd rfl (Or.inl rfl)) (pgs_cons (pg_name (i := 6) sc_spread.nd rfl (Or.inl rfl)) pgs_nil)))
 (pss_one (ps_if (PW.pt (pw_and (pt_cmp (pc_din (hu_of hr) (pv 5) (pv 3))) (pw_and1 (pt_cmp (pc_din (hu_of hr) (pv 6) (pv 3))))))
 (pss_one (ps_expr (pe_bm PySem.F.plainAttrs_list PySem.F.slot_list_append PySem.F.type_list_append mt_append (pe_dget (hu_of hr) (pv 3) (pv 5) (fun _ _ => rfl)) (pa_cons (pv 6) pa_nil))))
 pss_nil)))
 (pss_cons (ps_set (i := 7) sc_spread.nd rfl (Or.inl rfl) pe_dnewK)
 (pss_cons (ps_for PassesOwn.never rfl (pi_list (pv 1)) (pg_name (i := 4) sc_spread.nd rfl (Or.inl rfl))
 (pss_one (ps_if (pt_cmp (pc_din (hu_of hr) (pv 4) (pv 3)))
 (pss_one (ps_dput (hu_of hr) (pv 7) (pv 4) pe_bl rfl))
 pss_nil)))
 (pss_cons (ps_set (i := 8) sc_spread.nd rfl (Or.inl rfl) (pe_callTy (call_list_dK rfl) (by rfl) (T.n 1 _ rfl) (by decide +kernel) (pa_cons (pv 7) pa_nil)))
 (pss_cons (ps_while PassesOwn.never (pt_truth (pv 8) (by intro _; rfl))
 (pss_cons (ps_set (i := 5) sc_spread.nd rfl (Or.inl rfl) (pe_bm0 PySem.F.plainAttrs_list PySem.F.slot_list_pop PySem.F.type_list_pop mt_pop (pv 8)))
 (pss_one (ps_for PassesOwn.never rfl (pi_list (pe_dget (hu_of hr) (pv 3) (pv 5) (fun _ _ => rfl))) (pg_name (i := 6) sc_spread.nd rfl (Or.inl rfl))
 (pss_one (ps_if (pt_cmp (pc_dnotin (hu_of hr) (pv 6) (pv 7)))
 (pss_cons (ps_dput (hu_of hr) (pv 7) (pv 6) pe_bl rfl)
 (pss_one (ps_expr (pe_bm PySem.F.plainAttrs_list PySem.F.slot_list_append PySem.F.type_list_append mt_append (pv 8) (pa_cons (pv 6) pa_nil)))))
 pss_nil))))))
 (pss_one (ps_ret (pe_callB (call_sortedDI rfl) (by rfl) (T.n 6 _ rfl) (by decide +kernel) (pa_cons (pv 7) pa_nil))))))))))), ?_⟩
    refine fun d hd => ?_
    -- readers_of
    refine ⟨_, rfl, al, rfl, ⟨_, (hAl.upN hd).sq⟩, for_list (K := K) (a := al) (xs := (ents n).map V.int) (fun i σ H' => ∃ v4 zs, σ = [some (.ref lk), some (.ref st), some (.ref al), some (.ref d), v4, none, none, none, none] ∧ Kp [] H H' ∧ DR H' d zs ∧ zs.length = i ∧ ∀ z ∈ zs, z.2 = [] ∧ H z.1 = none) ?_ ?_ ?_ ?_⟩
    · exact ⟨none, [], rfl, Kp.new hd, ⟨⟨[], upd_same, Nat.le_refl _, fun k => by split <;> rfl⟩, (fun _ h => nomatch h), List.nodup_nil⟩, rfl, fun _ h => nomatch h⟩
    · rintro i σ H' _ ⟨_, _, _, e, _⟩
      exact (hAl.kp0 e).sq
    · rintro i y σ H1 hi ⟨v4, zs, rfl, E1, hD, zl, ze⟩
      obtain ⟨x, hx, rfl⟩ := map_int_at hi
      have il : i < n := by have := (List.getElem?_eq_some_iff.mp hx).1; rwa [ents_len] at this
      have ex : x = (i : Int) := by rw [ents_at il] at hx; exact (Option.some.inj hx).symm
      subst ex
      obtain ⟨kvs, h1, h2, h3⟩ := hD.ex
      refine ⟨Nat.zero_le _, fun l hl => ?_⟩
      refine ⟨_, rfl, _, rfl, d, _, rfl, DPut.k (k := Sum.inl (i : Int)) (by rw [upd_ne (ne_of_none h1 hl)]; exact h1) (small (by omega)), ?_⟩
      rw [← zl]
      refine ⟨_, zs ++ [(l, [])], rfl, (E1.mut (E1.f l hl)).mut hd, hD.more h1 h3 h2 hl, by rw [List.length_append]; rfl, fun z hz => ?_⟩
      rcases List.mem_append.mp hz with hz | hz
      · exact ze z hz
      · rw [List.mem_singleton.mp hz]
        exact ⟨rfl, E1.f l hl⟩
    · rintro σ H1 ⟨v4, zs, rfl, E1, hD, zl, ze⟩
      rw [List.length_map, ents_len] at zl
      -- the links
      refine ⟨_, rfl, lk, rfl, ⟨_, (hL.kp0 E1 fun _ => nt_gP).sq⟩, for_list (K := K) (a := lk) (xs := ps.map fun z => V.ref z.1) (fun i σ H' => ∃ v5 v6 zs, σ = [some (.ref lk), some (.ref st), some (.ref al), some (.ref d), v4, v5, v6, none, none] ∧ Kp [] H H' ∧ DR H' d zs ∧ zs.length = n ∧ (∀ z ∈ zs, z.2.length ≤ i ∧ H z.1 = none) ∧
        ∀ (k r : Int) z, 0 ≤ k → zs[k.toNat]? = some z → (r ∈ z.2 ↔ (k, r) ∈ (ps.map (·.2)).take i)) ?_ ?_ ?_ ?_⟩
      · refine ⟨none, none, zs, rfl, E1, hD, zl, fun z hz => ⟨by rw [(ze z hz).1]; exact Nat.le_refl _, (ze z hz).2⟩, fun k r z h0 hz => ?_⟩
        rw [(ze z (List.mem_of_getElem? hz)).1, List.take_zero]
        exact ⟨fun h => (nomatch h), fun h => (nomatch h)⟩
      · rintro i σ H' _ ⟨_, _, _, _, e, _⟩
        exact (hL.kp0 e fun _ => nt_gP).sq
      · rintro i y σ H2 hi ⟨v5, v6, zs, rfl, E2, hD, zl, ze, rel⟩
        obtain ⟨z, hz, rfl⟩ := map_ref_at hi
        have hzm := List.mem_of_getElem? hz
        have il : i < ps.length := (List.getElem?_eq_some_iff.mp hz).1
        have ht : H2 z.1 = some (gP z.2) := (hL.kp0 E2 fun _ => nt_gP).all z hzm
        obtain ⟨a1, a2, a3, a4, a5⟩ := ok z hzm
        obtain ⟨y1, hy1⟩ : ∃ y1, zs[z.2.1.toNat]? = some y1 := ⟨_, List.getElem?_eq_getElem (by omega)⟩
        obtain ⟨y2, hy2⟩ : ∃ y2, zs[z.2.2.toNat]? = some y2 := ⟨_, List.getElem?_eq_getElem (by omega)⟩
        refine ⟨z.1, _, rfl, SqT.of ht, rfl, _, _, rfl, _, _, rfl, rfl, ?_⟩
        refine ⟨_, rfl, _, rfl, d, _, rfl, hD.get a1 hy1, _, rfl, iteB (fun _ => ?_) fun h => (by cases h)⟩
        refine ⟨_, rfl, _, rfl, d, _, rfl, hD.get a3 hy2, _, rfl, iteB (fun _ => ?_) fun h => (by cases h)⟩
        have hym := List.mem_of_getElem? hy1
        have hl1 := hD.all y1 hym
        refine ⟨_, rfl, _, rfl, d, _, rfl, hD.get a1 hy1, .inl ⟨rfl, _, hl1.sq⟩, _, rfl, y1.1, _, _, rfl, rfl, hl1, small (by rw [List.length_map]; have := (ze y1 hym).1; omega), ?_⟩
        refine ⟨_, _, zs.set z.2.1.toNat (y1.1, y1.2 ++ [z.2.2]), rfl, E2.mut (ze y1 hym).2, hD.app a1 hy1, by rw [List.length_set]; exact zl, fun q hq => ?_, fun k r q h0 hq => ?_⟩
        · rcases List.mem_or_eq_of_mem_set hq with hq | hq
          · exact ⟨Nat.le_succ_of_le (ze q hq).1, (ze q hq).2⟩
          · rw [hq]
            exact ⟨by rw [List.length_append]; exact Nat.succ_le_succ (ze y1 hym).1, (ze y1 hym).2⟩
        · have tk : (ps.map (·.2)).take (i + 1) = (ps.map (·.2)).take i ++ [z.2] := by
            rw [List.take_succ, List.getElem?_map, hz]
            rfl
          rw [tk, List.mem_append, List.mem_singleton]
          by_cases hk : z.2.1.toNat = k.toNat
          · have hk' : z.2.1 = k := by omega
            subst hk'
            rw [List.getElem?_set_self (by omega)] at hq
            rw [← Option.some.inj hq]
            show r ∈ y1.2 ++ [z.2.2] ↔ _
            rw [List.mem_append, List.mem_singleton, rel _ r y1 a1 hy1]
            exact ⟨fun h => h.imp id fun h => (by rw [h]), fun h => h.imp id fun h => (by rw [← h])⟩
          · rw [List.getElem?_set_ne hk] at hq
            rw [rel k r q h0 hq]
            refine ⟨fun h => .inl h, fun h => ?_⟩
            rcases h with h | h
            · exact h
            · exact absurd (by rw [← h]) hk
      · rintro σ H2 ⟨v5, v6, zs, rfl, E2, hD, zl, ze, rel⟩
        rw [List.length_map] at ze rel
        have rel' : ∀ (k r : Int) z, 0 ≤ k → zs[k.toNat]? = some z → (r ∈ z.2 ↔ Lof (ps.map (·.2)) k r) := fun k r z h0 hz => by
          rw [rel k r z h0 hz, List.take_of_length_le (by rw [List.length_map]; exact Nat.le_refl _)]
          exact Iff.rfl
        refine fun rd hrd => ?_
        have hD2 := hD.kp0 (Kp.new (o := .dK []) hrd)
        have rd0 := E2.f rd hrd
        have E3 : Kp [] H (upd H2 rd (.dK [])) := E2.mut rd0
        have hR2 : (upd H2 rd (.dK [])) rd = some (.dK (mkK [])) := upd_same
        have zrd : ∀ z ∈ zs, z.1 ≠ rd := fun z hz e => by
          have := hD2.all z hz
          unfold IL at this
          rw [e, hR2] at this
          cases this
        have drd : d ≠ rd := fun e => by
          obtain ⟨kvs, h1, _⟩ := hD.ex
          rw [e, hrd] at h1
          cases h1
        generalize upd H2 rd (.dK []) = H3 at hD2 E3 hR2
        have lof : ∀ x y, Lof (ps.map (·.2)) x y → 0 ≤ x ∧ x < n ∧ 0 ≤ y ∧ y < n := fun x y l => by
          obtain ⟨z, hz, e⟩ := List.mem_map.mp l
          obtain ⟨a1, a2, a3, a4, a5⟩ := ok z hz
          rw [e] at a1 a2 a3 a4
          exact ⟨a1, a2, a3, a4⟩
        refine ⟨_, rfl, st, rfl, ⟨_, (hSt.kp0 E3).sq⟩, for_list (K := K) (a := st) (xs := ([0] : List Int).map V.int) (fun i σ H' => ∃ v4, σ = [some (.ref lk), some (.ref st), some (.ref al), some (.ref d), v4, v5, v6, some (.ref rd), none] ∧ Kp [] H H' ∧ DR H' d zs ∧ H' rd = some (.dK (mkK (([0] : List Int).take i)))) ?_ ?_ ?_ ?_⟩
        · exact ⟨v4, rfl, E3, hD2, hR2⟩
        · rintro i σ H' _ ⟨_, _, e, _⟩
          exact (hSt.kp0 e).sq
        · rintro i y σ H4 hi ⟨v4, rfl, E4, hD4, hR4⟩
          obtain ⟨x, hx, rfl⟩ := map_int_at hi
          have hi0 : i = 0 := by
            have := (List.getElem?_eq_some_iff.mp hx).1
            simpa using this
          subst hi0
          have hx0 : (0 : Int) = x := Option.some.inj hx
          subst hx0
          obtain ⟨y0, hy0⟩ : ∃ y0, zs[(0 : Int).toNat]? = some y0 := ⟨_, List.getElem?_eq_getElem (show 0 < zs.length by omega)⟩
          refine ⟨_, rfl, _, rfl, d, _, rfl, hD4.get (by omega) hy0, _, rfl, iteB (fun _ => ?_) fun h => (by cases h)⟩
          refine ⟨_, rfl, _, rfl, rd, _, rfl, DPut.k (k := Sum.inl 0) hR4 (small (by show 0 ≤ 100000; decide)), ?_⟩
          refine ⟨_, rfl, E4.mut rd0, hD4.kp (Kp.set (m := [rd]) (Kp.refl _) (List.mem_singleton.mpr rfl) hR4 nt_dK) (fun e => drd (List.mem_singleton.mp e)) (fun z hz e => zrd z hz (List.mem_singleton.mp e)), upd_same⟩
        · rintro σ H4 ⟨v4, rfl, E4, hD4, hR4⟩
          replace hR4 : H4 rd = some (.dK (mkK [0])) := hR4
          refine ⟨_, rfl, rd, _, rfl, hR4, fun wt hwt => ?_⟩
          have wt0 := E4.f wt hwt
          have E5 : Kp [] H (upd H4 wt (.lst ((mkK [0]).map fun kv => kV kv.1))) := E4.mut wt0
          have hW5 : IL (upd H4 wt (.lst ((mkK [0]).map fun kv => kV kv.1))) wt [0] := upd_same
          have hD5 := hD4.kp0 (Kp.new (o := .lst ((mkK [0]).map fun kv => kV kv.1)) hwt)
          have hR5 : (upd H4 wt (.lst ((mkK [0]).map fun kv => kV kv.1))) rd = some (.dK (mkK [0])) := by rw [upd_ne (ne_of_none hR4 hwt)]; exact hR4
          have zwt : ∀ z ∈ zs, z.1 ≠ wt := fun z hz => ne_of_none (hD4.all z hz) hwt
          have dwt : d ≠ wt := fun e => by
            obtain ⟨kvs, h1, _⟩ := hD4.ex
            rw [e, hwt] at h1
            cases h1
          generalize upd H4 wt (.lst ((mkK [0]).map fun kv => kV kv.1)) = H5 at E5 hW5 hD5 hR5
          have upW : ∀ {H' : Hp} {W W' : List Int}, IL H' wt W → DR H' d zs → DR (upd H' wt (.lst (W'.map V.int))) d zs := fun hW hD => hD.kp (Kp.set (m := [wt]) (Kp.refl _) (List.mem_singleton.mpr rfl) hW nt_lst) (fun e => dwt (List.mem_singleton.mp e)) (fun z hz e => zwt z hz (List.mem_singleton.mp e))
          have upR : ∀ {H' : Hp} {R R' : List Int}, H' rd = some (.dK (mkK R)) → DR H' d zs → DR (upd H' rd (.dK (mkK R'))) d zs := fun hR hD => hD.kp (Kp.set (m := [rd]) (Kp.refl _) (List.mem_singleton.mpr rfl) hR nt_dK) (fun e => drd (List.mem_singleton.mp e)) (fun z hz e => zrd z hz (List.mem_singleton.mp e))
          have rw_ne : ∀ {H' : Hp} {R W : List Int}, H' rd = some (.dK (mkK R)) → IL H' wt W → rd ≠ wt := fun hR hW e => by
            unfold IL at hW
            rw [← e, hR] at hW
            cases hW
          refine ⟨fun m σ H' => ∃ (v4 v5 v6 : Option V) (R W : List Int), σ = [some (.ref lk), some (.ref st), some (.ref al), some (.ref d), v4, v5, v6, some (.ref rd), some (.ref wt)] ∧ Kp [] H H' ∧ DR H' d zs ∧ H' rd = some (.dK (mkK R)) ∧ IL H' wt W ∧ RF (Lof (ps.map (·.2))) n R ∧ (∀ x ∈ W, x ∈ R) ∧
            (∀ x ∈ R, x ∉ W → ∀ y, Lof (ps.map (·.2)) x y → y ∈ R) ∧ W.length ≤ 50 ∧ W.length ≤ R.length ∧ m = 2 * (n - R.length) + W.length, ?_, ?_⟩
          · exact ⟨_, v4, v5, v6, [0], [0], rfl, E5, hD5, hR5, hW5, ⟨by simp, by simp, fun x hx => by rw [List.mem_singleton.mp hx]; omega, fun x hx => by rw [List.mem_singleton.mp hx]; exact Rch.refl 0⟩, fun x hx => hx, fun x hx hn => absurd hx hn, by decide, Nat.le_refl _, rfl⟩
          · rintro m σ H6 ⟨v4, v5, v6, R, W, rfl, E6, hD6, hR6, hW6, F, wr, cl, wl, wrl, rfl⟩
            refine ⟨_, rfl, _, .inl ⟨_, hW6.sq, rfl⟩, ?_⟩
            rcases List.eq_nil_or_concat W with rfl | ⟨W0, x, rfl⟩
            · refine iteB (fun h => (by cases h)) fun _ => ?_
              refine ⟨_, rfl, rd, _, R, rfl, .inl hR6, by unfold mkK; rw [List.map_map]; rfl, by have := F.len; omega, fun ys p perm pw hp => ?_⟩
              have nd : ys.Nodup := perm.nodup_iff.mpr F.nd
              exact hQ p ys _ upd_same (lt_of_le_nodup pw nd) ⟨perm.mem_iff.mpr F.z, nd, fun x hx => F.rg x (perm.mem_iff.mp hx), fun x hx => F.snd x (perm.mem_iff.mp hx), fun x y l hx => perm.mem_iff.mpr (cl x (perm.mem_iff.mp hx) (by simp) y l)⟩ (E6.mut (E6.f p hp))
            · rw [List.concat_eq_append] at *
              refine iteB (fun _ => ?_) fun h => (by rw [List.map_append] at h; cases W0 <;> cases h)
              refine ⟨fun σ' H' => ∃ m', m' < 2 * (n - R.length) + (W0 ++ [x]).length ∧ _, fun _ _ h => h, ?_⟩
              have hxR : x ∈ R := wr x (by simp)
              obtain ⟨x0, x1⟩ := F.rg x hxR
              obtain ⟨y1, hy1⟩ : ∃ y1, zs[x.toNat]? = some y1 := ⟨_, List.getElem?_eq_getElem (by omega)⟩
              have hym := List.mem_of_getElem? hy1
              refine ⟨_, rfl, .inl ⟨rfl, _, hW6.sq⟩, wt, _, V.int x, rfl, rfl, hW6, by rw [List.map_append, List.length_append]; simp, ?_⟩
              have eW : ((W0 ++ [x]).map V.int).dropLast = W0.map V.int := by simp
              rw [eW]
              have E7 : Kp [] H (upd H6 wt (.lst (W0.map V.int))) := E6.mut wt0
              have hD7 : DR (upd H6 wt (.lst (W0.map V.int))) d zs := upW hW6 hD6
              have hW7 : IL (upd H6 wt (.lst (W0.map V.int))) wt W0 := upd_same
              have hR7 : (upd H6 wt (.lst (W0.map V.int))) rd = some (.dK (mkK R)) := by rw [upd_ne (rw_ne hR6 hW6)]; exact hR6
              generalize upd H6 wt (.lst (W0.map V.int)) = H7 at E7 hD7 hW7 hR7
              have hl7 := hD7.all y1 hym
              have ndW : R.length ≤ n := F.len
              refine ⟨_, rfl, _, rfl, d, _, rfl, hD7.get x0 hy1, y1.1, rfl, ⟨_, hl7.sq⟩, for_list (K := K) (a := y1.1) (xs := y1.2.map V.int) (fun j σ H' => ∃ (v6 : Option V) (R' W' : List Int), σ = [some (.ref lk), some (.ref st), some (.ref al), some (.ref d), v4, some (.int x), v6, some (.ref rd), some (.ref wt)] ∧ Kp [] H H' ∧ DR H' d zs ∧ H' rd = some (.dK (mkK R')) ∧ IL H' wt W' ∧
                RF (Lof (ps.map (·.2))) n R' ∧ (∀ y ∈ R, y ∈ R') ∧ (∀ y ∈ W', y ∈ R') ∧ (∀ y ∈ R', y ∉ W' → y ≠ x → ∀ z, Lof (ps.map (·.2)) y z → z ∈ R') ∧ (∀ (k : Nat) y, k < j → y1.2[k]? = some y → y ∈ R') ∧ R'.length + W0.length = R.length + W'.length) ?_ ?_ ?_ ?_⟩
              · refine ⟨v6, R, W0, rfl, E7, hD7, hR7, hW7, F, fun y h => h, fun y hy => wr y (List.mem_append_left _ hy), fun y hy hn hx z l => cl y hy (fun h => ?_) z l, fun k y hk => absurd hk (Nat.not_lt_zero _), rfl⟩
                rcases List.mem_append.mp h with h | h
                · exact hn h
                · exact hx (List.mem_singleton.mp h)
              · rintro j σ H' _ ⟨_, _, _, _, _, e, _⟩
                exact (show IL H' y1.1 y1.2 from e.all y1 hym).sq
              · rintro j y σ H8 hj ⟨v6, R', W', rfl, E8, hD8, hR8, hW8, F8, sub, wr8, cl8, dn8, le8⟩
                obtain ⟨r, hr, rfl⟩ := map_int_at hj
                have lr : Lof (ps.map (·.2)) x r := (rel' x r y1 x0 hy1).mp (List.mem_of_getElem? hr)
                obtain ⟨_, _, r0, r1⟩ := lof x r lr
                have l8 := F8.len
                refine ⟨_, rfl, _, rfl, rd, _, rfl, DGet.k (k := Sum.inl r) hR8, _, rfl, ?_⟩
                rw [mkK_val]
                cases hc : R'.contains r with
                | true =>
                  refine iteB (fun h => (by cases h)) fun _ => ?_
                  refine ⟨_, R', W', rfl, E8, hD8, hR8, hW8, F8, sub, wr8, cl8, fun k y hk hy => ?_, le8⟩
                  rcases Nat.lt_succ_iff_lt_or_eq.mp hk with hk | hk
                  · exact dn8 k y hk hy
                  · subst hk
                    rw [hr] at hy
                    cases hy
                    exact List.contains_iff_mem.mp hc
                | false =>
                  have hn : r ∉ R' := fun h => by rw [List.contains_iff_mem.mpr h] at hc; cases hc
                  refine iteB (fun _ => ?_) fun h => (by cases h)
                  refine ⟨_, rfl, _, rfl, rd, _, rfl, DPut.k (k := Sum.inl r) hR8 (small (by unfold mkK; rw [List.length_map]; omega)), ?_⟩
                  rw [mkK_put hc]
                  have E9 : Kp [] H (upd H8 rd (.dK (mkK (R' ++ [r])))) := E8.mut rd0
                  have hD9 : DR (upd H8 rd (.dK (mkK (R' ++ [r])))) d zs := upR hR8 hD8
                  have hW9 : IL (upd H8 rd (.dK (mkK (R' ++ [r])))) wt W' := hW8.up (rw_ne hR8 hW8).symm
                  have hR9 : (upd H8 rd (.dK (mkK (R' ++ [r])))) rd = some (.dK (mkK (R' ++ [r]))) := upd_same
                  generalize upd H8 rd (.dK (mkK (R' ++ [r]))) = H9 at E9 hD9 hW9 hR9
                  have wl9 : W'.length ≤ 100 := by
                    have := F.len
                    rw [List.length_append] at wl
                    omega
                  refine ⟨_, rfl, .inl ⟨rfl, _, hW9.sq⟩, _, rfl, wt, _, _, rfl, rfl, hW9, small (by rw [List.length_map]; omega), ?_⟩
                  have eW2 : W'.map V.int ++ [V.int r] = (W' ++ [r]).map V.int := by rw [List.map_append]; rfl
                  rw [eW2]
                  refine ⟨_, R' ++ [r], W' ++ [r], rfl, E9.mut wt0, upW hW9 hD9, by rw [upd_ne (rw_ne hR9 hW9)]; exact hR9, upd_same, F8.add (sub x hxR) lr r0 (by omega) hn, fun y hy => List.mem_append_left _ (sub y hy), fun y hy => ?_, fun y hy hny hyx z l => ?_, fun k y hk hy => ?_, by rw [List.length_append, List.length_append, List.length_singleton]; omega⟩
                  · rcases List.mem_append.mp hy with hy | hy
                    · exact List.mem_append_left _ (wr8 y hy)
                    · exact List.mem_append_right _ hy
                  · rcases List.mem_append.mp hy with hy | hy
                    · exact List.mem_append_left _ (cl8 y hy (fun h => hny (List.mem_append_left _ h)) hyx z l)
                    · exact absurd (List.mem_append_right _ hy) hny
                  · rcases Nat.lt_succ_iff_lt_or_eq.mp hk with hk | hk
                    · exact List.mem_append_left _ (dn8 k y hk hy)
                    · subst hk
                      rw [hr] at hy
                      cases hy
                      exact List.mem_append_right _ (List.mem_singleton.mpr rfl)
              · rintro σ H8 ⟨v6, R', W', rfl, E8, hD8, hR8, hW8, F8, sub, wr8, cl8, dn8, le8⟩
                rw [List.length_map] at dn8
                have l8 := F8.len
                have l7 := F.len
                have grow := nodup_sub_len R R' F.nd sub
                have ll : (W0 ++ [x]).length = W0.length + 1 := by rw [List.length_append]; rfl
                rw [ll] at wl wrl
                refine ⟨_, ?_, _, _, _, R', W', rfl, E8, hD8, hR8, hW8, F8, wr8, fun y hy hn z l => ?_, by omega, by omega, rfl⟩
                · rw [ll]
                  omega
                · by_cases hyx : y = x
                  · subst hyx
                    have : z ∈ y1.2 := (rel' _ z y1 x0 hy1).mpr l
                    obtain ⟨k, hk, e⟩ := List.getElem_of_mem this
                    exact dn8 k z hk (by rw [List.getElem?_eq_getElem hk, e])
                  · exact cl8 y hy hn hyx z l
end
end Ps

set_option maxHeartbeats 4000000
/-! PsP10: the program's strong nets; finish, finished_logs. -/
namespace Ps
open PySem PySem.Spec PyProof.Rows L2
open He (ga ma)
theorem met_all {n : Nat} {met : List Int} {L : Int → Int → Prop} (srt : met.Pairwise (· < ·)) (R : Reached L n met) : met = ents n ↔ ∀ x : Int, 0 ≤ x → x < n → Rch L 0 x := by
  rw [← R.all]
  constructor
  · intro e
    rw [e, ents_len]
  · intro e
    refine sorted_ext srt (ents_lt n) fun x => ⟨fun h => mem_ents.mpr (R.rg x h), fun h => ?_⟩
    exact nodup_sub_all R.nd (fun x hx => mem_ents.mpr (R.rg x hx)) (by rw [ents_len, e]; exact Nat.le_refl _) x h
section
variable {P : Program} {w : World} {K : PySem.W.Frag} {mg : Str → Option Value} {base : Heap} {Pt : Addr}
def spStrong (K : PySem.W.Frag) : Sp := fun vs H Q _ => ∃ (a : Addr) (n : Nat) (lk : Addr) (ps : List (Addr × Int × Int)), vs = [.ref a] ∧ NetAt K H a n lk ps ∧ (∀ z ∈ ps, LinkOk n z.2) ∧ ps.length ≤ 20000 ∧ 0 < n ∧ n ≤ 20 ∧
  ∀ (b : Bool) H', (b = true ↔ Strong (Lof (ps.map (·.2))) n) → Kp [] H H' → Q (.bl b) H'
abbrev N_is_strong : List Str := ["net", "everyone", "backward", "source", "reader"]
theorem sc_is_strong : FnScope N_is_strong ["net"] (defScope (top 15)) := ⟨rfl, rfl, rfl, by decide +kernel, rfl, by decide +kernel, by decide +kernel⟩
theorem d_is_strong (T : TxC P K mg) : Def P w K mg base CX0 3 "is_strong" ["net"] (spStrong K) := by
  have D_spread := d_spread (P := P) (w := w) (base := base) T.toTxt
  refine T.toTxt.def0 (i := 15) (j := 5) (N := N_is_strong) rfl sc_is_strong (fun vs H Q E h => ?_) (fun _ _ _ _ _ _ us hl => match us, hl with | [_], _ => rfl) (fun f cdv A outer s H vs Q E hr h => ?_)
  · obtain ⟨_, _, _, _, rfl, _⟩ := h
    rfl
  · obtain ⟨a, n, lk, ps, rfl, C, ok, pl, n0, n1, hQ⟩ := h
    obtain ⟨dx, fs, d1, d2, d3, d4⟩ := id C.ex
    have hN0 : ∀ f ∈ (["count", "_linked", "_links"] : List Str), NoAttr K (aN K) f := T.naN
    refine ⟨_, (pss_cons (ps_set (i := 1) sc_is_strong.nd rfl (Or.inl rfl) (pe_listRg (by rfl) (by rfl) (T.n 1 _ rfl) (prg_1 (by rfl) (T.n 2 _ rfl) (pe_fld (pv 0) rfl))))
 (pss_cons (ps_setLc (i := 2) (own := [("source", 3), ("reader", 4)]) (g := gTup K 2 (gCons (gName 3) (gCons (gName 4) gNil))) (by rfl) sc_is_strong.nd rfl rfl (sw_true rfl rfl rfl (by decide +kernel)) (pi_list (pe_links T (pv 0) (hr.mono (by first | decide | omega)))) (blkOk_by (own := [("source", 3), ("reader", 4)]) (N := N_is_strong) (sc := defScope (top 15)) (by decide +kernel)) (fun _ _ _ _ _ => (pg_tup (by rfl) (pgs_cons (pg_name (i := 3) sc_is_strong.nd rfl (Or.inl rfl)) (pgs_cons (pg_name (i := 4) sc_is_strong.nd rfl (Or.inl rfl)) pgs_nil)))) (fun _ _ _ _ _ => pts_nil) (fun _ _ _ _ _ => (pe_tup (pa_cons (pv 4) (pa_cons (pv 3) pa_nil)))))
 (pss_one (ps_ret (pe_and (pe_cmpR (op_eqD hr.units) (pe_fn D_spread (hr.mono (by first | decide | omega)) (pa_cons (pe_links T (pv 0) (hr.mono (by first | decide | omega))) (pa_cons (pe_lst (pa_cons pe_int pa_nil)) (pa_cons (pv 1) pa_nil)))) (pv 1) (nomark _)) (pe_one (pe_cmpR (op_eqD hr.units) (pe_fn D_spread (hr.mono (by first | decide | omega)) (pa_cons (pv 2) (pa_cons (pe_lst (pa_cons pe_int pa_nil)) (pa_cons (pv 1) pa_nil)))) (pv 1) (nomark _)))))))), ?_⟩
    refine ⟨_, rfl, a, _, dx, fs, _, rfl, d1, T.clN, hN0 _ (by decide), d2, _, rfl, .of_le (Int.le_refl _) (by omega) (by omega) (by omega), fun ev hev => ?_⟩
    have hE1 : IL (upd H ev (.lst (rgV 0 (n : Int)))) ev (ents n) := by
      show upd _ _ _ _ = _
      rw [upd_same, rgV_ents]
      rfl
    have E1 : Kp [] H (upd H ev (.lst (rgV 0 (n : Int)))) := Kp.new hev
    generalize upd H ev (.lst (rgV 0 (n : Int))) = H1 at hE1 E1
    have C1 := C.kp0 E1
    refine ⟨_, rfl, a, dx, fs, rfl, E1.k _ _ d1 nil_not nt_ins, a, n, lk, ps, rfl, C1, fun l1 hl1 => ?_⟩
    have hLs : SL (upd H1 l1 (.lst (ps.map fun z => V.ref z.1))) l1 gP ps := C1.sl.sub hl1 fun z hz => hz
    have E2 : Kp [] H1 (upd H1 l1 (.lst (ps.map fun z => V.ref z.1))) := Kp.new hl1
    generalize upd H1 l1 (.lst (ps.map fun z => V.ref z.1)) = H2 at hLs E2
    refine ⟨l1, rfl, ⟨_, hLs.sq⟩, fun bk hbk => ?_⟩
    refine lc_list (K := K) (a := l1) (xs := ps.map fun z => V.ref z.1) (fun j H3 => Kp [] H2 H3 ∧ ∃ ws : List (Addr × Int × Int), SL H3 bk gP ws ∧ ws.map (·.2) = ((ps.map (·.2)).map swp).take j)
      ⟨Kp.new hbk, [], SL.nil, rfl⟩ (fun j H3 _ ⟨e, _⟩ => (hLs.kp0 e fun _ => nt_gP).sq) ?_ ?_
    · rintro j y H3 hj ⟨E3, ws, hw, ew⟩
      obtain ⟨z, hz, rfl⟩ := map_ref_at hj
      have ht := (hLs.kp0 E3 fun _ => nt_gP).all z (List.mem_of_getElem? hz)
      have jl : j < ps.length := (List.getElem?_eq_some_iff.mp hz).1
      have wl : ws.length ≤ j := by
        have := congrArg List.length ew
        rw [List.length_map, List.length_take] at this
        omega
      refine ⟨z.1, _, rfl, SqT.of ht, rfl, _, _, rfl, _, _, rfl, rfl, rfl, yesT ?_⟩
      refine ⟨_, rfl, _, rfl, by show 2 ≤ sizeLine; decide, fun t ht2 => ?_⟩
      have nDt : bk ≠ t := ne_of_none hw.at_ ht2
      refine ⟨_, by rw [upd_ne nDt]; exact hw.at_, small (by rw [List.length_map]; omega), (E3.mut (E3.f t ht2)).mut hbk, ws ++ [(t, z.2.2, z.2.1)], hw.snoc (x := (z.2.2, z.2.1)) ht2 hw.npP, ?_⟩
      rw [List.map_append, ew, List.take_succ, List.getElem?_map, List.getElem?_map, hz]
      rfl
    · rintro H3 ⟨E3, ws, hw, eW⟩
      rw [List.length_map, List.take_of_length_le (by rw [List.length_map, List.length_map]; exact Nat.le_refl _)] at eW
      have E13 := E2.trans E3
      have C3 := C1.kp0 E13
      have d1_3 : H3 a = some (.ins (aN K) dx fs) := (E1.trans E13).k _ _ d1 nil_not nt_ins
      refine ⟨_, rfl, a, dx, fs, rfl, d1_3, a, n, lk, ps, rfl, C3, fun l2 hl2 => ?_⟩
      have hLs2 : SL (upd H3 l2 (.lst (ps.map fun z => V.ref z.1))) l2 gP ps := C3.sl.sub hl2 fun z hz => hz
      have E4 : Kp [] H3 (upd H3 l2 (.lst (ps.map fun z => V.ref z.1))) := Kp.new hl2
      generalize upd H3 l2 (.lst (ps.map fun z => V.ref z.1)) = H4 at hLs2 E4
      refine ⟨by show 1 ≤ sizeLine; decide, fun z0 hz0 => ?_⟩
      have E5 : Kp [] H4 (upd H4 z0 (.lst [.int 0])) := Kp.new hz0
      refine ⟨_, rfl, l2, z0, ev, n, ps, rfl, hLs2.kp0 E5 (fun _ => nt_gP), ok, pl, upd_same, hE1.kp0 (E13.trans (E4.trans E5)), n0, n1, fun p met H6 hM srt R E6 => ?_⟩
      have E36 := (E4.trans E5).trans E6
      have E16 := E13.trans E36
      have hE6 := hE1.kp0 E16
      refine ⟨_, rfl, dI met, dI (ents n), dp_I hM, dp_I hE6, (nice_dI met).shaped (by decide), (nice_dI _).shaped (by decide), ?_⟩
      rw [eqv_dI]
      refine ⟨_, rfl, iteD (fun e => ?_) fun e => ?_⟩
      · have hw6 := hw.kp0 E36 fun _ => nt_gP
        have ok2 : ∀ z ∈ ws, LinkOk n z.2 := fun z hz => by
          have : z.2 ∈ (ps.map (·.2)).map swp := by rw [← eW]; exact List.mem_map.mpr ⟨z, hz, rfl⟩
          obtain ⟨q, hq, eq⟩ := List.mem_map.mp this
          obtain ⟨z', hz', ez'⟩ := List.mem_map.mp hq
          obtain ⟨a1, a2, a3, a4, a5⟩ := ok z' hz'
          rw [← eq, ← ez']
          exact ⟨a3, a4, a1, a2, fun e => a5 e.symm⟩
        have wl : ws.length ≤ 20000 := by
          have := congrArg List.length eW
          rw [List.length_map, List.length_map, List.length_map] at this
          omega
        refine ⟨_, rfl, by show 1 ≤ sizeLine; decide, fun z1 hz1 => ?_⟩
        have E7 : Kp [] H6 (upd H6 z1 (.lst [.int 0])) := Kp.new hz1
        refine ⟨_, rfl, bk, z1, ev, n, ws, rfl, hw6.kp0 E7 (fun _ => nt_gP), ok2, wl, upd_same, hE6.kp0 E7, n0, n1, fun p2 met2 H8 hM2 srt2 R2 E8 => ?_⟩
        rw [eW, lof_swp] at R2
        have E18 := E16.trans (E7.trans E8)
        refine ⟨_, rfl, dI met2, dI (ents n), dp_I hM2, dp_I (hE1.kp0 E18), (nice_dI met2).shaped (by decide), (nice_dI _).shaped (by decide), ?_⟩
        rw [eqv_dI]
        refine hQ _ H8 ?_ (E1.trans E18)
        rw [decide_eq_true_iff, met_all srt2 R2]
        exact ⟨fun h => ⟨(met_all srt R).mp e, h⟩, fun h => h.bwd⟩
      · refine hQ _ H6 ?_ (E1.trans E16)
        exact ⟨fun h => (by cases h), fun S => absurd ((met_all srt R).mpr S.fwd) e⟩
/-! ### check_strong -/
def spCkS (K : PySem.W.Frag) : Sp := fun vs H Q E => ∃ (a : Addr) (n : Nat) (lk : Addr) (ps : List (Addr × Int × Int)), vs = [.ref a] ∧ NetAt K H a n lk ps ∧ (∀ z ∈ ps, LinkOk n z.2) ∧ ps.length ≤ 20000 ∧ 0 < n ∧ n ≤ 20 ∧
  (Strong (Lof (ps.map (·.2))) n → ∀ H', Kp [] H H' → Q .non H') ∧ (¬ Strong (Lof (ps.map (·.2))) n → ∀ H', Kp [] H H' → E (.ref (aS K)) none H')
abbrev N_check_strong : List Str := ["net"]
theorem sc_check_strong : FnScope N_check_strong ["net"] (defScope (top 16)) := ⟨rfl, rfl, rfl, by decide +kernel, rfl, by decide +kernel, by decide +kernel⟩
theorem d_check_strong (T : TxC P K mg) : Def P w K mg base (L2.CX P w) 4 "check_strong" ["net"] (spCkS K) := by
  have D_is_strong := d_is_strong (w := w) (base := base) T
  refine T.toTxt.defX (i := 16) (j := 6) (N := N_check_strong) rfl sc_check_strong (fun vs H Q E h => ?_) (fun _ _ _ _ _ _ us hl => match us, hl with | [_], _ => rfl) (fun f cdv A outer s H vs Q E hr h => ?_)
  · obtain ⟨_, _, _, _, rfl, _⟩ := h
    rfl
  · obtain ⟨a, n, lk, ps, rfl, C, ok, pl, n0, n1, hQ, hE⟩ := h
    refine ⟨_, (pss_one (ps_if (pt_not (pt_val (pe_fn D_is_strong (hr.mono (by first | decide | omega)) (pa_cons (pv 0) pa_nil))))
 (pss_one (ps_raise rfl (takes_of rfl rfl rfl rfl) (pmk_plain (k := 0) T.eS (T.n 16 _ rfl) (hr.mono (by first | decide | omega)))))
 pss_nil)), ?_⟩
    refine ⟨_, rfl, a, n, lk, ps, rfl, C, ok, pl, n0, n1, fun b H1 hb E1 => ⟨_, rfl, ?_⟩⟩
    cases b with
    | true => exact hQ (hb.mp rfl) H1 E1
    | false => exact hE (fun S => (by have := hb.mpr S; cases this)) H1 E1
end
end Ps

set_option maxHeartbeats 4000000
/-! PsP11: finish, finished_logs. -/
namespace Ps
open PySem PySem.Spec PyProof.Rows L2
open He (ga ma)
section
variable {P : Program} {w : World} {K : PySem.W.Frag} {mg : Str → Option Value} {base : Heap} {Pt : Addr}
/-- a cluster that the law may ask about -/
structure NetOk (n : Nat) (ps : List (Addr × Int × Int)) (owners : List Int) : Prop where
  ok : ∀ z ∈ ps, LinkOk n z.2
  srt : (ps.map (·.2)).Pairwise Lex
  oo : ∀ o ∈ owners, 0 ≤ o ∧ o < (n : Int)
  n0 : 0 < n
  n1 : n ≤ 20
  t1 : owners.length ≤ 20
  l1 : ps.length ≤ 20000
/-- what is handed to finish, finished_logs, and the ways out that are alike -/
structure FinIn (K : PySem.W.Frag) (Pt : Addr) (H : Hp) (cl b : Addr) (n : Nat) (lk : Addr) (ps : List (Addr × Int × Int)) (owners : List Int) (p : Addr) (zs : List (Addr × List Int)) (E : XK) : Prop where
  clu : Clu K H cl b n lk ps owners
  sl : SL H p gR zs
  net : NetOk n ps owners
  zl : zs.length ≤ 30
  rl : ∀ z ∈ zs, z.2.length ≤ 2000
  tg : GxR.TabG H Pt
  eS : ¬ Strong (Lof (ps.map (·.2))) n → ∀ H', Kp [] H H' → E (.ref (aS K)) none H'
  eL : Strong (Lof (ps.map (·.2))) n → ∀ v, Bad n owners.length (zs.map (·.2)) v → ∀ d H', H' d = some (.xd [(("replica" : Str), v)]) → Kp [] H H' → E (.ref (aL K)) (some d) H'
def spFinish (K : PySem.W.Frag) (Pt : Addr) : Sp := fun vs H Q E => ∃ (cl b : Addr) (n : Nat) (lk : Addr) (ps : List (Addr × Int × Int)) (owners : List Int) (p : Addr) (zs : List (Addr × List Int)), vs = [.ref cl, .ref p] ∧ FinIn K Pt H cl b n lk ps owners p zs E ∧
  (Strong (Lof (ps.map (·.2))) n → Valid n owners.length (zs.map (·.2)) → ∀ (T : Addr) (tz : List (Addr × Act)) (fin : Rows) (H' : Hp), H T = none → SL H' T gA tz → Run (Lof (ps.map (·.2))) (hm owners) owners.length (zs.map (·.2)) (tz.map (·.2)) fin → tz.length ≤ 800 → Kp [] H H' → Q (.ref T) H')
def spFinished (K : PySem.W.Frag) (Pt : Addr) : Sp := fun vs H Q E => ∃ (cl b : Addr) (n : Nat) (lk : Addr) (ps : List (Addr × Int × Int)) (owners : List Int) (p : Addr) (zs : List (Addr × List Int)), vs = [.ref cl, .ref p] ∧ FinIn K Pt H cl b n lk ps owners p zs E ∧
  (Strong (Lof (ps.map (·.2))) n → Valid n owners.length (zs.map (·.2)) → ∀ (D : Addr) (tr : List Act) (fin : Rows) (H' : Hp), Lg H H' D fin → Run (Lof (ps.map (·.2))) (hm owners) owners.length (zs.map (·.2)) tr fin → Kp [] H H' → Q (.ref D) H')
abbrev N_finish : List Str := ["cluster", "logs"]
theorem sc_finish : FnScope N_finish ["cluster", "logs"] (defScope (top 29)) := ⟨rfl, rfl, rfl, by decide +kernel, rfl, by decide +kernel, by decide +kernel⟩
abbrev N_finished_logs : List Str := ["cluster", "logs"]
theorem sc_finished_logs : FnScope N_finished_logs ["cluster", "logs"] (defScope (top 30)) := ⟨rfl, rfl, rfl, by decide +kernel, rfl, by decide +kernel, by decide +kernel⟩
theorem d_finish (T : TxC P K mg) (TB : GxR.TabB base mg (cIs K) Pt) : Def P w K mg base (L2.CX P w) 6 "finish" ["cluster", "logs"] (spFinish K Pt) := by
  have D_check_strong := d_check_strong (w := w) (base := base) T
  have D_check_logs := d_check_logs (w := w) T TB
  have D_finish_from := d_finish_from (w := w) T TB
  refine T.toTxt.defX (i := 29) (j := 15) (N := N_finish) rfl sc_finish (fun vs H Q E h => ?_) (fun _ _ _ _ _ _ us hl => match us, hl with | [_, _], _ => rfl) (fun f cdv A outer s H vs Q E hr h => ?_)
  · obtain ⟨_, _, _, _, _, _, _, _, rfl, _⟩ := h
    rfl
  · obtain ⟨cl, b, n, lk, ps, owners, p, zs, rfl, I, hQ⟩ := h
    obtain ⟨dx, fs, ho, c1, c2, c3, c4, c5, c6⟩ := id I.clu.ex
    have hC0 : ∀ f ∈ (["net", "size", "_homes"] : List Str), NoAttr K (aC K) f := T.naC
    refine ⟨_, (pss_cons (ps_expr (pe_fnS D_check_strong (hr.mono (by first | decide | omega)) (takes_of rfl rfl rfl rfl) (pa_cons (pe_fld (pv 0) rfl) pa_nil)))
 (pss_one (ps_ret (pe_ix ix_tup (pe_fn D_finish_from (hr.mono (by first | decide | omega)) (pa_cons (pv 0) (pa_cons (pe_fnS D_check_logs (hr.mono (by first | decide | omega)) (takes_of rfl rfl rfl rfl) (pa_cons (pv 0) (pa_cons (pv 1) pa_nil))) pa_nil))) pe_int (fun _ _ => rfl))))), ?_⟩
    refine ⟨_, rfl, cl, _, dx, fs, _, rfl, c1, T.clC, hC0 _ (by decide), c2, b, n, lk, ps, rfl, I.clu.net, I.net.ok, I.net.l1, I.net.n0, I.net.n1, fun S H1 E1 => ?_, fun S H1 E1 => I.eS S H1 E1⟩
    refine ⟨_, rfl, _, rfl, _, rfl, cl, b, n, lk, ps, owners, p, zs, rfl, I.clu.kp0 E1, I.sl.kp0 E1 (fun _ => nt_gR), I.zl, I.rl, E1.t _ I.tg, fun V D H2 L2_ E2 => ?_, fun v hv d H2 hd E2 => I.eL S v hv d H2 hd (E1.trans E2)⟩
    have E12 := E1.trans E2
    obtain ⟨ys, hy, ey⟩ := L2_.sl
    refine ⟨cl, b, n, lk, ps, owners, D, ys, rfl, I.clu.kp0 E12, hy, E12.t _ I.tg, (by rw [ey]; exact ⟨I.net.ok, I.net.srt, I.net.oo, V, I.net.n1, I.net.t1, I.net.l1⟩), fun r Tt Dd tz fin H3 hr hT0 hT L3 R tl E3 => ?_⟩
    rw [ey] at R
    exact ⟨r, _, 0, _, rfl, rfl, SqT.of hr, rfl, hQ S V Tt tz fin H3 (E12.f Tt hT0) hT R tl (E12.trans E3)⟩
theorem d_finished_logs (T : TxC P K mg) (TB : GxR.TabB base mg (cIs K) Pt) : Def P w K mg base (L2.CX P w) 6 "finished_logs" ["cluster", "logs"] (spFinished K Pt) := by
  have D_check_strong := d_check_strong (w := w) (base := base) T
  have D_check_logs := d_check_logs (w := w) T TB
  have D_finish_from := d_finish_from (w := w) T TB
  refine T.toTxt.defX (i := 30) (j := 16) (N := N_finished_logs) rfl sc_finished_logs (fun vs H Q E h => ?_) (fun _ _ _ _ _ _ us hl => match us, hl with | [_, _], _ => rfl) (fun f cdv A outer s H vs Q E hr h => ?_)
  · obtain ⟨_, _, _, _, _, _, _, _, rfl, _⟩ := h
    rfl
  · obtain ⟨cl, b, n, lk, ps, owners, p, zs, rfl, I, hQ⟩ := h
    obtain ⟨dx, fs, ho, c1, c2, c3, c4, c5, c6⟩ := id I.clu.ex
    have hC0 : ∀ f ∈ (["net", "size", "_homes"] : List Str), NoAttr K (aC K) f := T.naC
    refine ⟨_, (pss_cons (ps_expr (pe_fnS D_check_strong (hr.mono (by first | decide | omega)) (takes_of rfl rfl rfl rfl) (pa_cons (pe_fld (pv 0) rfl) pa_nil)))
 (pss_one (ps_ret (pe_ix ix_tup (pe_fn D_finish_from (hr.mono (by first | decide | omega)) (pa_cons (pv 0) (pa_cons (pe_fnS D_check_logs (hr.mono (by first | decide | omega)) (takes_of rfl rfl rfl rfl) (pa_cons (pv 0) (pa_cons (pv 1) pa_nil))) pa_nil))) pe_int (fun _ _ => rfl))))), ?_⟩
    refine ⟨_, rfl, cl, _, dx, fs, _, rfl, c1, T.clC, hC0 _ (by decide), c2, b, n, lk, ps, rfl, I.clu.net, I.net.ok, I.net.l1, I.net.n0, I.net.n1, fun S H1 E1 => ?_, fun S H1 E1 => I.eS S H1 E1⟩
    refine ⟨_, rfl, _, rfl, _, rfl, cl, b, n, lk, ps, owners, p, zs, rfl, I.clu.kp0 E1, I.sl.kp0 E1 (fun _ => nt_gR), I.zl, I.rl, E1.t _ I.tg, fun V D H2 L2_ E2 => ?_, fun v hv d H2 hd E2 => I.eL S v hv d H2 hd (E1.trans E2)⟩
    have E12 := E1.trans E2
    obtain ⟨ys, hy, ey⟩ := L2_.sl
    refine ⟨cl, b, n, lk, ps, owners, D, ys, rfl, I.clu.kp0 E12, hy, E12.t _ I.tg, (by rw [ey]; exact ⟨I.net.ok, I.net.srt, I.net.oo, V, I.net.n1, I.net.t1, I.net.l1⟩), fun r Tt Dd tz fin H3 hr hT0 hT L3 R tl E3 => ?_⟩
    rw [ey] at R
    exact ⟨r, _, 1, _, rfl, rfl, SqT.of hr, rfl, hQ S V Dd _ fin H3 (L3.back E12) R (E12.trans E3)⟩
end
end Ps

set_option maxHeartbeats 4000000
/-! PsSort: sorted(d), d a dict whose keys are pairs of ints. -/
namespace Ps
open PySem PySem.Spec PyProof.Rows L2
section
variable {X : Cx}
/-- the keys as pairs -/
def kP (q : Int × Int) : List Key := [Sum.inl q.1, Sum.inl q.2]
/-- sorted(d): a new list of the key tuples, in order -/
def rSortedDT : List V → Hp → VK → Prop := fun xs H Q => ∃ (d : Addr) (kvs : List (List Key × V)) (qs : List (Int × Int)), xs = [.ref d] ∧ Rd H d (.dT kvs) ∧ kvs.map (·.1) = qs.map kP ∧
  ∀ (ys : List (Addr × Int × Int)) (p : Addr), (ys.map (·.2)).Perm qs → (ys.map (·.2)).Pairwise (fun a b => SrtO.lexB b a = false) → (∀ z ∈ ys, H z.1 = some (.tup [.int z.2.1, .int z.2.2])) → H p = none → Q (.ref p) (upd H p (.lst (ys.map fun z => V.ref z.1)))
theorem zip_keys {H : Hp} : ∀ {kvs : List (List Key × V)} {bs : List Addr} {qs : List (Int × Int)}, IsKeys H kvs bs → kvs.map (·.1) = qs.map kP → bs.length = qs.length ∧ ∀ (j : Nat) (b : Addr) (q : Int × Int), bs[j]? = some b → qs[j]? = some q → H b = some (.tup [.int q.1, .int q.2])
  | [], _, [], .nil, _ => ⟨rfl, fun j b q h => by simp at h⟩
  | [], _, _ :: _, .nil, h => by cases h
  | _ :: _, _, [], .cons _ _, h => by cases h
  | p :: kvs, b :: bs, q :: qs, .cons h t, e => by
    rw [List.map_cons, List.map_cons] at e
    obtain ⟨e1, e2⟩ := List.cons.inj e
    obtain ⟨l, ih⟩ := zip_keys t e2
    refine ⟨congrArg Nat.succ l, fun j b' q' hb hq => ?_⟩
    cases j with
    | zero =>
      have hb' := Option.some.inj hb
      have hq' := Option.some.inj hq
      subst hb' hq'
      rw [e1] at h
      exact h
    | succ j => exact ih j b' q' hb hq
theorem cr_sortedDT (hc : X.calm = true) : CallR X (.builtin "sorted") rSortedDT := by
  intro pins s σ H xs us Q I r h
  obtain ⟨d, kvs, qs, rfl, hd, hks, q⟩ := h
  obtain ⟨u, rfl, rx⟩ := r.one
  cases rx
  obtain ⟨z, hs, ks, pr, o, es, ep, ho, hx, hdt, he, hn⟩ := (show ObjOk X.prog X.w H s.heap d (.dT kvs) from hd.ok I.hok)
  have l1 : es.size = ks.length := size_of_entries he
  have l2 : kvs.length = ks.length := Paired.length pr
  obtain ⟨lb, hkey⟩ := zip_keys (isKeys_of pr) hks
  refine Calls.call_function_entry PyProof.Rows.kind_sorted PyProof.Rows.plain_sorted PyProof.Rows.entry_sorted (PyProof.Rows.args_sorted1 _) ?_
  unfold Builtin.«sorted»
  refine wpAny_bind (m := checkCount "sorted" 1 1 _) (wpAny_pure ?_)
  refine wpAny_bind (PySem.W.kdu_collect (A := X.A.in1) (kdl_raw hs hx hdt) (I.ok.hd hc) ho (by omega) fun h' tk acc kp it => ?_)
  have ea : acc.toList = (ks.map fun x => x.2.1).map Value.ref := by
    rw [List.map_map]
    have hl : acc.toList.length = ks.length := by rw [Array.length_toList, it.1]; exact l1
    apply List.ext_getElem?
    intro j
    rw [List.getElem?_map]
    cases hj : acc.toList[j]? with
    | none =>
      have h1 := List.getElem?_eq_none_iff.mp hj
      rw [List.getElem?_eq_none (by omega)]
      all_goals rfl
    | some v =>
      obtain ⟨en, hen, hv⟩ := it.2 j v (by rw [← Array.getElem?_toList]; exact hj)
      have qe := entry_at he j
      rw [hen] at qe
      cases hb : ks[j]? with
      | none =>
        rw [hb] at qe
        exact nomatch (show some en = none from qe)
      | some b =>
        rw [hb] at qe
        have e2 : en = entryOfKey (tupleKind (mixKind X.prog X.w)) b := Option.some.inj qe
        rw [hv, e2]
        all_goals rfl
  generalize hbs : (ks.map fun x => x.2.1) = bs at ea lb hkey
  have I1 : Inv X pins σ H { s with heap := h', toks := tk } := I.kept kp
  have hal : acc.toList.length ≤ sizeLine := by rw [ea, List.length_map, ← hbs, List.length_map]; omega
  -- which pair a value is
  let kf : Addr → Int × Int := fun b => (qs.getD (bs.idxOf b) (0, 0))
  have pair : ∀ b ∈ bs, H b = some (.tup [.int (kf b).1, .int (kf b).2]) := fun b hb => by
    have hi := List.idxOf_lt_length_of_mem hb
    have g1 : bs[bs.idxOf b]? = some b := by rw [List.getElem?_eq_getElem hi, List.getElem_idxOf]
    have g2 : qs[bs.idxOf b]? = some (kf b) := by
      show _ = some (qs.getD _ _)
      rw [List.getD_eq_getElem?_getD, List.getElem?_eq_getElem (by omega)]
      rfl
    exact hkey _ b _ g1 g2
  have kfq : bs.map kf = qs := by
    apply List.ext_getElem?
    intro j
    rw [List.getElem?_map]
    by_cases hj : j < bs.length
    · have hb : bs[j] ∈ bs := List.getElem_mem hj
      have h1 := pair _ hb
      have h2 := hkey j bs[j] qs[j] (List.getElem?_eq_getElem hj) (List.getElem?_eq_getElem (by omega))
      rw [h1] at h2
      injection h2 with h2
      injection h2 with h2
      injection h2 with h3 h4
      injection h3 with h3
      injection h4 with h4 _
      injection h4 with h4
      rw [List.getElem?_eq_getElem hj, List.getElem?_eq_getElem (show j < qs.length by omega)]
      show some (kf bs[j]) = some qs[j]
      rw [Prod.ext h3 h4]
    · rw [List.getElem?_eq_none (by omega), List.getElem?_eq_none (by omega)]
      rfl
  let kv : Value → Int × Int := fun v => match v with
    | .ref b => kf b
    | _ => (0, 0)
  have isP : ∀ v ∈ acc.toList, Srt.IsPair h' v (kv v).1 (kv v).2 := fun v hv => by
    rw [ea] at hv
    obtain ⟨b, hb, rfl⟩ := List.mem_map.mp hv
    obtain ⟨_, its2, r2, o, ho, hc, n, hd⟩ := I1.hok _ _ (pair b hb)
    obtain ⟨u1, u2, rfl, ri, rj⟩ := vals2 r2
    obtain ⟨t1, rfl⟩ := ri
    obtain ⟨t2, rfl⟩ := rj
    exact ⟨b, o, t1, t2, n, rfl, ho, hc, hd⟩
  refine wpAny_bind (wpAny_newList ?_ hal)
  have hoL : (h'.push (seqObj "list" acc.toList.toArray 0)).get? h'.objs.size = some (seqObj "list" acc.toList.toArray 0) := Heap.get?_push_size _ rfl
  show wpAny _ _ _ _ _ { s with heap := h'.push (seqObj "list" acc.toList.toArray 0), toks := tk }
  refine wpAny_bind (wpAny_holding (wpAny_call_entry PyProof.Rows.slot_list_sort ⟨_, hoL, rfl⟩ PyProof.Rows.entry_list_sort
    (SrtO.list_sort_ord (s := { s with heap := h'.push (seqObj "list" acc.toList.toArray 0), toks := tk }) (SrtO.swo_lex kv) hoL hal (fun h2 => SrtO.pairs_sortableO (by omega) (fun v hm => (isP v hm).keeps fun b o e _ => Heap.get?_push_of_some _ e) fun o e => ?_) fun out g1 g2 => ⟨_, rfl, ?_⟩) (PyProof.Rows.args_list_sort _)))
  · have e' : some o = some (seqObj "list" acc.toList.toArray 0) := e.symm.trans hoL
    cases e'
    intro c
    exact absurd (Value.type.inj c) (by decide)
  · obtain ⟨e', he'⟩ := PyProof.Rows.sortedHeap_at (vs := acc.toList) (out := out.toArray) hoL
    have om : ∀ v ∈ out, ∃ b ∈ bs, v = .ref b := fun v hv => by
      have := g2.perm.mem_iff.mp hv
      rw [ea] at this
      obtain ⟨b, hb, e⟩ := List.mem_map.mp this
      exact ⟨b, hb, e.symm⟩
    let un : Value → Addr := fun v => match v with
      | .ref b => b
      | _ => 0
    let ys : List (Addr × Int × Int) := out.map fun v => (un v, kv v)
    have eout : out = ys.map fun z => Value.ref z.1 := by
      show out = (out.map fun v => (un v, kv v)).map fun z => Value.ref z.1
      rw [List.map_map]
      conv => lhs; rw [← List.map_id out]
      refine List.map_congr_left fun v hv => ?_
      obtain ⟨b, _, rfl⟩ := om v hv
      rfl
    have ys2 : ys.map (·.2) = out.map kv := by
      show (out.map fun v => (un v, kv v)).map (·.2) = _
      rw [List.map_map]
      rfl
    have mem : ∀ z ∈ ys, H z.1 = some (.tup [.int z.2.1, .int z.2.2]) := fun z hz => by
      obtain ⟨v, hv, rfl⟩ := List.mem_map.mp hz
      obtain ⟨b, hb, rfl⟩ := om v hv
      exact pair b hb
    clear_value ys
    have vals : Vals (ys.map fun z => V.ref z.1) out := by
      have h1 : (ys.map fun z => V.ref z.1) = (ys.map (·.1)).map V.ref := by rw [List.map_map]; rfl
      have h2 : out = (ys.map (·.1)).map Value.ref := by rw [List.map_map]; exact eout
      rw [h1, h2]
      have : ((ys.map (·.1)).map Value.ref) = ((ys.map (·.1)).map Value.ref) := rfl
      exact vals_refs _
    have ol : out.length ≤ sizeLine := by rw [g2.perm.length_eq]; exact hal
    refine wpAny_pure ⟨_, rfl, .ref h'.objs.size, upd H h'.objs.size (.lst (ys.map fun z => V.ref z.1)), I1.laid (t' := tk) (fun b u e => ?_) (Nat.le_refl _)
      (show ObjOk X.prog X.w _ _ _ (.lst (ys.map fun z => V.ref z.1)) from ⟨by rw [List.length_map]; rw [eout, List.length_map] at ol; exact ol, out, e', vals, he'⟩), rfl, q ys _ ?_ ?_ ?_ (I1.hok.fresh (Nat.le_refl _))⟩
    · have hb : b < h'.objs.size := Heap.lt_size e
      rw [PyProof.Rows.sortedHeap_old (Nat.ne_of_lt hb) (by rw [size_push']; exact Nat.lt_succ_of_lt hb)]
      exact Heap.get?_push_of_some _ e
    · rw [ys2]
      have := g2.perm.map kv
      rw [ea, List.map_map] at this
      have e3 : (kv ∘ Value.ref) = kf := rfl
      rw [e3, kfq] at this
      exact this
    · rw [ys2, List.pairwise_map]
      exact g1
    · exact mem
end
end Ps

set_option maxHeartbeats 4000000
/-! PsP12: nets and clusters are made. -/
namespace Ps
open PySem PySem.Spec PyProof.Rows L2
open He (ga ma)
theorem kP_inj {a b : Int × Int} (h : kP a = kP b) : a = b := by
  unfold kP at h
  injection h with h1 h2
  injection h2 with h2 _
  exact Prod.ext (Sum.inl.inj h1) (Sum.inl.inj h2)
/-- the keys of a dict with pairs as keys -/
theorem keys_put {kvs : List (List Key × V)} {qs : List (Int × Int)} {q : Int × Int} {v : V} (h : kvs.map (·.1) = qs.map kP) :
    ∃ qs' : List (Int × Int), (putK kvs (kP q) v).map (·.1) = qs'.map kP ∧ (∀ x, x ∈ qs' ↔ x ∈ qs ∨ x = q) ∧ qs'.length ≤ qs.length + 1 := by
  unfold putK
  by_cases hc : (kvs.any fun kv => decide (kv.1 = kP q)) = true
  · rw [if_pos hc]
    obtain ⟨p, hp, e⟩ := List.any_eq_true.mp hc
    have hm : kP q ∈ qs.map kP := by rw [← h, ← of_decide_eq_true e]; exact List.mem_map.mpr ⟨p, hp, rfl⟩
    obtain ⟨q', hq', e'⟩ := List.mem_map.mp hm
    have hq : q ∈ qs := by rw [← kP_inj e']; exact hq'
    refine ⟨qs, ?_, fun x => ⟨fun hx => .inl hx, fun hx => hx.elim id fun e => by rw [e]; exact hq⟩, Nat.le_succ _⟩
    rw [List.map_map, ← h]
    refine List.map_congr_left fun p _ => ?_
    show (if p.1 = kP q then (p.1, v) else p).1 = p.1
    split <;> rfl
  · rw [if_neg hc]
    refine ⟨qs ++ [q], by rw [List.map_append, h, List.map_append]; rfl, fun x => by rw [List.mem_append, List.mem_singleton], by rw [List.length_append]; exact Nat.le_refl _⟩
theorem nt_own {a : Addr} : NT (.own a) := fun _ z => nomatch z
section
variable {P : Program} {w : World} {K : PySem.W.Frag} {mg : Str → Option Value} {base : Heap}
/-! ### _check_count, _is_below -/
def spCkC : Sp := fun vs H Q _ => ∃ n : Nat, vs = [.int (n : Int)] ∧ 0 < n ∧ n ≤ 24 ∧ Q .non H
abbrev N__check_count : List Str := ["count"]
theorem sc__check_count : FnScope N__check_count ["count"] (defScope (top 33)) := ⟨rfl, rfl, rfl, by decide +kernel, rfl, by decide +kernel, by decide +kernel⟩
theorem d__check_count (T : TxC P K mg) : Def P w K mg base CX0 1 "_check_count" ["count"] spCkC := by
  refine T.toTxt.def0 (i := 33) (j := 17) (N := N__check_count) rfl sc__check_count (fun vs H Q E h => ?_) (fun _ _ _ _ _ _ us hl => match us, hl with | [_], _ => rfl) (fun f cdv A outer s H vs Q E hr h => ?_)
  · obtain ⟨_, rfl, _⟩ := h
    rfl
  · obtain ⟨n, rfl, n0, n1, hQ⟩ := h
    obtain ⟨u, cv⟩ := T.mostN
    refine ⟨_, (pss_one (ps_if (PW.pt (pw_or (pt_cmpR op_lt (pv 0) pe_int (nomark _)) (pw_or1 (pt_cmpR op_gt (pv 0) (ClX.pe_cval (pe_glob (v := .ref (aN K)) (by rfl) (T.gl "Net" (by decide)) rfl)) (nomark _)))))
 (pss_one ps_never)
 pss_nil)), ?_⟩
    refine ⟨_, rfl, _, 1, rfl, rfl, _, rfl, iteD (fun h => absurd h (by omega)) fun _ => ?_⟩
    exact ⟨_, rfl, _, _, _, u, rfl, T.rdN, cv, _, 24, rfl, rfl, _, rfl, iteD (fun h => absurd h (by omega)) fun _ => hQ⟩
def spBelow : Sp := fun vs H Q _ => ∃ a n : Int, vs = [.int a, .int n] ∧ Q (.bl (decide (0 ≤ a) && decide (a < n))) H
abbrev N__is_below : List Str := ["number", "count"]
theorem sc__is_below : FnScope N__is_below ["number", "count"] (defScope (top 34)) := ⟨rfl, rfl, rfl, by decide +kernel, rfl, by decide +kernel, by decide +kernel⟩
theorem d__is_below (T : Txt K mg) : Def P w K mg base CX0 1 "_is_below" ["number", "count"] spBelow := by
  refine T.def0 (i := 34) (j := 18) (N := N__is_below) rfl sc__is_below (fun vs H Q E h => ?_) (fun _ _ _ _ _ _ us hl => match us, hl with | [_, _], _ => rfl) (fun f cdv A outer s H vs Q E hr h => ?_)
  · obtain ⟨_, _, rfl, _⟩ := h
    rfl
  · obtain ⟨a, n, rfl, hQ⟩ := h
    refine ⟨_, (pss_one (ps_ret (pe_chain op_le op_lt pe_int (pv 0) (pv 1)))), ?_⟩
    refine ⟨_, rfl, 0, a, rfl, rfl, _, rfl, iteD (fun h => ?_) fun h => ?_⟩
    · rw [decide_eq_true h, Bool.true_and] at hQ
      exact ⟨_, rfl, a, n, rfl, rfl, hQ⟩
    · rw [decide_eq_false h, Bool.false_and] at hQ
      exact hQ
/-! ### Net.__init__ -/
def spNetI (K : PySem.W.Frag) : Sp := fun vs H Q _ => ∃ (x dx lk : Addr) (n : Nat) (ps : List (Addr × Int × Int)), vs = [.ref x, .int (n : Int), .ref lk] ∧ H x = some (.ins (aN K) dx []) ∧ SL H lk gP ps ∧ (∀ z ∈ ps, LinkOk n z.2) ∧ 0 < n ∧ n ≤ 20 ∧ ps.length ≤ 20000 ∧
  ∀ (l : Addr) (ls : List (Addr × Int × Int)) H', NetAt K H' x n l ls → (ls.map (·.2)).Pairwise Lex → (∀ q, q ∈ ls.map (·.2) ↔ q ∈ ps.map (·.2)) → ls.length ≤ 20000 → Kp [x] H H' → Q .non H'
abbrev N_Net___init__ : List Str := ["self", "count", "links", "linked", "source", "reader"]
theorem sc_Net___init__ : FnScope N_Net___init__ ["self", "count", "links"] (defScope (inClass (top 32) 1)) := ⟨rfl, rfl, rfl, by decide +kernel, rfl, by decide +kernel, by decide +kernel⟩
theorem d_net (T : TxC P K mg) : DefM P w K mg base CX0 2 (ma K (aN K) "__init__") ["self", "count", "links"] (spNetI K) := by
  have D__check_count := d__check_count (w := w) (base := base) T
  have D__is_below := d__is_below (P := P) (w := w) (base := base) T.toTxt
  refine T.toTxt.meth (C := "Net") (m := "__init__") (q := "Net.__init__") (i := 32) (l := 1) (j := 37) (N := N_Net___init__) rfl sc_Net___init__ (fun vs H Q E h => ?_) (fun _ _ _ _ _ _ us hl => match us, hl with | [_, _, _], _ => rfl) (fun f cdv A outer s H vs Q E hr h => ?_)
  · obtain ⟨_, _, _, _, _, rfl, _⟩ := h
    rfl
  · obtain ⟨x, dx, lk, n, ps, rfl, hx, hL, ok, n0, n1, pl, hQ⟩ := h
    have na : ∀ f ∈ (["count", "_linked", "_links"] : List Str), NoAttr K (aN K) f := T.naN
    refine ⟨_, (pss_cons (ps_expr (pe_fn D__check_count (hr.mono (by first | decide | omega)) (pa_cons (pv 1) pa_nil)))
 (pss_cons (ps_set (i := 3) sc_Net___init__.nd rfl (Or.inl rfl) pe_dnewT)
 (pss_cons (ps_for PassesOwn.never rfl (pi_list (pv 2)) (pg_tup (by rfl) (pgs_cons (pg_name (i := 4) sc_Net___init__.nd rfl (Or.inl rfl)) (pgs_cons (pg_name (i := 5) sc_Net___init__.nd rfl (Or.inl rfl)) pgs_nil)))
 (pss_cons (ps_if (PW.pt (pw_or (pt_cmpR op_eq (pv 4) (pv 5) (nomark _)) (pw_or (pt_not (pt_val (pe_fn D__is_below (hr.mono (by first | decide | omega)) (pa_cons (pv 4) (pa_cons (pv 1) pa_nil))))) (pw_or1 (pt_not (pt_val (pe_fn D__is_below (hr.mono (by first | decide | omega)) (pa_cons (pv 5) (pa_cons (pv 1) pa_nil)))))))))
 (pss_one ps_never)
 pss_nil)
 (pss_one (ps_dput (hu_of hr) (pv 3) (pe_tup (pa_cons (pv 4) (pa_cons (pv 5) pa_nil))) pe_bl rfl))))
 (pss_cons (ps_fld (pv 0) (pv 1) rfl)
 (pss_cons (ps_fld (pv 0) (pv 3) rfl)
 (pss_one (ps_fld (pv 0) (pe_callB (cr_sortedDT rfl) (by rfl) (T.n 6 _ rfl) (by decide +kernel) (pa_cons (pv 3) pa_nil)) rfl))))))), ?_⟩
    refine ⟨_, rfl, n, rfl, n0, by omega, fun d hd => ?_⟩
    refine ⟨_, rfl, lk, rfl, ⟨_, (hL.upN hd).sq⟩, for_list (K := K) (a := lk) (xs := ps.map fun z => V.ref z.1) (fun i σ H' => ∃ (v4 v5 : Option V) (kvs : List (List Key × V)) (qs : List (Int × Int)), σ = [some (.ref x), some (.int (n : Int)), some (.ref lk), some (.ref d), v4, v5] ∧ Kp [] H H' ∧ H' d = some (.dT kvs) ∧ kvs.map (·.1) = qs.map kP ∧ (∀ q, q ∈ qs ↔ q ∈ (ps.map (·.2)).take i) ∧ qs.length ≤ i) ?_ ?_ ?_ ?_⟩
    · exact ⟨none, none, [], [], rfl, Kp.new hd, upd_same, rfl, fun q => by simp, Nat.le_refl _⟩
    · rintro i σ H' _ ⟨_, _, _, _, _, e, _⟩
      exact (hL.kp0 e fun _ => nt_gP).sq
    · rintro i y σ H1 hi ⟨v4, v5, kvs, qs, rfl, E1, hD, hk, hm, ql⟩
      obtain ⟨z, hz, rfl⟩ := map_ref_at hi
      have hzm := List.mem_of_getElem? hz
      have il : i < ps.length := (List.getElem?_eq_some_iff.mp hz).1
      have ht : H1 z.1 = some (gP z.2) := (hL.kp0 E1 fun _ => nt_gP).all z hzm
      obtain ⟨a1, a2, a3, a4, a5⟩ := ok z hzm
      have kl : kvs.length = qs.length := by have := congrArg List.length hk; rwa [List.length_map, List.length_map] at this
      refine ⟨z.1, _, rfl, SqT.of ht, rfl, _, _, rfl, _, _, rfl, rfl, ?_⟩
      refine ⟨_, rfl, _, rfl, rfl, _, rfl, iteD (fun h => absurd (V.int.inj h) a5) fun _ => ?_⟩
      refine ⟨_, rfl, _, rfl, _, _, rfl, _, rfl, ?_⟩
      rw [decide_eq_true a1, decide_eq_true a2]
      refine ⟨_, rfl, _, rfl, _, _, rfl, _, rfl, ?_⟩
      rw [decide_eq_true a3, decide_eq_true a4]
      refine ⟨_, rfl, _, rfl, _, rfl, by show 2 ≤ sizeLine; decide, fun t ht2 => ?_⟩
      have ndt : d ≠ t := ne_of_none hD ht2
      refine ⟨d, _, rfl, .inr ⟨kvs, kP z.2, t, by rw [upd_ne ndt]; exact hD, rfl, upd_same, small (by omega), rfl⟩, ?_⟩
      obtain ⟨qs', g1, g2, g3⟩ := keys_put (q := z.2) (v := .bl true) hk
      refine ⟨_, _, _, qs', rfl, (E1.mut (E1.f t ht2)).mut hd, upd_same, g1, fun q => ?_, by omega⟩
      rw [g2, hm, List.take_succ, List.getElem?_map, hz, List.mem_append]
      exact or_congr Iff.rfl (by simp)
    · rintro σ H1 ⟨v4, v5, kvs, qs, rfl, E1, hD, hk, hm, ql⟩
      rw [List.length_map] at hm ql
      rw [List.take_of_length_le (by rw [List.length_map]; exact Nat.le_refl _)] at hm
      have hx1 := E1.k _ _ hx nil_not nt_ins
      refine ⟨_, rfl, _, rfl, x, _, dx, _, rfl, hx1, T.clN, na _ (by decide), by show 0 < 1000; decide, ?_⟩
      refine ⟨_, rfl, _, rfl, x, _, dx, _, rfl, upd_same, T.clN, na _ (by decide), by show 1 < 1000; decide, ?_⟩
      have dx_ : d ≠ x := fun e => by rw [e, hx1] at hD; cases hD
      have E3 : Kp [x] H (upd (upd H1 x (.ins (aN K) dx (putF ("count" : Str) (.int (n : Int)) []))) x (.ins (aN K) dx (putF ("_linked" : Str) (.ref d) (putF ("count" : Str) (.int (n : Int)) [])))) := (E1.up.set (List.mem_singleton.mpr rfl) hx nt_ins).set (List.mem_singleton.mpr rfl) hx nt_ins
      have hx3 : (upd (upd H1 x (.ins (aN K) dx (putF ("count" : Str) (.int (n : Int)) []))) x (.ins (aN K) dx (putF ("_linked" : Str) (.ref d) (putF ("count" : Str) (.int (n : Int)) [])))) x = some (.ins (aN K) dx (putF ("_linked" : Str) (.ref d) (putF ("count" : Str) (.int (n : Int)) []))) := upd_same
      have hD3 : (upd (upd H1 x (.ins (aN K) dx (putF ("count" : Str) (.int (n : Int)) []))) x (.ins (aN K) dx (putF ("_linked" : Str) (.ref d) (putF ("count" : Str) (.int (n : Int)) [])))) d = some (.dT kvs) := by rw [upd_ne dx_, upd_ne dx_]; exact hD
      generalize upd (upd H1 x (.ins (aN K) dx (putF ("count" : Str) (.int (n : Int)) []))) x (.ins (aN K) dx (putF ("_linked" : Str) (.ref d) (putF ("count" : Str) (.int (n : Int)) []))) = H3 at E3 hx3 hD3
      refine ⟨_, rfl, d, kvs, qs, rfl, .inl hD3, hk, fun ys p perm pw mem hp => ?_⟩
      have px : x ≠ p := ne_of_none hx3 hp
      refine ⟨_, rfl, x, _, dx, _, rfl, by rw [upd_ne px]; exact hx3, T.clN, na _ (by decide), by show 2 < 1000; decide, ?_⟩
      have yl : ys.length = qs.length := by have := perm.length_eq; rwa [List.length_map] at this
      refine hQ p ys _ ⟨⟨dx, _, upd_same, rfl, rfl, rfl⟩, ⟨by rw [upd_ne px.symm, upd_same], fun z hz => ?_⟩⟩ (pw.imp fun {a b} h => ?_) (fun q => by rw [perm.mem_iff, hm]) (by omega) ((E3.trans (Kp.new hp)).set (List.mem_singleton.mpr rfl) hx nt_ins)
      · have hz3 := mem z hz
        have zx : z.1 ≠ x := fun e => by rw [e, hx3] at hz3; cases hz3
        rw [upd_ne zx, upd_ne (ne_of_none hz3 hp)]
        exact hz3
      · have := SrtO.lexB_no.mp h
        unfold Lex
        omega
end
end Ps

set_option maxHeartbeats 4000000
/-! PsP13: clusters are made. -/
namespace Ps
open PySem PySem.Spec PyProof.Rows L2
open He (ga ma)
section
variable {P : Program} {w : World} {K : PySem.W.Frag} {mg : Str → Option Value} {base : Heap}
def spCluI (K : PySem.W.Frag) : Sp := fun vs H Q _ => ∃ (x dx b ho lk : Addr) (n : Nat) (ps : List (Addr × Int × Int)) (owners : List Int), vs = [.ref x, .ref b, .ref ho] ∧ H x = some (.ins (aC K) dx []) ∧ NetAt K H b n lk ps ∧ IL H ho owners ∧ (∀ o ∈ owners, 0 ≤ o ∧ o < (n : Int)) ∧ owners.length ≤ 20 ∧
  ∀ H', Clu K H' x b n lk ps owners → Kp [x] H H' → Q .non H'
abbrev N_Cluster___init__ : List Str := ["self", "net", "homes", "entry", "home"]
theorem sc_Cluster___init__ : FnScope N_Cluster___init__ ["self", "net", "homes"] (defScope (inClass (top 36) 1)) := ⟨rfl, rfl, rfl, by decide +kernel, rfl, by decide +kernel, by decide +kernel⟩
theorem d_cluster (T : TxC P K mg) : DefM P w K mg base CX0 1 (ma K (aC K) "__init__") ["self", "net", "homes"] (spCluI K) := by
  refine T.toTxt.meth (C := "Cluster") (m := "__init__") (q := "Cluster.__init__") (i := 36) (l := 1) (j := 38) (N := N_Cluster___init__) rfl sc_Cluster___init__ (fun vs H Q E h => ?_) (fun _ _ _ _ _ _ us hl => match us, hl with | [_, _, _], _ => rfl) (fun f cdv A outer s H vs Q E hr h => ?_)
  · obtain ⟨_, _, _, _, _, _, _, _, rfl, _⟩ := h
    rfl
  · obtain ⟨x, dx, b, ho, lk, n, ps, owners, rfl, hx, C, hO, oo, ol, hQ⟩ := h
    obtain ⟨u, cv⟩ := T.mostC
    have na : ∀ f ∈ (["net", "size", "_homes"] : List Str), NoAttr K (aC K) f := T.naC
    have nN : ∀ f ∈ (["count", "_linked", "_links"] : List Str), NoAttr K (aN K) f := T.naN
    obtain ⟨dx2, fs2, d1, d2, d3, d4⟩ := id C.ex
    refine ⟨_, (pss_cons (ps_if (pt_cmpR op_gt (pe_callB call_len_seq (by rfl) (T.n 0 _ rfl) (by decide +kernel) (pa_cons (pv 2) pa_nil)) (ClX.pe_cval (pe_glob (v := .ref (aC K)) (by rfl) (T.gl "Cluster" (by decide)) rfl)) (nomark _))
 (pss_one ps_never)
 pss_nil)
 (pss_cons (ps_for PassesOwn.never rfl (pi_enum (by rfl) (T.n 3 _ rfl) (pa_cons (pv 2) pa_nil)) (pg_tup (by rfl) (pgs_cons (pg_name (i := 3) sc_Cluster___init__.nd rfl (Or.inl rfl)) (pgs_cons (pg_name (i := 4) sc_Cluster___init__.nd rfl (Or.inl rfl)) pgs_nil)))
 (pss_one (ps_if (PW.pt (pw_or (pt_cmpR op_lt (pv 4) pe_int (nomark _)) (pw_or1 (pt_cmpR op_ge (pv 4) (pe_fld (pv 1) rfl) (nomark _)))))
 (pss_one ps_never)
 pss_nil)))
 (pss_cons (ps_fld (pv 0) (pv 1) rfl)
 (pss_cons (ps_fld (pv 0) (pe_callB call_len_seq (by rfl) (T.n 0 _ rfl) (by decide +kernel) (pa_cons (pv 2) pa_nil)) rfl)
 (pss_one (ps_fld (pv 0) (pe_callTy call_list_of (by rfl) (T.n 1 _ rfl) (by decide +kernel) (pa_cons (pv 2) pa_nil)) rfl)))))), ?_⟩
    refine ⟨_, rfl, ho, _, rfl, .inl hO.sq, _, _, _, u, rfl, T.rdC, cv, _, 60, rfl, rfl, _, rfl, iteD (fun h => absurd h (by rw [List.length_map]; omega)) fun _ => ?_⟩
    refine ⟨_, rfl, ho, _, rfl, hO.sq, for_it (n := (owners.map V.int).length) walk_enum (fun i σ H' => ∃ v3 v4, σ = [some (.ref x), some (.ref b), some (.ref ho), v3, v4] ∧ Kp [] H H') ?_ ?_ ?_ ?_⟩
    · exact ⟨none, none, rfl, Kp.refl H⟩
    · rintro i σ H' _ ⟨_, _, _, e⟩
      exact (hO.kp0 e).sq
    · rintro i y σ H1 H2 hi ⟨v3, v4, rfl, E1⟩ ⟨t, x1, x2, rfl, ht, rfl, e1, e2⟩
      cases e1
      obtain ⟨o, hoo, rfl⟩ := map_int_at e2
      obtain ⟨o0, o1⟩ := oo o (List.mem_of_getElem? hoo)
      have E2 : Kp [] H (upd H1 t (.tup [.int (i : Nat), .int o])) := E1.mut (E1.f t ht)
      have htt : (upd H1 t (.tup [.int (i : Nat), .int o])) t = some (.tup [.int (i : Nat), .int o]) := upd_same
      generalize upd H1 t (.tup [.int (i : Nat), .int o]) = H2 at E2 htt
      refine ⟨t, _, rfl, SqT.of htt, rfl, _, _, rfl, _, _, rfl, rfl, ?_⟩
      refine ⟨_, rfl, o, 0, rfl, rfl, _, rfl, iteD (fun h => absurd h (by omega)) fun _ => ?_⟩
      exact ⟨_, rfl, _, rfl, b, _, dx2, fs2, _, rfl, E2.k _ _ d1 nil_not nt_ins, T.clN, nN _ (by decide), d2, o, _, rfl, rfl, _, rfl, iteD (fun h => absurd h (by omega)) fun _ => ⟨_, _, rfl, E2⟩⟩
    · rintro σ H1 ⟨v3, v4, rfl, E1⟩
      have hx1 := E1.k _ _ hx nil_not nt_ins
      have hO1 := hO.kp0 E1
      refine ⟨_, rfl, _, rfl, x, _, dx, _, rfl, hx1, T.clC, na _ (by decide), by show 0 < 1000; decide, ?_⟩
      have hox : ho ≠ x := fun e => by unfold IL at hO1; rw [e, hx1] at hO1; cases hO1
      have hO2 : IL (upd H1 x (.ins (aC K) dx (putF ("net" : Str) (.ref b) []))) ho owners := hO1.up hox
      have hx2 : (upd H1 x (.ins (aC K) dx (putF ("net" : Str) (.ref b) []))) x = some (.ins (aC K) dx (putF ("net" : Str) (.ref b) [])) := upd_same
      have E2 : Kp [x] H (upd H1 x (.ins (aC K) dx (putF ("net" : Str) (.ref b) []))) := E1.up.set (List.mem_singleton.mpr rfl) hx nt_ins
      generalize upd H1 x (.ins (aC K) dx (putF ("net" : Str) (.ref b) [])) = H2 at hO2 hx2 E2
      refine ⟨_, rfl, ho, _, rfl, .inl hO2.sq, _, rfl, x, _, dx, _, rfl, hx2, T.clC, na _ (by decide), by show 1 < 1000; decide, ?_⟩
      rw [List.length_map]
      have hO3 : IL (upd H2 x (.ins (aC K) dx (putF ("size" : Str) (.int (owners.length : Int)) (putF ("net" : Str) (.ref b) [])))) ho owners := hO2.up hox
      have hx3 : (upd H2 x (.ins (aC K) dx (putF ("size" : Str) (.int (owners.length : Int)) (putF ("net" : Str) (.ref b) [])))) x = some (.ins (aC K) dx (putF ("size" : Str) (.int (owners.length : Int)) (putF ("net" : Str) (.ref b) []))) := upd_same
      have E3 : Kp [x] H (upd H2 x (.ins (aC K) dx (putF ("size" : Str) (.int (owners.length : Int)) (putF ("net" : Str) (.ref b) [])))) := E2.set (List.mem_singleton.mpr rfl) hx nt_ins
      generalize upd H2 x (.ins (aC K) dx (putF ("size" : Str) (.int (owners.length : Int)) (putF ("net" : Str) (.ref b) []))) = H3 at hO3 hx3 E3
      refine ⟨_, rfl, ho, _, rfl, .inl hO3.sq, fun p hp => ?_⟩
      have px : x ≠ p := ne_of_none hx3 hp
      refine ⟨_, rfl, x, _, dx, _, rfl, by rw [upd_ne px]; exact hx3, T.clC, na _ (by decide), by show 2 < 1000; decide, ?_⟩
      have E4 : Kp [x] H (upd (upd H3 p (.lst (owners.map V.int))) x (.ins (aC K) dx (putF ("_homes" : Str) (.ref p) (putF ("size" : Str) (.int (owners.length : Int)) (putF ("net" : Str) (.ref b) []))))) := (E3.trans (Kp.new hp)).set (List.mem_singleton.mpr rfl) hx nt_ins
      have bx : b ≠ x := fun e => by
        rw [e, hx] at d1
        injection d1 with d1
        injection d1 with d1 _ d1'
        rw [← d1'] at d2
        cases d2
      have hp4 : IL (upd (upd H3 p (.lst (owners.map V.int))) x (.ins (aC K) dx (putF ("_homes" : Str) (.ref p) (putF ("size" : Str) (.int (owners.length : Int)) (putF ("net" : Str) (.ref b) []))))) p owners := by
        show upd _ _ _ _ = _
        rw [upd_ne px.symm, upd_same]
      refine hQ _ ⟨⟨dx, _, p, upd_same, rfl, rfl, rfl, rfl, hp4⟩, ⟨⟨dx2, fs2, E4.k _ _ d1 (fun h => bx (List.mem_singleton.mp h)) nt_ins, d2, d3, d4⟩, C.sl.kp E4 (fun h => ?_) (fun z hz h => ?_) (fun _ => nt_gP)⟩⟩ E4
      · have := C.sl.at_
        rw [List.mem_singleton.mp h, hx] at this
        cases this
      · have := C.sl.all z hz
        rw [List.mem_singleton.mp h, hx] at this
        cases this
end
end Ps

set_option maxHeartbeats 4000000
/-! PsIsE: isinstance(e, C), e a caught error with or without a dict of its own. -/
namespace Ps
open PySem PySem.Spec PyProof.Rows L2
open PySem.W PySem.Calls
section
variable {prog : Program} {w : World} {A : Around} {E : Value → Shared → Prop} {s : Shared} {K : Frag} {x D : Addr} {ox : Obj} {od : Option Obj}
/-- __class__ of an instance of an error class -/
theorem exc_class {Q : Option Value → Shared → Prop} (C : ExcC K D) (X : K.In s.heap) (I : InstAt s.heap x ox D od) (h : Q (some (.ref D)) { s with toks := s.toks + 1 }) : wpAny (model prog w) A (getAttr? (.ref x) "__class__") Q E s := by
  have hcl : (clsIn K D).isSome = true := by obtain ⟨cd, hc, _⟩ := any_some C.hd; rw [hc]; rfl
  have hf : findObj K D od "__class__" = some (.bind (.builtin "getset_descriptor.__get__") (.builtin "object.__class__")) := by
    cases od with
    | none => exact findObj_dataN hcl C.ha C.hn C.ht
    | some o => exact findObj_data hcl C.ha C.hn C.ht
  obtain ⟨hp, g, d, t, os⟩ := s
  have L0 := I.type (M := model prog w)
  have L1 := looks_findIn (M := model prog w) X C.hg
  have L2 := looks_findIn (M := model prog w) X C.hk
  have L3 := looks_find (M := model prog w) X I hf
  have sub : Looks (model prog w) hp (isInstance (.ref x) (.type "BaseException")) true := L0.andThen (looks_subIn X C.hs)
  have hx0 : (false && onTheHeap (Value.builtin "BaseException.__getattribute__")) = false := rfl
  have hx2 : (Value.builtin "BaseException.__getattribute__" == Value.builtin "object.__getattribute__") = false := by decide +kernel
  have hx1 : (onTheHeap (Value.ref D) && Value.builtin "BaseException.__getattribute__" == Value.builtin "object.__getattribute__") = false := by rw [hx2]; rfl
  unfold getAttr? getAttrBy? getAttrBy
  refine wpAny_bind (wpAny_mkText (wpAny_bind (wpAny_attempt (wpAny_holding (wpAny_bind (L0.at (wpAny_bind (L1.at ?_))))))))
  show wpAny _ _ (if (onTheHeap (Value.ref D) && Value.builtin "BaseException.__getattribute__" == Value.builtin "object.__getattribute__") = true then _ else _) _ _ _
  rw [hx1, if_neg Bool.false_ne_true]
  unfold getAttrByItsOwn hookBefore
  refine wpAny_bind ?_
  rw [if_pos (show onTheHeap (Value.ref D) = true from rfl)]
  refine L2.at ?_
  refine wpAny_bind (wpAny_attempt (wpAny_holding ?_))
  unfold callGetattribute
  rw [hx0, if_neg Bool.false_ne_true]
  unfold boundAndCalled
  rw [PySem.F.excAttr_ValueError.ga.bind (.ref x)]
  refine wpAny_bind (wpAny_pure ?_)
  show wpAny _ _ (call (.builtin "BaseException.__getattribute__") [.ref x, .str "__class__" t]) _ _ _
  refine wpAny_call (codeAny_call_builtin PySem.F.excAttr_ValueError.ga.plain PySem.F.entry_bexc_ga ?_)
  refine @check_slot (model prog w) _ _ ⟨hp, g, d, t + 1, os⟩ "BaseException.__getattribute__" "BaseException" "__getattribute__" (.ref x) [.str "__class__" t] [] _ (by decide +kernel) (by decide +kernel) sub (PySem.F.args_bexc_ga (.ref x) (.str "__class__" t)) ?_
  unfold Builtin.«object.__getattribute__»
  refine wpAny_bind (wpAny_of_eq (a := ((Value.ref x : Value), [Value.str "__class__" t])) (by first | rfl | (simp only [slotArgs]; rfl)) ?_)
  refine wpAny_bind (wpAny_pure (wpAny_bind (L0.at (wpAny_bind (L3.at ?_)))))
  show wpAny _ _ (holding [Value.builtin "object.__class__"] (call (.builtin "getset_descriptor.__get__") [.builtin "object.__class__", .ref x, .ref D]) >>= ret) _ _ _
  refine wpAny_bind (wpAny_holding (wpAny_call (class_get (s := ⟨hp, g, d, t + 1, os⟩) (ox := ox) (od := od) X I C.hm ?_)))
  refine wpAny_pure ?_
  show wpAny _ _ (handedOut (.ref D)) _ _ _
  rw [handedOut_of (v := .ref D) rfl]
  first
    | exact wpAny_pure (wpAny_pure h)
    | exact wpAny_pure h
    | exact wpAny_pure (wpAny_bind (wpAny_pure (wpAny_pure h)))
theorem kit_exc (C : ExcC K D) : KitX K (.ref x) (.ref D) (fun h => InstAt h x ox D od) where
  ty := fun _ _ _ I => I.type
  it := fun _ _ X _ => by
    obtain ⟨cdD, hcD, _⟩ := any_some C.hd
    unfold clsIn at hcD
    split at hcD
    · rename_i c' d' cd' sl' ho
      intro A' Q' E' s' k q
      unfold isType loadHead
      exact wpAny_bind (wpAny_loadPart (k _ _ (X _ _ ho)) (wpAny_pure q))
    · cases hcD
  ne := fun h tp dd its n sl X htp => by
    obtain ⟨cdD, hcD, _⟩ := any_some C.hd
    refine Bool.eq_false_iff.mpr fun q => ?_
    have e : D = tp := Value.ref.inj (beq_iff_eq.mp q)
    subst e
    unfold clsIn at hcD
    split at hcD
    · rename_i c' d' cd' sl' ho
      have z := (X _ _ ho).symm.trans htp
      cases z
    · cases hcD
  ca := fun X I k => exc_class C X I k
end
/-- isinstance(e, c), e the error that the suite holds -/
def rIsX (K : PySem.W.Frag) (cls : Value) (d : Option Addr) (a : Addr) : List V → Hp → VK → Prop := fun xs H Q => ∃ (c : V) (cv : Value) (b : Bool) (D : Addr), xs = [.ref a, c] ∧ (∀ u, RelV c u → u = cv) ∧ cls = .ref D ∧ ExcC K D ∧ (∀ dd, d = some dd → ∃ fs, H dd = some (.xd fs)) ∧ PySem.W.kitOne K (.ref D) cv = some b ∧ Q (.bl b) H
theorem call_isX {X : Cx} {a : Addr} {oe : Obj} {cls : Value} {d : Option Addr} {pn : List (Addr × Obj)} (hz : Zc cls d oe) (hf : ∃ vs, oe.data = .fields vs) : CallR (X.suite a ((a, oe) :: pn)) (.builtin "isinstance") (rIsX X.K cls d a) := by
  intro pins s σ H xs us Q I r h
  obtain ⟨c, cv, b, D, rfl, hcv, rfl, C, hdd, e, q⟩ := h
  cases r with
  | cons rx rr =>
    cases rr with
    | cons rt rr =>
      cases rr
      cases rx
      have ec := hcv _ rt
      subst ec
      obtain ⟨hget, _⟩ := I.pin (a, oe) (List.mem_append.mpr (.inl List.mem_cons_self))
      obtain ⟨vs, hv⟩ := hf
      have J : ∃ od, PySem.W.InstAt s.heap a oe D od := by
        obtain ⟨oc, od, oda, osl⟩ := oe
        obtain ⟨h1, h2⟩ := hz
        dsimp only at h1 h2 hv
        subst h1 h2 hv
        cases od with
        | none => exact ⟨none, hget, rfl, rfl, trivial⟩
        | some dd =>
          obtain ⟨fs, hx⟩ := hdd dd rfl
          obtain ⟨mA, hns, hr⟩ := (show ObjOk X.prog X.w H s.heap dd (.xd fs) from I.hok dd _ hx)
          obtain ⟨od, ho, hl⟩ := lookIn_ns hns
          exact ⟨some od, hget, rfl, rfl, ho⟩
      obtain ⟨od, J⟩ := J
      exact PySem.W.kia_one (kit_exc C) I.kIn J e (fun z => nomatch z) fun tk => ⟨.bl b, H, I.kept (t' := tk) fun _ _ z => z, rfl, q⟩
end Ps

set_option maxHeartbeats 4000000
/-! PsL1: the law asks the program. -/
namespace Ps
open PySem PySem.Spec PyProof.Rows L2
open He (ga ma)
/-- what the top has left of the errors -/
structure TxE (P : Program) (K : PySem.W.Frag) (mg : Str → Option Value) : Prop extends TxC P K mg where
  exL : ExcC K (aL K)
  exS : ExcC K (aS K)
  mL : PySem.W.exmOne K (.ref (aL K)) (.ref (aE K)) = some true
  mS : PySem.W.exmOne K (.ref (aS K)) (.ref (aE K)) = some true
  kSS : PySem.W.kitOne K (.ref (aS K)) (.ref (aS K)) = some true
  kSL : PySem.W.kitOne K (.ref (aS K)) (.ref (aL K)) = some false
  kLS : PySem.W.kitOne K (.ref (aL K)) (.ref (aS K)) = some false
  kLL : PySem.W.kitOne K (.ref (aL K)) (.ref (aL K)) = some true
  kSV : PySem.W.kitOne K (.ref (aS K)) (.type "ValueError") = some true
  kLV : PySem.W.kitOne K (.ref (aL K)) (.type "ValueError") = some true
theorem relRef {a : Addr} : ∀ u, RelV (.ref a) u → u = .ref a := fun _ h => h
theorem relTy {x : String} : ∀ u, RelV (.ty x) u → u = .type x := fun _ h => h
section
variable {P : Program} {w : World} {K : PySem.W.Frag} {mg : Str → Option Value} {base : Heap} {Pt : Addr}
def tIsX (K : PySem.W.Frag) (a : Addr) (cls : Value) (d : Option Addr) (c : V) : TE := tCB (rIsX K cls d a) (tCons (tVar 3) (tCons (tC c) tNil))
def tsTold (K : PySem.W.Frag) : Addr → Value → Option Addr → TS := fun a cls d => tSeq (tAsg (tLst (tCons (tIsX K a cls d (.ref (aS K))) (tCons (tIsX K a cls d (.ref (aL K))) tNil))) (gName 4))
  (tSeq (tIfS (tAnd (tB (tIsX K a cls d (.ty "ValueError"))) (tTest (tOp (rEqD K) (tVar 4) (tLst (tCons (tC (.bl true)) (tCons (tC (.bl false)) tNil)))))) (tRet (tLst (tCons (tC (.str "strong")) tNil))) tNext)
    (tIfS (tAnd (tB (tIsX K a cls d (.ty "ValueError"))) (tTest (tOp (rEqD K) (tVar 4) (tLst (tCons (tC (.bl false)) (tCons (tC (.bl true)) tNil)))))) (tRet (tLst (tCons (tC (.str "logs")) (tCons (tXf a cls d (aL K) "replica" (tVar 3)) tNil)))) tNext))
def dB (b c : Bool) : PyData := .list [.bool b, .bool c]
theorem dB_shaped (b c : Bool) : SeqAt.shaped (dB b c) = true := by cases b <;> cases c <;> decide +kernel
theorem dB_eqv (b c b' c' : Bool) : PyData.eqv (dB b c) (dB b' c') = (b == b' && c == c') := by cases b <;> cases c <;> cases b' <;> cases c' <;> decide +kernel
theorem dp_B {H : Hp} {l : Addr} {b c : Bool} (h : H l = some (.lst [.bl b, .bl c])) : Dp K H (.ref l) (dB b c) := .lst (SqL.of h) (.cons (.bl b) (.cons (.bl c) .nil))
/-- the suite: NotStrong -/
theorem told_S (T : TxE P K mg) {a cl p : Addr} {ends : Bool} {H : Hp} {D : Ends} (h : ∀ q H', H' q = some (.lst [.str "strong"]) → Kp [] H H' → D.rt (.ref q) H') : tsTold K a (.ref (aS K)) none D [some (.ref cl), some (.ref p), some (.bl ends), some (.ref a), none] H := by
  refine ⟨_, rfl, _, _, _, aS K, rfl, relRef, rfl, T.exS, (fun _ z => nomatch z), T.kSS, _, rfl, _, _, _, aS K, rfl, relRef, rfl, T.exS, (fun _ z => nomatch z), T.kSL, by show 2 ≤ sizeLine; decide, fun l hl => ?_⟩
  have E1 : Kp [] H (upd H l (.lst [.bl true, .bl false])) := Kp.new hl
  have h1 : (upd H l (.lst [.bl true, .bl false])) l = some (.lst [.bl true, .bl false]) := upd_same
  generalize upd H l (.lst [.bl true, .bl false]) = H1 at E1 h1
  refine ⟨_, rfl, _, _, _, aS K, rfl, relTy, rfl, T.exS, (fun _ z => nomatch z), T.kSV, _, rfl, ?_⟩
  refine ⟨_, rfl, by show 2 ≤ sizeLine; decide, fun l2 hl2 => ⟨dB true false, dB true false, dp_B (by rw [upd_ne (ne_of_none h1 hl2)]; exact h1), dp_B upd_same, dB_shaped _ _, dB_shaped _ _, _, rfl, ?_⟩⟩
  rw [dB_eqv]
  refine iteB (fun _ => ?_) fun z => (by cases z)
  exact ⟨by show 1 ≤ sizeLine; decide, fun q hq => h q _ upd_same ((E1.mut (E1.f l2 hl2)).mut (E1.f q (Kp.upf hq).2))⟩
/-- the suite: InvalidLogs -/
theorem told_L (T : TxE P K mg) {a cl p dd : Addr} {ends : Bool} {H : Hp} {D : Ends} {v : V} (hd : H dd = some (.xd [(("replica" : Str), v)])) (h : ∀ q H', H' q = some (.lst [.str "logs", v]) → Kp [] H H' → D.rt (.ref q) H') :
    tsTold K a (.ref (aL K)) (some dd) D [some (.ref cl), some (.ref p), some (.bl ends), some (.ref a), none] H := by
  have dn : ∀ {H' : Hp}, Kp [] H H' → ∀ d', some dd = some d' → ∃ fs, H' d' = some (.xd fs) := fun e d' z => by cases z; exact ⟨_, e.k _ _ hd nil_not nt_xd⟩
  refine ⟨_, rfl, _, _, _, aL K, rfl, relRef, rfl, T.exL, dn (Kp.refl H), T.kLS, _, rfl, _, _, _, aL K, rfl, relRef, rfl, T.exL, dn (Kp.refl H), T.kLL, by show 2 ≤ sizeLine; decide, fun l hl => ?_⟩
  have E1 : Kp [] H (upd H l (.lst [.bl false, .bl true])) := Kp.new hl
  have h1 : (upd H l (.lst [.bl false, .bl true])) l = some (.lst [.bl false, .bl true]) := upd_same
  generalize upd H l (.lst [.bl false, .bl true]) = H1 at E1 h1
  refine ⟨_, rfl, _, _, _, aL K, rfl, relTy, rfl, T.exL, dn E1, T.kLV, _, rfl, ?_⟩
  refine ⟨_, rfl, by show 2 ≤ sizeLine; decide, fun l2 hl2 => ⟨dB false true, dB true false, dp_B (by rw [upd_ne (ne_of_none h1 hl2)]; exact h1), dp_B upd_same, dB_shaped _ _, dB_shaped _ _, _, rfl, ?_⟩⟩
  rw [dB_eqv]
  refine iteB (fun z => (by cases z)) fun _ => ?_
  have E2 : Kp [] H (upd H1 l2 (.lst [.bl true, .bl false])) := E1.mut (E1.f l2 hl2)
  have h2 : (upd H1 l2 (.lst [.bl true, .bl false])) l = some (.lst [.bl false, .bl true]) := by rw [upd_ne (ne_of_none h1 hl2)]; exact h1
  generalize upd H1 l2 (.lst [.bl true, .bl false]) = H2 at E2 h2
  refine ⟨_, rfl, _, _, _, aL K, rfl, relTy, rfl, T.exL, dn E2, T.kLV, _, rfl, ?_⟩
  refine ⟨_, rfl, by show 2 ≤ sizeLine; decide, fun l3 hl3 => ⟨dB false true, dB false true, dp_B (by rw [upd_ne (ne_of_none h2 hl3)]; exact h2), dp_B upd_same, dB_shaped _ _, dB_shaped _ _, _, rfl, ?_⟩⟩
  rw [dB_eqv]
  refine iteB (fun _ => ?_) fun z => (by cases z)
  have E3 : Kp [] H (upd H2 l3 (.lst [.bl false, .bl true])) := E2.mut (E2.f l3 hl3)
  exact ⟨_, rfl, rfl, rfl, dd, _, v, rfl, E3.k _ _ hd nil_not nt_xd, rfl, by show 2 ≤ sizeLine; decide, fun q hq => h q _ upd_same (E3.mut (E3.f q hq))⟩
/-- what the law asks with -/
structure AskIn (K : PySem.W.Frag) (Pt : Addr) (H : Hp) (cl b : Addr) (n : Nat) (lk : Addr) (ps : List (Addr × Int × Int)) (owners : List Int) (p : Addr) (zs : List (Addr × List Int)) : Prop where
  clu : Clu K H cl b n lk ps owners
  sl : SL H p gR zs
  net : NetOk n ps owners
  zl : zs.length ≤ 30
  rl : ∀ z ∈ zs, z.2.length ≤ 2000
  tg : GxR.TabG H Pt
def spTold (K : PySem.W.Frag) (Pt : Addr) : Sp := fun vs H Q _ => ∃ (cl b : Addr) (n : Nat) (lk : Addr) (ps : List (Addr × Int × Int)) (owners : List Int) (p : Addr) (zs : List (Addr × List Int)) (ends : Bool), vs = [.ref cl, .ref p, .bl ends] ∧ AskIn K Pt H cl b n lk ps owners p zs ∧
  (¬ Strong (Lof (ps.map (·.2))) n → ∀ q H', H' q = some (.lst [.str "strong"]) → Kp [] H H' → Q (.ref q) H') ∧
  (Strong (Lof (ps.map (·.2))) n → ∀ v, Bad n owners.length (zs.map (·.2)) v → ∀ q H', H' q = some (.lst [.str "logs", v]) → Kp [] H H' → Q (.ref q) H') ∧
  (Strong (Lof (ps.map (·.2))) n → Valid n owners.length (zs.map (·.2)) → ends = false → ∀ (q T : Addr) (tz : List (Addr × Act)) (fin : Rows) (H' : Hp), H' q = some (.lst [.str "told", .ref T]) → H T = none → SL H' T gA tz → Run (Lof (ps.map (·.2))) (hm owners) owners.length (zs.map (·.2)) (tz.map (·.2)) fin → tz.length ≤ 800 → Kp [] H H' → Q (.ref q) H') ∧
  (Strong (Lof (ps.map (·.2))) n → Valid n owners.length (zs.map (·.2)) → ends = true → ∀ (q D : Addr) (tr : List Act) (fin : Rows) (H' : Hp), H' q = some (.lst [.str "told", .ref D]) → Lg H H' D fin → Run (Lof (ps.map (·.2))) (hm owners) owners.length (zs.map (·.2)) tr fin → Kp [] H H' → Q (.ref q) H')
abbrev N__law_told : List Str := ["_law_cluster", "_law_rows_here", "_law_ends", "e", "_law_kinds"]
theorem sc__law_told : FnScope N__law_told ["_law_cluster", "_law_rows_here", "_law_ends"] (defScope (top 52)) := ⟨rfl, rfl, rfl, by decide +kernel, rfl, by decide +kernel, by decide +kernel⟩
theorem d__law_told (T : TxE P K mg) (TB : GxR.TabB base mg (cIs K) Pt) : Def P w K mg base CX0 7 "_law_told" ["_law_cluster", "_law_rows_here", "_law_ends"] (spTold K Pt) := by
  have D_finish := d_finish (w := w) T.toTxC TB
  have D_finished_logs := d_finished_logs (w := w) T.toTxC TB
  refine T.toTxt.def0 (i := 52) (j := 33) (N := N__law_told) rfl sc__law_told (fun vs H Q E h => ?_) (fun _ _ _ _ _ _ us hl => match us, hl with | [_, _, _], _ => rfl) (fun f cdv A outer s H vs Q E hr h => ?_)
  · obtain ⟨_, _, _, _, _, _, _, _, _, rfl, _⟩ := h
    rfl
  · obtain ⟨cl, b, n, lk, ps, owners, p, zs, ends, rfl, I, hS, hB, hT, hF⟩ := h
    refine ⟨_, (pss_cons (ps_try_as (i := 3) (tb := (fun W => tSeq (tIfS (fun σ H Q => tVar 2 σ H fun x H' => ∃ k, TruV K x H' k ∧ Q k H') (tRet (tLst (tCons (tC (.str "told")) (tCons (tCallS (spFinished K Pt) (WE W) (tCons (tVar 0) (tCons (tVar 1) tNil))) tNil)))) tNext) (tRet (tLst (tCons (tC (.str "told")) (tCons (tCallS (spFinish K Pt) (WE W) (tCons (tVar 0) (tCons (tVar 1) tNil))) tNil)))))) (ts := (tsTold K)) (Wout := fun _ _ _ _ => False) rfl rfl sc__law_told.nd rfl rfl ⟨rfl, by decide, Or.inl (T.gl "StoreError" (by decide))⟩ takes0
 (fun W pn xe tk _ => (pss_cons (ps_if (pt_truth (pv 2) (by intro _; rfl))
 (pss_one (ps_ret (pe_lst (pa_cons pe_str (pa_cons (pe_fnS D_finished_logs (hr.mono (by first | decide | omega)) tk (pa_cons (pv 0) (pa_cons (pv 1) pa_nil))) pa_nil)))))
 pss_nil)
 (pss_one (ps_ret (pe_lst (pa_cons pe_str (pa_cons (pe_fnS D_finish (hr.mono (by first | decide | omega)) tk (pa_cons (pv 0) (pa_cons (pv 1) pa_nil))) pa_nil)))))))
 (fun a oe cls d pn hz hf => (pss_cons (ps_set (i := 4) sc__law_told.nd rfl (Or.inl rfl) (pe_lst (pa_cons (pe_callB (call_isX hz hf) (by rfl) (T.n 10 _ rfl) (by decide +kernel) (pa_cons (pv 3) (pa_cons (pe_glob (v := .ref (aS K)) (by rfl) (T.gl "NotStrong" (by decide)) rfl) pa_nil))) (pa_cons (pe_callB (call_isX hz hf) (by rfl) (T.n 10 _ rfl) (by decide +kernel) (pa_cons (pv 3) (pa_cons (pe_glob (v := .ref (aL K)) (by rfl) (T.gl "InvalidLogs" (by decide)) rfl) pa_nil))) pa_nil))))
 (pss_cons (ps_if (PW.pt (pw_and (pt_val (pe_callB (call_isX hz hf) (by rfl) (T.n 10 _ rfl) (by decide +kernel) (pa_cons (pv 3) (pa_cons (pe_bltn (v := .ty "ValueError") (by rfl) (T.n 15 _ rfl) (by decide +kernel) rfl) pa_nil)))) (pw_and1 (pt_cmpR (op_eqD hr.units) (pv 4) (pe_lst (pa_cons pe_bl (pa_cons pe_bl pa_nil))) (nomark _)))))
 (pss_one (ps_ret (pe_lst (pa_cons pe_str pa_nil))))
 pss_nil)
 (pss_one (ps_if (PW.pt (pw_and (pt_val (pe_callB (call_isX hz hf) (by rfl) (T.n 10 _ rfl) (by decide +kernel) (pa_cons (pv 3) (pa_cons (pe_bltn (v := .ty "ValueError") (by rfl) (T.n 15 _ rfl) (by decide +kernel) rfl) pa_nil)))) (pw_and1 (pt_cmpR (op_eqD hr.units) (pv 4) (pe_lst (pa_cons pe_bl (pa_cons pe_bl pa_nil))) (nomark _)))))
 (pss_one (ps_ret (pe_lst (pa_cons pe_str (pa_cons (pe_xf (C := aL K) ⟨T.exL.hg, T.exL.hk, T.exL.hs, T.exL.hd⟩ T.eLn hz hf (pv 3)) pa_nil)))))
 pss_nil))))))
 (pss_one (ps_ret (pe_lst (pa_cons pe_str pa_nil))))), ?_⟩
    have IE : ∀ E : XK, (¬ Strong (Lof (ps.map (·.2))) n → ∀ H', Kp [] H H' → E (.ref (aS K)) none H') → (Strong (Lof (ps.map (·.2))) n → ∀ v, Bad n owners.length (zs.map (·.2)) v → ∀ d H', H' d = some (.xd [(("replica" : Str), v)]) → Kp [] H H' → E (.ref (aL K)) (some d) H') → FinIn K Pt H cl b n lk ps owners p zs E := fun E h1 h2 => ⟨I.clu, I.sl, I.net, I.zl, I.rl, I.tg, h1, h2⟩
    refine ⟨_, rfl, ends, rfl, iteB (fun he => ?_) fun he => ?_⟩
    · subst he
      refine ⟨_, rfl, _, rfl, cl, b, n, lk, ps, owners, p, zs, rfl, IE _ (fun S H1 E1 => ⟨true, T.mS, fun _ a ha => ?_, fun z => (nomatch z)⟩) (fun S v hv d H1 hd E1 => ⟨true, T.mL, fun _ a ha => ?_, fun z => (nomatch z)⟩), fun S VV D tr fin H1 L1 R E1 => ?_⟩
      · exact told_S T fun q H2 hq E2 => hS S q H2 hq (E1.trans E2)
      · exact told_L T hd fun q H2 hq E2 => hB S v hv q H2 hq (E1.trans E2)
      · exact ⟨by show 2 ≤ sizeLine; decide, fun q hq => hF S VV rfl q D tr fin _ upd_same (L1.kp0 (Kp.new hq)) R (E1.mut (E1.f q hq))⟩
    · subst he
      refine ⟨_, rfl, _, rfl, cl, b, n, lk, ps, owners, p, zs, rfl, IE _ (fun S H1 E1 => ⟨true, T.mS, fun _ a ha => ?_, fun z => (nomatch z)⟩) (fun S v hv d H1 hd E1 => ⟨true, T.mL, fun _ a ha => ?_, fun z => (nomatch z)⟩), fun S VV Tt tz fin H1 hT0 hTt R tl E1 => ?_⟩
      · exact told_S T fun q H2 hq E2 => hS S q H2 hq (E1.trans E2)
      · exact told_L T hd fun q H2 hq E2 => hB S v hv q H2 hq (E1.trans E2)
      · exact ⟨by show 2 ≤ sizeLine; decide, fun q hq => hT S VV rfl q Tt tz fin _ upd_same hT0 (hTt.upN hq) R tl (E1.mut (E1.f q hq))⟩
end
end Ps

set_option maxHeartbeats 4000000
/-! PsL2: the law asks, compares, spoils the answers, asks again. -/
namespace Ps
open PySem PySem.Spec PyProof.Rows L2
open He (ga ma)
theorem told_data {k : Nat} {d : PyData} (h : Pl k d) : Pl (k + 1) (.list [.str "told", d]) := .list (fun x hx => by
  rcases List.mem_cons.mp hx with rfl | hx
  · exact .str _
  · rw [List.mem_singleton.mp hx]
    exact h) (by show 2 ≤ 100000; decide)
section
variable {P : Program} {w : World} {K : PySem.W.Frag} {mg : Str → Option Value} {base : Heap} {Pt : Addr}
def spAsked (K : PySem.W.Frag) (Pt : Addr) : Sp := fun vs H Q _ => ∃ (cl b : Addr) (n : Nat) (lk : Addr) (ps : List (Addr × Int × Int)) (owners : List Int) (p tr nw : Addr) (zs : List (Addr × List Int)) (tz : List (Addr × Act)) (fs : List (Addr × List Int)), vs = [.ref cl, .ref p, .ref tr, .ref nw] ∧ AskIn K Pt H cl b n lk ps owners p zs ∧
  SL H tr gA tz ∧ SL H nw gR fs ∧ Strong (Lof (ps.map (·.2))) n ∧ Valid n owners.length (zs.map (·.2)) ∧ Run (Lof (ps.map (·.2))) (hm owners) owners.length (zs.map (·.2)) (tz.map (·.2)) (fs.map (·.2)) ∧ tz.length ≤ 800 ∧ ∀ H', Kp [] H H' → Q (.bl true) H'
abbrev N__law_asked : List Str := ["_law_cluster", "_law_rows_here", "_law_trace", "_law_now", "_law_row", "_law_passed", "_law_turn", "_law_deeds", "_law_ends"]
theorem sc__law_asked : FnScope N__law_asked ["_law_cluster", "_law_rows_here", "_law_trace", "_law_now"] (defScope (top 53)) := ⟨rfl, rfl, rfl, by decide +kernel, rfl, by decide +kernel, by decide +kernel⟩
theorem d__law_asked (T : TxE P K mg) (TB : GxR.TabB base mg (cIs K) Pt) : Def P w K mg base CX0 8 "_law_asked" ["_law_cluster", "_law_rows_here", "_law_trace", "_law_now"] (spAsked K Pt) := by
  have D__law_told := d__law_told (w := w) T TB
  have D__law_same := d__law_same (P := P) (w := w) (base := base) T.toTxt 4
  refine T.toTxt.def0 (i := 53) (j := 34) (N := N__law_asked) rfl sc__law_asked (fun vs H Q E h => ?_) (fun _ _ _ _ _ _ us hl => match us, hl with | [_, _, _, _], _ => rfl) (fun f cdv A outer s H vs Q E hr h => ?_)
  · obtain ⟨_, _, _, _, _, _, _, _, _, _, _, _, rfl, _⟩ := h
    rfl
  · obtain ⟨cl, b, n, lk, ps, owners, p, tr, nw, zs, tz, fs, rfl, I, hTr, hNw, S, VV, R0, tl, hQ⟩ := h
    have zl : zs.length = n := by have := VV.len; rwa [List.length_map] at this
    have n1 := I.net.n1
    have t1 := I.net.t1
    have N := net_of (t := owners.length) I.net.ok rfl I.net.oo
    obtain ⟨VF, _, _⟩ := R0.valid N VV
    refine ⟨_, (pss_cons (ps_setLc (i := 5) (own := [("_law_row", 4)]) (te := tCB (rLO K) (tCons (tVar 4) tNil)) (by rfl) sc__law_asked.nd rfl rfl (sw_true rfl rfl rfl (by decide +kernel)) (pi_list (pv 1)) (blkOk_by (own := [("_law_row", 4)]) (N := N__law_asked) (sc := defScope (top 53)) (by decide +kernel)) (fun _ _ _ _ _ => (pg_name (i := 4) sc__law_asked.nd rfl (Or.inl rfl))) (fun _ _ _ _ _ => pts_nil) (fun _ _ _ _ _ => (pe_callTy call_list_of (by rfl) (T.n 1 _ rfl) (by decide +kernel) (pa_cons (pv 4) pa_nil))))
 (pss_cons (ps_for PassesOwn.never rfl (pi_range1 (by rfl) (T.n 2 _ rfl) (pa_cons pe_int pa_nil)) (pg_name (i := 6) sc__law_asked.nd rfl (Or.inl rfl))
 (pss_cons (ps_set (i := 7) sc__law_asked.nd rfl (Or.inl rfl) (pe_fn D__law_told (hr.mono (by first | decide | omega)) (pa_cons (pv 0) (pa_cons (pv 5) (pa_cons pe_bl pa_nil)))))
 (pss_cons (ps_set (i := 8) sc__law_asked.nd rfl (Or.inl rfl) (pe_fn D__law_told (hr.mono (by first | decide | omega)) (pa_cons (pv 0) (pa_cons (pv 5) (pa_cons pe_bl pa_nil)))))
 (pss_cons (ps_if (PW.pt (pw_or (pt_not (pt_val (pe_fn D__law_same (hr.mono (by first | decide | omega)) (pa_cons (pv 7) (pa_cons (pe_lst (pa_cons pe_str (pa_cons (pv 2) pa_nil))) pa_nil))))) (pw_or1 (pt_not (pt_val (pe_fn D__law_same (hr.mono (by first | decide | omega)) (pa_cons (pv 8) (pa_cons (pe_lst (pa_cons pe_str (pa_cons (pv 3) pa_nil))) pa_nil))))))))
 (pss_one (ps_ret pe_bl))
 pss_nil)
 (pss_cons (ps_if (pt_cmpR (op_neD hr.units) (pv 5) (pv 1) (nomark _))
 (pss_one (ps_ret pe_bl))
 pss_nil)
 (pss_cons (ps_expr (pe_bm PySem.F.plainAttrs_list PySem.F.slot_list_append PySem.F.type_list_append mt_append (pe_ix ix_list (pv 7) pe_int (fun _ _ => rfl)) (pa_cons (pe_tup (pa_cons pe_str (pa_cons pe_int pa_nil))) pa_nil)))
 (pss_cons (ps_for PassesOwn.never rfl (pi_list (pe_ix ix_list (pv 8) pe_int (fun _ _ => rfl))) (pg_name (i := 4) sc__law_asked.nd rfl (Or.inl rfl))
 (pss_one (ps_expr (pe_bm PySem.F.plainAttrs_list PySem.F.slot_list_append PySem.F.type_list_append mt_append (pv 4) (pa_cons pe_int pa_nil)))))
 (pss_one (ps_expr (pe_bm PySem.F.plainAttrs_list PySem.F.slot_list_append PySem.F.type_list_append mt_append (pe_ix ix_list (pv 8) pe_int (fun _ _ => rfl)) (pa_cons (pe_lst pa_nil) pa_nil)))))))))))
 (pss_one (ps_ret pe_bl)))), ?_⟩
    refine ⟨_, rfl, p, rfl, ⟨_, I.sl.sq⟩, fun q hq => copy_rows I.sl hq (by omega) (fun _ => rfl) (fun _ => rfl) fun H1 L1 E1 => ?_⟩
    obtain ⟨ys, hy1, ey⟩ := L1.sl
    have yl : ys.length = n := by have := congrArg List.length ey; rw [List.length_map, VV.len] at this; exact this
    have yr : ∀ z ∈ ys, z.2.length ≤ 2000 := fun z hz => by
      have : z.2 ∈ zs.map (·.2) := by rw [← ey]; exact List.mem_map.mpr ⟨z, hz, rfl⟩
      exact Nat.le_trans (row_len (VV.nd _ this) (VV.rg _ this)) (by omega)
    have VY : Valid n owners.length (ys.map (·.2)) := by rw [ey]; exact VV
    refine ⟨2, rfl, by decide, by decide, for_range (lo := 0) (n := 2) (fun i σ H' => ∃ v4 v6 v7 v8, σ = [some (.ref cl), some (.ref p), some (.ref tr), some (.ref nw), v4, some (.ref q), v6, v7, v8] ∧ Kp [] H1 H') ?_ ?_ ?_⟩
    · exact ⟨_, _, _, _, rfl, Kp.refl H1⟩
    · rintro i σ H2 hi ⟨v4, v6, v7, v8, rfl, E2⟩
      have E02 := E1.trans E2
      have AI : ∀ {H' : Hp}, Kp [] H1 H' → AskIn K Pt H' cl b n lk ps owners q ys := fun e => ⟨I.clu.kp0 (E1.trans e), hy1.kp0 e fun _ => nt_gR, I.net, by omega, yr, (E1.trans e).t _ I.tg⟩
      have noBad : ∀ {C : Prop} {v : V}, Bad n owners.length (ys.map (·.2)) v → C := fun hb => by
        rcases hb with ⟨h1, _⟩ | ⟨_, i, _, fb⟩
        · exact absurd VY.len h1
        · exact (VY.noBad fb).elim
      refine ⟨_, rfl, _, rfl, cl, b, n, lk, ps, owners, q, ys, false, rfl, AI E2, (fun h => absurd S h), (fun _ v hv => noBad hv), (fun _ _ _ q1 Tt tz1 fin1 H3 hq1 hT0 hT R1 tl1 E3 => ?_), fun _ _ z => (nomatch z)⟩
      have E23 := E2.trans E3
      refine ⟨_, rfl, _, rfl, cl, b, n, lk, ps, owners, q, ys, true, rfl, AI E23, (fun h => absurd S h), (fun _ v hv => noBad hv), (fun _ _ z => (nomatch z)), fun _ _ _ q2 D tr2 fin2 H4 hq2 L4 R2 E4 => ?_⟩
      have E24 := E3.trans E4
      have E04 := E02.trans E24
      rw [ey] at R1 R2
      obtain ⟨e1, e1'⟩ := R1.same R0
      obtain ⟨e2, e2'⟩ := R2.same R0
      subst e2'
      have hq1_4 := E4.k _ _ hq1 nil_not nt_lst
      have hT4 := hT.kp0 E4 fun _ => nt_gA
      have hTr4 := hTr.kp0 E04 fun _ => nt_gA
      have hNw4 := hNw.kp0 E04 fun _ => nt_gR
      obtain ⟨ws, hw, wnd, ew, wnew⟩ := L4.ex
      refine ⟨_, rfl, _, rfl, by show 2 ≤ sizeLine; decide, fun l1 hl1 => ?_⟩
      have k1 : Kp [] H4 (upd H4 l1 (.lst [.str "told", .ref tr])) := Kp.new hl1
      have h5 : (upd H4 l1 (.lst [.str "told", .ref tr])) l1 = some (.lst [.str "told", .ref tr]) := upd_same
      generalize upd H4 l1 (.lst [.str "told", .ref tr]) = H5 at k1 h5
      refine ⟨.ref q1, .ref l1, .list [.str "told", dT (tz.map (·.2))], rfl, told_data (pl_dT (by rw [List.length_map]; omega)), .lst (SqL.of (k1.k _ _ hq1_4 nil_not nt_lst)) (.cons (.str _) (.cons (by rw [← e1]; exact dp_T (hT4.kp0 k1 fun _ => nt_gA)) .nil)),
        .lst (SqL.of h5) (.cons (.str _) (.cons (dp_T (hTr4.kp0 k1 fun _ => nt_gA)) .nil)), _, rfl, ?_⟩
      refine ⟨_, rfl, _, rfl, by show 2 ≤ sizeLine; decide, fun l2 hl2 => ?_⟩
      have k2 : Kp [] H4 (upd H5 l2 (.lst [.str "told", .ref nw])) := k1.mut (k1.f l2 hl2)
      have h6 : (upd H5 l2 (.lst [.str "told", .ref nw])) l2 = some (.lst [.str "told", .ref nw]) := upd_same
      generalize upd H5 l2 (.lst [.str "told", .ref nw]) = H6 at k2 h6
      have hw6 := hw.kp0 k2 fun _ => nt_gR
      have hq2_6 := k2.k _ _ hq2 nil_not nt_lst
      refine ⟨.ref q2, .ref l2, .list [.str "told", dR (fs.map (·.2))], rfl, told_data (pl_dR (by rw [VF.len]; omega) fun r hr => Nat.le_trans (row_len (VF.nd r hr) (VF.rg r hr)) (by omega)), .lst (SqL.of hq2_6) (.cons (.str _) (.cons (by rw [← ew]; exact dp_R hw6) .nil)),
        .lst (SqL.of h6) (.cons (.str _) (.cons (dp_R (hNw4.kp0 k2 fun _ => nt_gR)) .nil)), _, rfl, ?_⟩
      -- what was handed over is as it was
      have E26 := E24.trans k2
      have E06 := E02.trans E26
      refine ⟨_, rfl, _, rfl, dR (zs.map (·.2)), dR (zs.map (·.2)), by rw [← ey]; exact dp_R (hy1.kp0 (E2.trans E26) fun _ => nt_gR), dp_R (I.sl.kp0 E06 fun _ => nt_gR), (nice_dR _).shaped (by decide), (nice_dR _).shaped (by decide), _, rfl, ?_⟩
      rw [(nice_dR (zs.map (·.2))).refl]
      refine iteB (fun z => (by cases z)) fun _ => ?_
      -- the answers are spoilt
      have hT6 := hT4.kp0 k2 fun _ => nt_gA
      have hq1_6 := k2.k _ _ hq1_4 nil_not nt_lst
      refine ⟨_, rfl, q1, _, 1, _, rfl, rfl, SqL.of hq1_6, rfl, .inl ⟨rfl, _, hT6.sq⟩, by show 2 ≤ sizeLine; decide, fun t ht => ?_⟩
      have ntt : Tt ≠ t := ne_of_none hT6.at_ ht
      refine ⟨Tt, _, _, rfl, rfl, by rw [upd_ne ntt]; exact hT6.at_, small (by rw [List.length_map]; omega), ?_⟩
      have E7 : Kp [] H2 (upd (upd H6 t (.tup [.str "write", .int 0])) Tt (.lst ((tz1.map fun z => V.ref z.1) ++ [.ref t]))) := (E26.mut (E26.f t ht)).mut hT0
      have hq2_7 : (upd (upd H6 t (.tup [.str "write", .int 0])) Tt (.lst ((tz1.map fun z => V.ref z.1) ++ [.ref t]))) q2 = some (.lst [.str "told", .ref D]) := by
        have : q2 ≠ Tt := fun z => by
          have := hT6.at_
          rw [← z, hq2_6] at this
          injection this with this
          injection this with this
          cases tz1 with
          | nil => cases this
          | cons a l => injection this with this _; cases this
        rw [upd_ne this, upd_ne (ne_of_none hq2_6 ht)]
        exact hq2_6
      have hwD : (upd (upd H6 t (.tup [.str "write", .int 0])) Tt (.lst ((tz1.map fun z => V.ref z.1) ++ [.ref t]))) D = some (.lst (ws.map fun z => V.ref z.1)) ∧ ∀ z ∈ ws, ∃ r : List Int, (upd (upd H6 t (.tup [.str "write", .int 0])) Tt (.lst ((tz1.map fun z => V.ref z.1) ++ [.ref t]))) z.1 = some (.lst (r.map V.int)) ∧ r.length ≤ 2000 := by
        have nD : D ≠ Tt := fun z => by
          have h1 := L4.new
          rw [z] at h1
          have h2 := hT.at_
          rw [h1] at h2
          cases h2
        have nz : ∀ z ∈ ws, z.1 ≠ Tt := fun z hz e => by
          have h1 := wnew z hz
          rw [e] at h1
          have h2 := hT.at_
          rw [h1] at h2
          cases h2
        refine ⟨by rw [upd_ne nD, upd_ne (ne_of_none hw6.at_ ht)]; exact hw6.at_, fun z hz => ⟨z.2, by rw [upd_ne (nz z hz), upd_ne (ne_of_none (hw6.all z hz) ht)]; exact hw6.all z hz, ?_⟩⟩
        have : z.2 ∈ fs.map (·.2) := by rw [← ew]; exact List.mem_map.mpr ⟨z, hz, rfl⟩
        exact Nat.le_trans (row_len (VF.nd _ this) (VF.rg _ this)) (by omega)
      obtain ⟨hwD, hwz⟩ := hwD
      have zD : ∀ z ∈ ws, z.1 ≠ D := hw6.npR
      have z0 : ∀ z ∈ ws, H2 z.1 = none := fun z hz => E3.f _ (wnew z hz)
      have D0 : H2 D = none := E3.f _ L4.new
      generalize upd (upd H6 t (.tup [.str "write", .int 0])) Tt (.lst ((tz1.map fun z => V.ref z.1) ++ [.ref t])) = H7 at E7 hq2_7 hwD hwz
      have nq2 : q2 ≠ D := fun z => by
        rw [z, hwD] at hq2_7
        injection hq2_7 with h
        injection h with h
        cases ws with
        | nil => cases h
        | cons a l => injection h with h _; cases h
      have wl : ws.length = n := by have := congrArg List.length ew; rw [List.length_map, VF.len] at this; exact this
      refine ⟨_, rfl, q2, _, 1, _, rfl, rfl, SqL.of hq2_7, rfl, D, rfl, ⟨_, SqL.of hwD⟩, for_list (K := K) (a := D) (xs := ws.map fun z => V.ref z.1) (fun j σ H' => ∃ v4, σ = [some (.ref cl), some (.ref p), some (.ref tr), some (.ref nw), v4, some (.ref q), some (.int (0 + i)), some (.ref q1), some (.ref q2)] ∧ Kp [] H2 H' ∧
        H' q2 = some (.lst [.str "told", .ref D]) ∧ H' D = some (.lst (ws.map fun z => V.ref z.1)) ∧ ∀ z ∈ ws, ∃ r : List Int, H' z.1 = some (.lst (r.map V.int)) ∧ r.length ≤ 2000 + j) ?_ ?_ ?_ ?_⟩
      · exact ⟨_, rfl, E7, hq2_7, hwD, hwz⟩
      · rintro j σ H' _ ⟨_, _, _, _, e, _⟩
        exact SqL.of e
      · rintro j y σ H8 hj ⟨v4, rfl, E8, hq2_8, hD8, hz8⟩
        obtain ⟨z, hz, rfl⟩ := map_ref_at hj
        have hzm := List.mem_of_getElem? hz
        have jl : j < ws.length := (List.getElem?_eq_some_iff.mp hz).1
        obtain ⟨r, hr8, rl⟩ := hz8 z hzm
        have q2z : q2 ≠ z.1 := fun e => by
          rw [e, hr8] at hq2_8
          injection hq2_8 with h
          injection h with h
          cases r with
          | nil => cases h
          | cons a l => injection h with h _; cases h
        refine ⟨_, rfl, .inl ⟨rfl, _, SqL.of hr8⟩, z.1, _, _, rfl, rfl, hr8, small (by rw [List.length_map]; omega), ?_⟩
        refine ⟨_, rfl, E8.mut (z0 z hzm), by rw [upd_ne q2z]; exact hq2_8, by rw [upd_ne (zD z hzm).symm]; exact hD8, fun z' hz' => ?_⟩
        by_cases e : z'.1 = z.1
        · refine ⟨r ++ [0], by rw [e, upd_same, List.map_append]; rfl, by rw [List.length_append]; exact Nat.succ_le_succ rl⟩
        · obtain ⟨r', h1, h2⟩ := hz8 z' hz'
          exact ⟨r', by rw [upd_ne e]; exact h1, Nat.le_succ_of_le h2⟩
      · rintro σ H8 ⟨v4, rfl, E8, hq2_8, hD8, hz8⟩
        refine ⟨_, rfl, q2, _, 1, _, rfl, rfl, SqL.of hq2_8, rfl, .inl ⟨rfl, _, SqL.of hD8⟩, Nat.zero_le _, fun l hl => ?_⟩
        have nDl : D ≠ l := ne_of_none hD8 hl
        refine ⟨D, _, _, rfl, rfl, by rw [upd_ne nDl]; exact hD8, small (by rw [List.length_map]; omega), ?_⟩
        exact ⟨_, _, _, _, rfl, E2.trans ((E8.mut (E8.f l hl)).mut D0)⟩
    · rintro σ H2 ⟨v4, v6, v7, v8, rfl, E2⟩
      exact hQ H2 (E1.trans E2)
end
end Ps

set_option maxHeartbeats 8000000
/-! PsL3: the law. -/
namespace Ps
open PySem PySem.Spec PyProof.Rows L2
open He (ga ma)
section
variable {P : Program} {w : World} {K : PySem.W.Frag} {mg : Str → Option Value} {base : Heap} {Pt : Addr}
/-- a cluster stays when a draw is taken -/
theorem Clu.box {K : PySem.W.Frag} {H H' : Hp} {a x lk b c : Addr} {n : Nat} {ps : List (Addr × Int × Int)} {owners : List Int} (h : Clu K H a x n lk ps owners) (B : Box H b c) (e : Kp [b] H H') : Clu K H' a x n lk ps owners := by
  obtain ⟨⟨dx, fs, ho, h1, h2, h3, h4, h5, h6⟩, ⟨⟨dx2, fs2, d1, d2⟩, h7⟩⟩ := h
  exact ⟨⟨dx, fs, ho, e.k _ _ h1 (B.ins h1) nt_ins, h2, h3, h4, h5, h6.box B e⟩, ⟨⟨dx2, fs2, e.k _ _ d1 (B.ins d1) nt_ins, d2⟩, h7.boxP B e⟩⟩
/-- which pair a value is -/
def kfP (H : Hp) : V → Int × Int
  | .ref t => (match H t with
    | some (.tup [.int a, .int b]) => (a, b)
    | _ => (0, 0))
  | _ => (0, 0)
theorem kfP_at {H : Hp} {t : Addr} {q : Int × Int} (h : H t = some (gP q)) : kfP H (.ref t) = q := by
  show (match H t with
    | some (.tup [.int a, .int b]) => (a, b)
    | _ => (0, 0)) = q
  rw [h]
  rfl
/-- the sorted list of links, read -/
theorem sorted_links {H : Hp} {p : Addr} {zs : List (Addr × Int × Int)} {ys : List V} (h : SL H p gP zs) (hs : SrtO.Srtd (ltP (kfP H)) ys) (hb : SrtO.Stb (ltP (kfP H)) ys (zs.map fun z => V.ref z.1)) :
    ∃ lz : List (Addr × Int × Int), ys = (lz.map fun z => V.ref z.1) ∧ (∀ z, z ∈ lz → z ∈ zs) ∧ (∀ q, q ∈ lz.map (·.2) ↔ q ∈ zs.map (·.2)) ∧ (lz.map (·.2)).Pairwise Lex ∧ lz.length = zs.length := by
  have hm : ∀ y ∈ ys, ∃ z ∈ zs, y = V.ref z.1 := fun y hy => by
    obtain ⟨z, hz, e⟩ := List.mem_map.mp (hb.perm.mem_iff.mp hy)
    exact ⟨z, hz, e.symm⟩
  let ad : V → Addr := fun v => match v with
    | .ref t => t
    | _ => 0
  have el : ∀ z ∈ zs, (ad (V.ref z.1), kfP H (V.ref z.1)) = z := fun z hz => by
    show (z.1, kfP H (V.ref z.1)) = z
    rw [kfP_at (h.all z hz)]
  refine ⟨ys.map fun y => (ad y, kfP H y), ?_, fun z hz => ?_, fun q => ?_, ?_, ?_⟩
  · rw [List.map_map]
    conv => lhs; rw [← List.map_id ys]
    refine List.map_congr_left fun y hy => ?_
    obtain ⟨z, hz, rfl⟩ := hm y hy
    rfl
  · obtain ⟨y, hy, rfl⟩ := List.mem_map.mp hz
    obtain ⟨z', hz', rfl⟩ := hm y hy
    rw [el z' hz']
    exact hz'
  · rw [List.map_map]
    constructor
    · intro hq
      obtain ⟨y, hy, rfl⟩ := List.mem_map.mp hq
      obtain ⟨z, hz, rfl⟩ := hm y hy
      refine List.mem_map.mpr ⟨z, hz, ?_⟩
      exact (kfP_at (h.all z hz)).symm
    · intro hq
      obtain ⟨z, hz, rfl⟩ := List.mem_map.mp hq
      refine List.mem_map.mpr ⟨V.ref z.1, hb.perm.mem_iff.mpr (List.mem_map.mpr ⟨z, hz, rfl⟩), ?_⟩
      exact kfP_at (h.all z hz)
  · rw [List.map_map, List.pairwise_map]
    refine hs.imp fun {x y} hxy => ?_
    have := SrtO.lexB_no.mp hxy
    show Lex (kfP H x) (kfP H y)
    unfold Lex
    omega
  · have := hb.perm.length_eq
    rw [List.length_map] at this
    rw [List.length_map, this]
theorem lof_eq {as bs : List (Int × Int)} (h : ∀ q, q ∈ as ↔ q ∈ bs) : Lof as = Lof bs := by
  funext x y
  exact propext (h (x, y))
theorem cut_refs_take {α : Type} (zs : List (Addr × α)) (k : Nat) (h : k ≤ zs.length) : cutV (zs.map fun z => V.ref z.1) none (some (k : Int)) = (zs.take k).map fun z => V.ref z.1 := by
  unfold cutV
  rw [HT.sIx_none, HT.sIx_nat, List.length_map, List.drop_zero, Nat.sub_zero, ← List.map_take]
  rw [Nat.min_eq_left h]
theorem cut_refs_drop {α : Type} (zs : List (Addr × α)) (k : Nat) (h : k ≤ zs.length) : cutV (zs.map fun z => V.ref z.1) (some (k : Int)) none = (zs.drop k).map fun z => V.ref z.1 := by
  unfold cutV
  rw [HT.sIx_none, HT.sIx_nat, List.length_map, ← List.map_drop, ← List.map_take, Nat.min_eq_left h, List.take_of_length_le (by rw [List.length_drop]; omega)]
theorem bad_same {n t : Nat} {rows : Rows} {v w : V} (a : Bad n t rows v) (b : Bad n t rows w) : v = w := by
  rcases a with ⟨h1, rfl⟩ | ⟨h1, i, rfl, f1⟩ <;> rcases b with ⟨h2, rfl⟩ | ⟨h2, j, rfl, f2⟩
  · rfl
  · exact absurd h2 h1
  · exact absurd h1 h2
  · rw [f1.same f2]
theorem Bad.not {n t : Nat} {rows : Rows} {v : V} (b : Bad n t rows v) (h : Valid n t rows) : False := by
  rcases b with ⟨h1, _⟩ | ⟨_, i, _, fb⟩
  · exact h1 h.len
  · exact h.noBad fb
theorem pl_S : Pl 1 (.list [.str "strong"]) := .list (fun d hd => by
  rw [List.mem_singleton.mp hd]
  exact .str _) (by show 1 ≤ 100000; decide)
/-- None or an int, as data -/
theorem bad_data {n t : Nat} {rows : Rows} {v : V} (b : Bad n t rows v) : ∃ d : PyData, (∀ (K : PySem.W.Frag) (H : Hp), Dp K H v d) ∧ Pl 1 (.list [.str "logs", d]) := by
  rcases b with ⟨_, rfl⟩ | ⟨_, i, rfl, _⟩
  · exact ⟨.none, fun _ _ => .non, .list (fun x hx => by
      rcases List.mem_cons.mp hx with rfl | hx
      · exact .str _
      · rw [List.mem_singleton.mp hx]
        exact .non) (by show 2 ≤ 100000; decide)⟩
  · exact ⟨.int i, fun _ _ => .int _, .list (fun x hx => by
      rcases List.mem_cons.mp hx with rfl | hx
      · exact .str _
      · rw [List.mem_singleton.mp hx]
        exact .int _) (by show 2 ≤ 100000; decide)⟩
theorem sum_lens : ∀ rows : Rows, (rows.map fun r => (r.length : Int)).sum = (lens rows : Int)
  | [] => rfl
  | r :: rows => by
    have := sum_lens rows
    unfold lens at *
    rw [List.map_cons, List.sum_cons, this, List.map_cons, List.sum_cons]
    omega
def rLenQ (K : PySem.W.Frag) : List V → Hp → VK → Prop := fun xs H Q => ∃ p ys, xs = [.ref p] ∧ (SqL K H p ys ∨ SqT K H p ys) ∧ Q (.int ys.length) H
end
section
variable {X : Cx} {e : Expr} {es : List Expr} {t : TA} {p pos : Pos}
theorem pe_net (T : TxC X.prog X.K X.mg) (hr : Room 3 X.A) (ha : PA X (e :: es) t) (hg : Gl X "Net" := by rfl)
    (he : starEach (e :: es) X.env = (false, eval e X.env) :: starEach es X.env := by rfl) (hpl : (backTo pos (starEach es X.env)).any (·.1) = false := by rfl) :
    PE X (.Call (.Name "Net" p) (e :: es) [] pos) (tMake (aN X.K) (spNetI X.K) [] E0 t) := by
  obtain ⟨fd, F, B⟩ := (d_net (w := X.w) (base := X.base) T).ex
  exact pe_make T.mkN F hr hg (T.gl "Net" (by decide)) B .nil pass0 ha (by decide) he hpl
theorem pe_clu (T : TxC X.prog X.K X.mg) (hr : Room 2 X.A) (ha : PA X (e :: es) t) (hg : Gl X "Cluster" := by rfl)
    (he : starEach (e :: es) X.env = (false, eval e X.env) :: starEach es X.env := by rfl) (hpl : (backTo pos (starEach es X.env)).any (·.1) = false := by rfl) :
    PE X (.Call (.Name "Cluster" p) (e :: es) [] pos) (tMake (aC X.K) (spCluI X.K) [] E0 t) := by
  obtain ⟨fd, F, B⟩ := (d_cluster (w := X.w) (base := X.base) T).ex
  exact pe_make T.mkC F hr hg (T.gl "Cluster" (by decide)) B .nil pass0 ha (by decide) he hpl
end
section
variable {P : Program} {w : World} {K : PySem.W.Frag} {mg : Str → Option Value} {base : Heap} {Pt : Addr}
def spLaw (K : PySem.W.Frag) (Pt : Addr) : Sp := fun vs H Q _ => ∃ (a : Addr) (ns : List Int), vs = [.ref a] ∧ SqL K H a (ns.map V.int) ∧ ns.length ≤ 1000 ∧ GxR.TabG H Pt ∧ ∀ H', Q (.bl true) H'
abbrev N_law : List Str := ["_law_script", "_law_box_here", "_law_kind", "_law_many", "_law_total", "_law_links_here", "_law_owners", "_law_cluster", "_law_rows_here", "_law_bad_here", "_law_due", "_law_passed", "_law_ends", "_law_plain", "_law_trace", "_law_now", "_law_every", "_law_cut", "_law_middle", "_law_item", "_law_row"]
theorem sc_law : FnScope N_law ["_law_script"] (defScope (top 55)) := ⟨rfl, rfl, rfl, by decide +kernel, rfl, by decide +kernel, by decide +kernel⟩
theorem fn0 {x : Str} {st : Stmt} {f : Addr} {fd : FuncData} {k : Nat} {N ps : List Str} {sp : Sp} (F : FunD K x x (defArgs st) (defBody st) (defScope st) [] [] f fd) (S : FnScope N ps (defScope st)) (len : ∀ vs H Q E, sp vs H Q E → vs.length = ps.length)
    (body : ∀ (cdv : Value) (A : Around) (outer : List Env) (s : Shared) (H : Hp) (vs : List V) (Q : VK) (E : XK), Room k (A.deeper (envOfC x (defScope st) s.heap.objs.size f cdv)) → sp vs H Q E →
      ∃ t, PSs (cxOf CX0 P w K mg base N x (defScope st) f cdv A outer s H E).nox (defBody st) t ∧ t { nx := fun _ H' => Q .non H', rt := Q } (start N vs) H) : FnOk P w K mg base CX0 (k + 1) f fd ps sp :=
  FunD.ok F S len fun cdv A outer s H vs Q E hr hs => by
    obtain ⟨t, h1, h2⟩ := body cdv A outer s H vs Q E hr hs
    exact ⟨t, h1.nox, h2⟩
theorem ok_law (T : TxE P K mg) (TB : GxR.TabB base mg (cIs K) Pt) {f : Addr} {fd : FuncData} (F : FunD K "law" "law" (defArgs (top 55)) (defBody (top 55)) (defScope (top 55)) [] [] f fd) : FnOk P w K mg base CX0 9 f fd ["_law_script"] (spLaw K Pt) := by
  have D__law_box := d__law_box (P := P) (w := w) (base := base) T.toTxt
  have D__law_draw := d__law_draw (P := P) (w := w) (base := base) T.toTxt
  have D__law_order := d__law_order T.toTxt D__law_draw
  have D__law_tree := d__law_tree T.toTxt D__law_draw D__law_order
  have D__law_links := d__law_links T.toTxt D__law_draw D__law_order D__law_tree
  have D__law_offer := d__law_offer (P := P) (w := w) (base := base) T.toTxt
  have D__law_run := d__law_run T.toTxt D__law_draw D__law_offer
  have D__law_rows := d__law_rows T.toTxt D__law_draw D__law_order D__law_run
  have D__law_spoil := d__law_spoil T.toTxt D__law_draw
  have D__law_bad := d__law_bad (P := P) (w := w) (base := base) T.toTxt
  have D__law_reach := d__law_reach (P := P) (w := w) (base := base) T.toTxt
  have D__law_strong := d__law_strong T.toTxt D__law_reach
  have D__law_same := d__law_same (P := P) (w := w) (base := base) T.toTxt 2
  have D__law_end := d__law_end T.toTxt D__law_offer
  have D__law_after := d__law_after (P := P) (w := w) (base := base) T.toTxt
  have D__law_told := d__law_told (w := w) T TB
  have D__law_asked := d__law_asked (w := w) T TB
  refine fn0 (N := N_law) F sc_law (fun vs H Q E h => ?_) (fun cdv A outer s H vs Q E hr h => ?_)
  · obtain ⟨_, _, rfl, _⟩ := h
    rfl
  · obtain ⟨a, ns, rfl, hs, nl, tg, hQ⟩ := h
    refine ⟨_, (pss_cons (ps_set (i := 1) sc_law.nd rfl (Or.inr rfl) (pe_fn D__law_box (hr.mono (by first | decide | omega)) (pa_cons (pv 0) pa_nil)))
 (pss_cons (ps_set (i := 2) sc_law.nd rfl (Or.inl rfl) (pe_ix ix_list (pe_lst (pa_cons pe_int (pa_cons pe_int (pa_cons pe_int (pa_cons pe_int (pa_cons pe_int (pa_cons pe_int (pa_cons pe_int (pa_cons pe_int (pa_cons pe_int (pa_cons pe_int (pa_cons pe_int (pa_cons pe_int (pa_cons pe_int (pa_cons pe_int pa_nil))))))))))))))) (pe_fn D__law_draw (hr.mono (by first | decide | omega)) (pa_cons (pv 1) (pa_cons pe_int pa_nil))) (fun _ _ => rfl)))
 (pss_cons (ps_set (i := 3) sc_law.nd rfl (Or.inr rfl) (pe_op op_add pe_int (pe_fn D__law_draw (hr.mono (by first | decide | omega)) (pa_cons (pv 1) (pa_cons pe_int pa_nil)))))
 (pss_cons (ps_set (i := 4) sc_law.nd rfl (Or.inl rfl) (pe_fn D__law_draw (hr.mono (by first | decide | omega)) (pa_cons (pv 1) (pa_cons pe_int pa_nil))))
 (Evl.pss_cut (ps_if (PW.pt (pw_and (pt_cmpR op_lt (pv 2) pe_int (nomark _)) (pw_and1 (pt_cmpR op_eq (pe_fn D__law_draw (hr.mono (by first | decide | omega)) (pa_cons (pv 1) (pa_cons pe_int pa_nil))) pe_int (nomark _)))))
 (pss_cons (ps_set (i := 3) sc_law.nd rfl (Or.inr rfl) (pe_op op_add pe_int (pe_fn D__law_draw (hr.mono (by first | decide | omega)) (pa_cons (pv 1) (pa_cons pe_int pa_nil)))))
 (pss_one (ps_set (i := 4) sc_law.nd rfl (Or.inl rfl) (pe_op op_add pe_int (pe_fn D__law_draw (hr.mono (by first | decide | omega)) (pa_cons (pv 1) (pa_cons pe_int pa_nil)))))))
 pss_nil)
 (pss_cons (ps_set (i := 5) sc_law.nd rfl (Or.inl rfl) (pe_fn D__law_links (hr.mono (by first | decide | omega)) (pa_cons (pv 1) (pa_cons (pv 3) (pa_cons (pv 2) pa_nil)))))
 (pss_cons (ps_setLc (i := 6) (own := [("_law_item", 19)]) (by rfl) sc_law.nd rfl rfl (sw_true rfl rfl rfl (by decide +kernel)) (pi_range1 (by rfl) (T.n 2 _ rfl) (pa_cons (pv 4) pa_nil)) (blkOk_by (own := [("_law_item", 19)]) (N := N_law) (sc := defScope (top 55)) (by decide +kernel)) (fun _ _ _ _ _ => (pg_name (i := 19) sc_law.nd rfl (Or.inl rfl))) (fun _ _ _ _ _ => pts_nil) (fun _ _ _ _ _ => (pe_fn D__law_draw (hr.mono (by first | decide | omega)) (pa_cons (pv 1) (pa_cons (pv 3) pa_nil)))))
 (pss_cons (ps_set (i := 7) sc_law.nd rfl (Or.inl rfl) (pe_clu T.toTxC (hr.mono (by first | decide | omega)) (pa_cons (pe_net T.toTxC (hr.mono (by first | decide | omega)) (pa_cons (pv 3) (pa_cons (pe_callTy call_list_of (by rfl) (T.n 1 _ rfl) (by decide +kernel) (pa_cons (pv 5) pa_nil)) pa_nil))) (pa_cons (pe_callTy call_list_of (by rfl) (T.n 1 _ rfl) (by decide +kernel) (pa_cons (pv 6) pa_nil)) pa_nil))))
 (pss_cons (ps_set (i := 5) sc_law.nd rfl (Or.inl rfl) (pe_callB cr_sortedPO (by rfl) (T.n 6 _ rfl) (by decide +kernel) (pa_cons (pv 5) pa_nil)))
 (pss_cons (ps_set (i := 8) sc_law.nd rfl (Or.inl rfl) (pe_fn D__law_rows (hr.mono (by first | decide | omega)) (pa_cons (pv 1) (pa_cons (pv 5) (pa_cons (pv 6) (pa_cons (pv 3) pa_nil))))))
 (Evl.pss_cut (ps_if (pt_cmpR op_eq (pe_fn D__law_draw (hr.mono (by first | decide | omega)) (pa_cons (pv 1) (pa_cons pe_int pa_nil))) pe_int (nomark _))
 (pss_one (ps_set (i := 8) sc_law.nd rfl (Or.inl rfl) (pe_fn D__law_spoil (hr.mono (by first | decide | omega)) (pa_cons (pv 1) (pa_cons (pv 4) (pa_cons (pv 8) pa_nil))))))
 pss_nil)
 (pss_cons (ps_set (i := 9) sc_law.nd rfl (Or.inl rfl) (pe_fn D__law_bad (hr.mono (by first | decide | omega)) (pa_cons (pv 3) (pa_cons (pv 4) (pa_cons (pv 8) pa_nil)))))
 (pss_cons (ps_set (i := 10) sc_law.nd rfl (Or.inl rfl) (pe_lst pa_nil))
 (Evl.pss_cut (ps_if (pt_truth (pv 9) (by intro _; rfl))
 (pss_one (ps_set (i := 10) sc_law.nd rfl (Or.inl rfl) (pe_lst (pa_cons pe_str (pa_cons (pe_ix ix_list (pv 9) pe_int (fun _ _ => rfl)) pa_nil)))))
 pss_nil)
 (Evl.pss_cut (ps_if (pt_not (pt_val (pe_fn D__law_strong (hr.mono (by first | decide | omega)) (pa_cons (pv 3) (pa_cons (pv 5) pa_nil)))))
 (pss_one (ps_set (i := 10) sc_law.nd rfl (Or.inl rfl) (pe_lst (pa_cons pe_str pa_nil))))
 pss_nil)
 (pss_cons (ps_if (pt_truth (pv 10) (by intro _; rfl))
 (pss_cons (ps_setLc (i := 11) (own := [("_law_row", 20)]) (te := tCB (rLO K) (tCons (tVar 20) tNil)) (by rfl) sc_law.nd rfl rfl (sw_true rfl rfl rfl (by decide +kernel)) (pi_list (pv 8)) (blkOk_by (own := [("_law_row", 20)]) (N := N_law) (sc := defScope (top 55)) (by decide +kernel)) (fun _ _ _ _ _ => (pg_name (i := 20) sc_law.nd rfl (Or.inl rfl))) (fun _ _ _ _ _ => pts_nil) (fun _ _ _ _ _ => (pe_callTy call_list_of (by rfl) (T.n 1 _ rfl) (by decide +kernel) (pa_cons (pv 20) pa_nil))))
 (pss_cons (ps_for PassesOwn.never rfl (pi_list (pe_lst (pa_cons pe_bl (pa_cons pe_bl pa_nil)))) (pg_name (i := 12) sc_law.nd rfl (Or.inl rfl))
 (pss_one (ps_if (pt_not (pt_val (pe_fn D__law_same (hr.mono (by first | decide | omega)) (pa_cons (pe_fn D__law_told (hr.mono (by first | decide | omega)) (pa_cons (pv 7) (pa_cons (pv 11) (pa_cons (pv 12) pa_nil)))) (pa_cons (pv 10) pa_nil)))))
 (pss_one (ps_ret pe_bl))
 pss_nil)))
 (pss_one (ps_ret (pe_cmpR (op_eqD hr.units) (pv 11) (pv 8) (nomark _))))))
 pss_nil)
 (pss_cons (ps_set (i := 13) sc_law.nd rfl (Or.inl rfl) (pe_fn D__law_end (hr.mono (by first | decide | omega)) (pa_cons (pv 5) (pa_cons (pv 6) (pa_cons (pv 8) pa_nil)))))
 (pss_cons (ps_set (i := 14) sc_law.nd rfl (Or.inl rfl) (pe_ix ix_list (pv 13) pe_int (fun _ _ => rfl)))
 (pss_cons (ps_set (i := 15) sc_law.nd rfl (Or.inl rfl) (pe_ix ix_list (pv 13) pe_int (fun _ _ => rfl)))
 (pss_cons (ps_set (i := 16) sc_law.nd rfl (Or.inr rfl) (pe_listRg (by rfl) (by rfl) (T.n 1 _ rfl) (prg_1 (by rfl) (T.n 2 _ rfl) (pv 4))))
 (pss_cons (ps_if (pt_truth (pe_lc (own := [("_law_row", 20)]) (tt := tTest (tOp (rNeD K) (tCB (rSortedI K) (tCons (tVar 20) tNil)) (tVar 16))) (te := tVar 20) (by rfl) sc_law.nd (pi_list (pv 15)) (blkOk_by (own := [("_law_row", 20)]) (N := N_law) (sc := defScope (top 55)) (by decide +kernel)) (fun _ _ _ _ _ => (pg_name (i := 20) sc_law.nd rfl (Or.inl rfl))) (fun _ _ _ _ _ => (pts_one (pt_cmpR (op_neD hr.units) (pe_callB cr_sortedI (by rfl) (T.n 6 _ rfl) (by decide +kernel) (pa_cons (pv 20) pa_nil)) (pv 16) (nomark _)))) (fun _ _ _ _ _ => (pv 20))) (by intro _; rfl))
 (pss_one (ps_ret pe_bl))
 pss_nil)
 (pss_cons (ps_if (pt_cmpR op_ne (pe_callB call_len_seq (by rfl) (T.n 0 _ rfl) (by decide +kernel) (pa_cons (pv 14) pa_nil)) (pe_op op_sub (pe_op op_mul (pv 3) (pv 4)) (pe_callB (cr_sum rfl) (by rfl) (T.n 14 _ rfl) (by decide +kernel) (pa_cons (pe_lc (own := [("_law_row", 20)]) (te := tCB (rLenQ K) (tCons (tVar 20) tNil)) (by rfl) sc_law.nd (pi_list (pv 8)) (blkOk_by (own := [("_law_row", 20)]) (N := N_law) (sc := defScope (top 55)) (by decide +kernel)) (fun _ _ _ _ _ => (pg_name (i := 20) sc_law.nd rfl (Or.inl rfl))) (fun _ _ _ _ _ => pts_nil) (fun _ _ _ _ _ => (pe_callB call_len_seq (by rfl) (T.n 0 _ rfl) (by decide +kernel) (pa_cons (pv 20) pa_nil)))) pa_nil))) (nomark _))
 (pss_one (ps_ret pe_bl))
 pss_nil)
 (pss_cons (ps_set (i := 17) sc_law.nd rfl (Or.inl rfl) (pe_fn D__law_draw (hr.mono (by first | decide | omega)) (pa_cons (pv 1) (pa_cons (pe_op op_add (pe_callB call_len_seq (by rfl) (T.n 0 _ rfl) (by decide +kernel) (pa_cons (pv 14) pa_nil)) pe_int) pa_nil))))
 (pss_cons (ps_set (i := 18) sc_law.nd rfl (Or.inl rfl) (pe_fn D__law_after (hr.mono (by first | decide | omega)) (pa_cons (pv 6) (pa_cons (pv 8) (pa_cons (pe_slice sl_list (pv 14) po_none (po_some (pv 17))) pa_nil)))))
 (pss_cons (ps_if (PW.pt (pw_or (pt_not (pt_val (pe_fn D__law_asked (hr.mono (by first | decide | omega)) (pa_cons (pv 7) (pa_cons (pv 8) (pa_cons (pv 14) (pa_cons (pv 15) pa_nil))))))) (pw_or1 (pt_not (pt_val (pe_fn D__law_asked (hr.mono (by first | decide | omega)) (pa_cons (pv 7) (pa_cons (pv 18) (pa_cons (pe_slice sl_list (pv 14) (po_some (pv 17)) po_none) (pa_cons (pv 15) pa_nil))))))))))
 (pss_one (ps_ret pe_bl))
 pss_nil)
 (pss_one (ps_ret (pe_fn D__law_asked (hr.mono (by first | decide | omega)) (pa_cons (pv 7) (pa_cons (pv 15) (pa_cons (pe_lst pa_nil) (pa_cons (pv 15) pa_nil)))))))))))))))))))))))))))))))), ?_⟩
    have d14 : ∀ v : Int, 0 ≤ v → v < 14 → ∃ k : Int, atI (([8, 0, 0, 1, 1, 2, 2, 3, 3, 4, 5, 6, 7, 4] : List Int).map V.int) v = some (V.int k) := fun v v0 v1 => by
      have hl : v.toNat < ([8, 0, 0, 1, 1, 2, 2, 3, 3, 4, 5, 6, 7, 4] : List Int).length := by show v.toNat < 14; omega
      exact ⟨_, at_int v0 (List.getElem?_eq_getElem hl)⟩
    refine ⟨_, rfl, a, ns, rfl, hs, nl, fun b c H1 hb B1 E1 => ?_⟩
    have tg1 := E1.t _ tg
    -- kind, many, total
    refine ⟨by show 14 ≤ sizeLine; decide, fun l hl => ?_⟩
    have Bl := B1.upN (o := .lst (([8, 0, 0, 1, 1, 2, 2, 3, 3, 4, 5, 6, 7, 4] : List Int).map V.int)) hl
    refine ⟨_, rfl, b, c, 14, rfl, Bl, by decide, by decide, fun v H2 v0 v1 B2 E2 => ?_⟩
    obtain ⟨kind, hk⟩ := d14 v v0 v1
    have tg2 := E2.t _ ((Kp.new (m := []) hl).t _ tg1)
    refine ⟨l, _, v, _, rfl, rfl, SqL.of (E2.k _ _ upd_same (B1.new hl) nt_lst), hk, ?_⟩
    refine ⟨_, rfl, b, c, 6, rfl, B2, by decide, by decide, fun m H3 m0 m1 B3 E3 => ⟨1, m, rfl, rfl, ?_⟩⟩
    refine ⟨_, rfl, b, c, 8, rfl, B3, by decide, by decide, fun t H4 t0 t1 B4 E4 => ?_⟩
    have tg4 := E4.t _ (E3.t _ tg2)
    refine ⟨fun σ' H' => ∃ n t : Int, 1 ≤ n ∧ n ≤ 10 ∧ 0 ≤ t ∧ t ≤ 10 ∧ σ' = [some (.ref a), some (.ref b), some (.int kind), some (.int n), some (.int t), none, none, none, none, none, none, none, none, none, none, none, none, none, none, none, none] ∧ Box H' b c ∧ GxR.TabG H' Pt, ?_, ?_⟩
    · refine ⟨_, rfl, kind, 2, rfl, rfl, _, rfl, iteD (fun _ => ?_) fun _ => iteF ⟨1 + m, t, by omega, by omega, t0, by omega, rfl, B4, tg4⟩⟩
      refine ⟨_, rfl, b, c, 8, rfl, B4, by decide, by decide, fun x H5 x0 x1 B5 E5 => ⟨rfl, _, rfl, iteD (fun _ => ?_) fun _ => ⟨1 + m, t, by omega, by omega, t0, by omega, rfl, B5, E5.t _ tg4⟩⟩⟩
      refine ⟨_, rfl, b, c, 4, rfl, B5, by decide, by decide, fun m' H6 m0' m1' B6 E6 => ⟨7, m', rfl, rfl, ?_⟩⟩
      refine ⟨_, rfl, b, c, 5, rfl, B6, by decide, by decide, fun t' H7 t0' t1' B7 E7 => ⟨6, t', rfl, rfl, ?_⟩⟩
      exact ⟨7 + m', 6 + t', by omega, by omega, by omega, by omega, rfl, B7, E7.t _ (E6.t _ (E5.t _ tg4))⟩
    · rintro σ' H5 ⟨n, t, n0, n1, t0, t1, rfl, B5, tg5⟩
      obtain ⟨n, rfl⟩ := Int.eq_ofNat_of_zero_le (show 0 ≤ n by omega)
      obtain ⟨t, rfl⟩ := Int.eq_ofNat_of_zero_le t0
      -- the links, the owners
      refine ⟨_, rfl, _, rfl, _, rfl, b, c, (n : Int), kind, rfl, B5, n0, by omega, fun p H6 LK B6 => ?_⟩
      obtain ⟨zs, hZ, zok, zlen⟩ := LK.ex
      have tg6 := LK.kp.t _ tg5
      refine ⟨_, rfl, (t : Int), rfl, by omega, by omega, fun ow how => ?_⟩
      refine lc_range (lo := 0) (n := (t : Int).toNat) (fun i H' => ∃ os : List Int, IL H' ow os ∧ (∀ o ∈ os, 0 ≤ o ∧ o < (n : Int)) ∧ os.length = i ∧ Box H' b c ∧ Kp [b] H6 H') ⟨[], upd_same, (fun _ h => nomatch h), rfl, B6.upN how, Kp.new how⟩ ?_ ?_
      · rintro i H7 hi ⟨os, hO, oo, ol, B7, E7⟩
        refine ⟨rfl, yesT ?_⟩
        refine ⟨_, rfl, _, rfl, b, c, (n : Int), rfl, B7, by omega, by omega, fun o H8 o0 o1 B8 E8 => ?_⟩
        have nob : ow ∉ [b] := B6.new how
        have hO8 : IL H8 ow os := E8.k _ _ hO nob nt_lst
        refine ⟨_, hO8, small (by rw [List.length_map]; omega), os ++ [o], ?_, fun x hx => ?_, by rw [List.length_append]; exact congrArg (· + 1) ol, ?_, (E7.trans E8).mut how⟩
        · show upd _ _ _ _ = _
          rw [upd_same, List.map_append]
          rfl
        · rcases List.mem_append.mp hx with hx | hx
          · exact oo x hx
          · rw [List.mem_singleton.mp hx]
            exact ⟨o0, o1⟩
        · exact B8.up (B6.nb how) (B6.nc how)
      · rintro H7 ⟨owners, hO, oo, ol, B7, E7⟩
        rw [Int.toNat_natCast] at ol
        have hZ7 := hZ.boxP B6 E7
        have tg7 := E7.t _ tg6
        -- the cluster
        refine ⟨_, rfl, _, rfl, p, _, rfl, .inl hZ7.sq, fun l1 hl1 => ?_⟩
        have hZ1 := hZ7.upN (o := .lst (zs.map fun z => V.ref z.1)) hl1
        have hL1 : SL (upd H7 l1 (.lst (zs.map fun z => V.ref z.1))) l1 gP zs := hZ7.sub hl1 fun z hz => hz
        have hO1 := hO.upN (o := .lst (zs.map fun z => V.ref z.1)) hl1
        have B8 := B7.upN (o := .lst (zs.map fun z => V.ref z.1)) hl1
        have tg8 := (Kp.new (m := []) (o := .lst (zs.map fun z => V.ref z.1)) hl1).t _ tg7
        generalize upd H7 l1 (.lst (zs.map fun z => V.ref z.1)) = H8 at hZ1 hL1 hO1 B8 tg8
        refine fun x dx hx hdx ne => ?_
        have Ex : Kp [] H8 (upd (upd H8 dx (.own x)) x (.ins (aN K) dx [])) := (Kp.new hdx).mut hx
        refine ⟨x, dx, l1, n, zs, rfl, upd_same, hL1.kp0 Ex fun _ => nt_gP, zok, by omega, by omega, by omega, fun l2 ls H9 NA srtS memS lenS E9 => ⟨rfl, ?_⟩⟩
        have E89 : Kp [] H8 H9 := (Ex.up.trans E9).drop fun a ha => by
          rw [List.mem_singleton.mp ha]
          exact .inr hx
        have hO9 := hO1.kp0 E89
        refine ⟨_, rfl, ow, _, rfl, .inl hO9.sq, fun l3 hl3 => ?_⟩
        have E9l : Kp [] H9 (upd H9 l3 (.lst (owners.map V.int))) := Kp.new hl3
        have hl3' : IL (upd H9 l3 (.lst (owners.map V.int))) l3 owners := upd_same
        generalize upd H9 l3 (.lst (owners.map V.int)) = H10 at E9l hl3'
        refine fun y dy hy hdy ney => ?_
        have Ey : Kp [] H10 (upd (upd H10 dy (.own y)) y (.ins (aC K) dy [])) := (Kp.new hdy).mut hy
        refine ⟨y, dy, x, l3, l2, n, ls, owners, rfl, upd_same, (NA.kp0 E9l).kp0 Ey, hl3'.kp0 Ey, oo, by omega, fun H11 C11 E11 => ⟨rfl, ?_⟩⟩
        have E10 : Kp [] H10 H11 := (Ey.up.trans E11).drop fun a ha => by
          rw [List.mem_singleton.mp ha]
          exact .inr hy
        have E811 := (E89.trans E9l).trans E10
        have hZ11 := hZ1.kp0 E811 fun _ => nt_gP
        have hO11 := hO1.kp0 E811
        have B11 := B8.kp0 E811
        have tg11 := E811.t _ tg8
        -- the links in order
        refine ⟨_, rfl, p, _, kfP H11, rfl, hZ11.sq, fun v hv => ?_, fun ys p2 srtY stbY hp2 => ?_⟩
        · obtain ⟨z, hz, rfl⟩ := List.mem_map.mp hv
          refine ⟨z.1, rfl, ?_⟩
          have := hZ11.all z hz
          rw [kfP_at this]
          exact this
        obtain ⟨lz, rfl, lzm, memL, srtL, lenL⟩ := sorted_links hZ11 srtY stbY
        have hLz : SL (upd H11 p2 (.lst (lz.map fun z => V.ref z.1))) p2 gP lz := hZ11.sub hp2 lzm
        have E12 : Kp [] H11 (upd H11 p2 (.lst (lz.map fun z => V.ref z.1))) := Kp.new hp2
        have B12 := B11.upN (o := .lst (lz.map fun z => V.ref z.1)) hp2
        have hO12 := hO11.kp0 E12
        have C12 := C11.kp0 E12
        have tg12 := E12.t _ tg11
        generalize upd H11 p2 (.lst (lz.map fun z => V.ref z.1)) = H12 at hLz E12 B12 hO12 C12 tg12
        have lok : ∀ z ∈ lz, LinkOk n z.2 := fun z hz => zok z (lzm z hz)
        have sok : ∀ z ∈ ls, LinkOk n z.2 := fun z hz => by
          obtain ⟨w, hw, e⟩ := List.mem_map.mp ((memS z.2).mp (List.mem_map.mpr ⟨z, hz, rfl⟩))
          rw [← e]
          exact zok w hw
        have eL : Lof (ls.map (·.2)) = Lof (lz.map (·.2)) := lof_eq fun q => by rw [memS, memL]
        have NO : NetOk n ls owners := ⟨sok, srtS, oo, by omega, by omega, by omega, lenS⟩
        -- the rows
        refine ⟨_, rfl, _, rfl, _, rfl, _, rfl, b, c, p2, ow, (n : Int), lz, owners, rfl, ⟨B12, hLz, lok, by omega, hO12, oo, by omega, by omega, by omega⟩, fun pr rz H13 hpr hR rlen rle B13 E13 => ?_⟩
        have C13 := C12.box B12 E13
        have hLz13 := hLz.boxP B12 E13
        have hO13 := hO12.box B12 E13
        have tg13 := E13.t _ tg12
        refine ⟨fun σ' H' => ∃ (pr : Addr) (rz : List (Addr × List Int)), σ' = [some (.ref a), some (.ref b), some (.int kind), some (.int (n : Int)), some (.int (t : Int)), some (.ref p2), some (.ref ow), some (.ref y), some (.ref pr), none, none, none, none, none, none, none, none, none, none, none, none] ∧
          SL H' pr gR rz ∧ rz.length ≤ 30 ∧ RowsLe (rz.map (·.2)) 1002 ∧ Box H' b c ∧ Clu K H' y x n l2 ls owners ∧ SL H' p2 gP lz ∧ IL H' ow owners ∧ GxR.TabG H' Pt, ?_, ?_⟩
        · refine ⟨_, rfl, b, c, 6, rfl, B13, by decide, by decide, fun w H14 w0 w1 B14 E14 => ⟨rfl, _, rfl, iteD (fun _ => ?_) fun _ => ?_⟩⟩
          · refine ⟨_, rfl, _, rfl, _, rfl, b, c, pr, (t : Int), rz, rfl, B14, hR.boxR B13 E14, by omega, by omega, rle, fun pw ws H15 hpw hW wl wle B15 E15 => ?_⟩
            have E1315 := E14.trans E15
            exact ⟨pw, ws, rfl, hW, wl, wle, B15, C13.box B13 E1315, hLz13.boxP B13 E1315, hO13.box B13 E1315, E1315.t _ tg13⟩
          · exact ⟨pr, rz, rfl, hR.boxR B13 E14, by omega, (fun r hr => Nat.le_trans (rle r hr) (by decide)), B14, C13.box B13 E14, hLz13.boxP B13 E14, hO13.box B13 E14, E14.t _ tg13⟩
        · rintro σ' H14 ⟨pr, rz, rfl, hR, rlen, rle, B14, C14, hL14, hO14, tg14⟩
          have rl2 : ∀ z ∈ rz, z.2.length ≤ 2000 := fun z hz => Nat.le_trans (rle _ (List.mem_map.mpr ⟨z, hz, rfl⟩)) (by decide)
          have ask : ∀ {H' : Hp} {q : Addr} {ys : List (Addr × List Int)}, Kp [] H14 H' → SL H' q gR ys → ys.map (·.2) = rz.map (·.2) → AskIn K Pt H' y x n l2 ls owners q ys := fun e h ey => ⟨C14.kp0 e, h, NO, by
            have := congrArg List.length ey
            rw [List.length_map, List.length_map] at this
            omega, fun z hz => by
            have : z.2 ∈ rz.map (·.2) := by rw [← ey]; exact List.mem_map.mpr ⟨z, hz, rfl⟩
            obtain ⟨w, hw, e⟩ := List.mem_map.mp this
            rw [← e]
            exact rl2 w hw, e.t _ tg14⟩
          -- faults
          refine ⟨_, rfl, _, rfl, _, rfl, pr, n, t, rz, rfl, hR, by omega, (fun r hr => Nat.le_trans (rle r hr) (by decide)), fun pb xs H15 hpb hxs BO E15 => ?_⟩
          refine ⟨Nat.zero_le _, fun d0 hd0 => ?_⟩
          have E16 : Kp [] H15 (upd H15 d0 (.lst [])) := Kp.new hd0
          have hd16 : (upd H15 d0 (.lst [])) d0 = some (.lst []) := upd_same
          generalize upd H15 d0 (.lst []) = H16 at E16 hd16
          have E1416 := E15.trans E16
          have hxs16 := E16.k _ _ hxs nil_not nt_lst
          refine ⟨fun σ' H' => ∃ d : Addr, σ' = [some (.ref a), some (.ref b), some (.int kind), some (.int (n : Int)), some (.int (t : Int)), some (.ref p2), some (.ref ow), some (.ref y), some (.ref pr), some (.ref pb), some (.ref d), none, none, none, none, none, none, none, none, none, none] ∧ Kp [] H14 H' ∧
            ((xs = [] ∧ H' d = some (.lst [])) ∨ ∃ v, xs = [v] ∧ H' d = some (.lst [.str "logs", v])), ?_, ?_⟩
          · refine ⟨_, rfl, _, .inl ⟨_, SqL.of hxs16, rfl⟩, ?_⟩
            have hx : xs = [] ∨ ∃ v, xs = [v] := by
              cases BO with
              | len h => exact .inr ⟨_, rfl⟩
              | row h i b => exact .inr ⟨_, rfl⟩
              | ok h b => exact .inl rfl
            rcases hx with rfl | ⟨v, rfl⟩
            · exact iteB (fun z => (by cases z)) fun _ => ⟨d0, rfl, E1416, .inl ⟨rfl, hd16⟩⟩
            · refine iteB (fun _ => ?_) fun z => (by cases z)
              exact ⟨_, rfl, pb, _, 0, v, rfl, rfl, SqL.of hxs16, rfl, by show 2 ≤ sizeLine; decide, fun d hd => ⟨d, rfl, E1416.mut (E1416.f d hd), .inr ⟨v, rfl, upd_same⟩⟩⟩
          · rintro σ' H17 ⟨d, rfl, E17, hdue⟩
            -- strong
            refine ⟨fun σ' H' => ∃ d : Addr, σ' = [some (.ref a), some (.ref b), some (.int kind), some (.int (n : Int)), some (.int (t : Int)), some (.ref p2), some (.ref ow), some (.ref y), some (.ref pr), some (.ref pb), some (.ref d), none, none, none, none, none, none, none, none, none, none] ∧ Kp [] H14 H' ∧
              ((¬ Strong (Lof (lz.map (·.2))) n ∧ H' d = some (.lst [.str "strong"])) ∨ (Strong (Lof (lz.map (·.2))) n ∧ ∃ v, xs = [v] ∧ H' d = some (.lst [.str "logs", v])) ∨ (Strong (Lof (lz.map (·.2))) n ∧ xs = [] ∧ H' d = some (.lst []))), ?_, ?_⟩
            · refine ⟨_, rfl, _, rfl, p2, n, lz, rfl, hL14.kp0 E17 (fun _ => nt_gP), lok, by omega, by omega, by omega, fun bb H18 hbb E18 => ⟨_, rfl, ?_⟩⟩
              have E1418 := E17.trans E18
              cases bb with
              | true =>
                have S := hbb.mp rfl
                refine ⟨d, rfl, E1418, ?_⟩
                rcases hdue with ⟨h1, h2⟩ | ⟨v, h1, h2⟩
                · exact .inr (.inr ⟨S, h1, E18.k _ _ h2 nil_not nt_lst⟩)
                · exact .inr (.inl ⟨S, v, h1, E18.k _ _ h2 nil_not nt_lst⟩)
              | false =>
                exact ⟨by show 1 ≤ sizeLine; decide, fun d' hd' => ⟨d', rfl, E1418.mut (E1418.f d' hd'), .inl ⟨fun S => (by have := hbb.mpr S; cases this), upd_same⟩⟩⟩
            · rintro σ' H18 ⟨d, rfl, E18, hdue⟩
              have hR18 := hR.kp0 E18 fun _ => nt_gR
              -- the answer is due as data
              have dueX : (∃ dd : PyData, ∃ ds : List V, H18 d = some (.lst ds) ∧ ds.isEmpty = false ∧ Pl 1 dd ∧ (∀ H' q, H' q = some (.lst ds) → Dp K H' (.ref q) dd) ∧ ((¬ Strong (Lof (lz.map (·.2))) n ∧ ds = [.str "strong"]) ∨ (Strong (Lof (lz.map (·.2))) n ∧ ∃ v, Bad n t (rz.map (·.2)) v ∧ ds = [.str "logs", v]))) ∨
                  (Strong (Lof (lz.map (·.2))) n ∧ Valid n t (rz.map (·.2)) ∧ H18 d = some (.lst [])) := by
                rcases hdue with ⟨h1, h2⟩ | ⟨S, v, h1, h2⟩ | ⟨S, h1, h2⟩
                · exact .inl ⟨_, _, h2, rfl, pl_S, fun H' q h => .lst (SqL.of h) (.cons (.str _) .nil), .inl ⟨h1, rfl⟩⟩
                · have hB : Bad n t (rz.map (·.2)) v := by
                    rw [h1] at BO
                    cases BO with
                    | len h => exact .inl ⟨h, rfl⟩
                    | row h i b => exact .inr ⟨h, i, rfl, b⟩
                  obtain ⟨dv, g1, g2⟩ := bad_data hB
                  exact .inl ⟨_, _, h2, rfl, g2, fun H' q h => .lst (SqL.of h) (.cons (.str _) (.cons (g1 K H') .nil)), .inr ⟨S, v, hB, rfl⟩⟩
                · refine .inr ⟨S, ?_, h2⟩
                  rw [h1] at BO
                  cases BO with
                  | ok h b => exact valid_of h b
              rcases dueX with ⟨dd, ds, hd, hne, pld, dpd, hcase⟩ | ⟨S, VV, hd⟩
              · refine ⟨_, rfl, _, .inl ⟨_, SqL.of hd, rfl⟩, ?_⟩
                rw [hne]
                refine iteB (fun _ => ?_) fun z => (by cases z)
                refine ⟨_, rfl, pr, rfl, ⟨_, hR18.sq⟩, fun q hq => copy_rows hR18 hq (by omega) (fun _ => rfl) (fun _ => rfl) fun H19 L19 E19 => ?_⟩
                obtain ⟨ys, hy19, ey⟩ := L19.sl
                have E1419 := E18.trans E19
                have hd19 := E19.k _ _ hd nil_not nt_lst
                refine ⟨by show 2 ≤ sizeLine; decide, fun lf hlf => ⟨lf, rfl, ⟨_, SqL.of upd_same⟩, ?_⟩⟩
                have E20 : Kp [] H19 (upd H19 lf (.lst [.bl false, .bl true])) := Kp.new hlf
                have hlf' : (upd H19 lf (.lst [.bl false, .bl true])) lf = some (.lst [.bl false, .bl true]) := upd_same
                generalize upd H19 lf (.lst [.bl false, .bl true]) = H20 at E20 hlf'
                refine for_list (K := K) (a := lf) (xs := [V.bl false, V.bl true]) (fun i σ H' => ∃ v12, σ = [some (.ref a), some (.ref b), some (.int kind), some (.int (n : Int)), some (.int (t : Int)), some (.ref p2), some (.ref ow), some (.ref y), some (.ref pr), some (.ref pb), some (.ref d), some (.ref q), v12, none, none, none, none, none, none, none, none] ∧ Kp [] H20 H') ⟨none, rfl, Kp.refl _⟩ (fun i σ H' _ ⟨_, _, e⟩ => SqL.of (e.k _ _ hlf' nil_not nt_lst)) ?_ ?_
                · rintro i yv σ H21 hi ⟨v12, rfl, E21⟩
                  obtain ⟨eb, rfl⟩ : ∃ eb : Bool, yv = .bl eb := by
                    match i, hi with
                    | 0, h => exact ⟨false, (Option.some.inj h).symm⟩
                    | 1, h => exact ⟨true, (Option.some.inj h).symm⟩
                    | (_ + 2), h => cases h
                  have E1921 := E20.trans E21
                  have same : ∀ q1 H22, H22 q1 = some (.lst ds) → Kp [] H21 H22 → ∃ (xv yv : V) (dd : PyData), [V.ref q1, V.ref d] = [xv, yv] ∧ Pl 1 dd ∧ Dp K H22 xv dd ∧ Dp K H22 yv dd := fun q1 H22 h1 e => ⟨_, _, dd, rfl, pld, dpd H22 q1 h1, dpd H22 d ((E1921.trans e).k _ _ hd19 nil_not nt_lst)⟩
                  refine ⟨_, rfl, _, rfl, _, rfl, y, x, n, l2, ls, owners, q, ys, eb, rfl, ask (E1419.trans E1921) (hy19.kp0 E1921 fun _ => nt_gR) ey, fun nS q1 H22 h1 E22 => ?_, fun S v hv q1 H22 h1 E22 => ?_, fun S VV _ => ?_, fun S VV _ => ?_⟩
                  · rw [eL] at nS
                    rcases hcase with ⟨_, rfl⟩ | ⟨S, _⟩
                    · obtain ⟨xv, yv, dd', e1, g1, g2, g3⟩ := same q1 H22 h1 E22
                      cases e1
                      exact ⟨_, rfl, _, _, dd', rfl, g1, g2, g3, _, rfl, iteF ⟨_, rfl, E21.trans E22⟩⟩
                    · exact absurd S nS
                  · rw [eL] at S
                    rcases hcase with ⟨nS, _⟩ | ⟨_, v', hv', rfl⟩
                    · exact absurd S nS
                    · rw [ol, ey] at hv
                      rw [bad_same hv hv'] at h1
                      obtain ⟨xv, yv, dd', e1, g1, g2, g3⟩ := same q1 H22 h1 E22
                      cases e1
                      exact ⟨_, rfl, _, _, dd', rfl, g1, g2, g3, _, rfl, iteF ⟨_, rfl, E21.trans E22⟩⟩
                  · rw [eL] at S
                    rw [ol, ey] at VV
                    rcases hcase with ⟨nS, _⟩ | ⟨_, v', hv', _⟩
                    · exact absurd S nS
                    · exact (hv'.not VV).elim
                  · rw [eL] at S
                    rw [ol, ey] at VV
                    rcases hcase with ⟨nS, _⟩ | ⟨_, v', hv', _⟩
                    · exact absurd S nS
                    · exact (hv'.not VV).elim
                · rintro σ H21 ⟨v12, rfl, E21⟩
                  have E1921 := E20.trans E21
                  refine ⟨_, rfl, _, rfl, dR (rz.map (·.2)), dR (rz.map (·.2)), by rw [← ey]; exact dp_R (hy19.kp0 E1921 fun _ => nt_gR), dp_R (hR.kp0 (E1419.trans E1921) fun _ => nt_gR), (nice_dR _).shaped (by decide), (nice_dR _).shaped (by decide), ?_⟩
                  rw [(nice_dR (rz.map (·.2))).refl]
                  exact hQ H21
              · refine ⟨_, rfl, _, .inl ⟨_, SqL.of hd, rfl⟩, iteB (fun z => (by cases z)) fun _ => ?_⟩
                have hL18 := hL14.kp0 E18 fun _ => nt_gP
                have hO18 := hO14.kp0 E18
                have N := net_of (t := t) lok ol oo
                have rzl : rz.length = n := by have := VV.len; rwa [List.length_map] at this
                refine ⟨_, rfl, _, rfl, _, rfl, p2, ow, pr, n, t, lz, owners, rz, rfl, hL18, lok, srtL, hO18, ol, oo, hR18, VV, by omega, by omega, fun pp ta tb ts fs H19 hpp hta htb R E19 => ?_⟩
                obtain ⟨VF, lenF, actF⟩ := R.valid N VV
                obtain ⟨uF, stF⟩ := R.fin
                have allF := full N S VF uF stF
                have lF := lens_full VF allF
                have lle := lens_le VF
                have prd : n * t ≤ 100 := Nat.mul_le_mul (show n ≤ 10 by omega) (show t ≤ 10 by omega)
                have tsl : ts.length ≤ 100 := by rw [List.length_map] at lenF; omega
                have E1419 := E18.trans E19
                refine ⟨_, rfl, pp, _, 0, _, rfl, rfl, SqL.of hpp, rfl, ?_⟩
                refine ⟨_, rfl, pp, _, 1, _, rfl, rfl, SqL.of hpp, rfl, ?_⟩
                refine ⟨_, rfl, _, rfl, .of_le (Int.le_refl _) (by omega) (by omega) (by omega), fun ev hev => ?_⟩
                have hE : IL (upd H19 ev (.lst (rgV 0 (t : Int)))) ev (ents t) := by
                  show upd _ _ _ _ = _
                  rw [upd_same, rgV_ents]
                  rfl
                have E20 : Kp [] H19 (upd H19 ev (.lst (rgV 0 (t : Int)))) := Kp.new hev
                generalize upd H19 ev (.lst (rgV 0 (t : Int))) = H20 at hE E20
                have E1420 := E1419.trans E20
                have htb20 := htb.kp0 E20 fun _ => nt_gR
                -- all rows are full
                refine ⟨_, rfl, tb, rfl, ⟨_, htb20.sq⟩, fun D hD => ?_⟩
                refine lc_list (K := K) (a := tb) (xs := fs.map fun z => V.ref z.1) (fun j H' => Kp [] H20 H' ∧ H' D = some (.lst [])) ⟨Kp.new hD, upd_same⟩ (fun j H' _ h => (htb20.kp0 h.1 fun _ => nt_gR).sq) ?_ ?_
                · rintro j yv H21 hj ⟨E21, hD21⟩
                  obtain ⟨z, hz, rfl⟩ := map_ref_at hj
                  have hzm := List.mem_of_getElem? hz
                  have hz1 : IL H21 z.1 z.2 := (htb20.kp0 E21 fun _ => nt_gR).all z hzm
                  have zF : z.2 ∈ fs.map (·.2) := List.mem_map.mpr ⟨z, hzm, rfl⟩
                  refine ⟨rfl, _, rfl, z.1, z.2, rfl, hz1.sq, fun ns' p' perm pw hp' => ?_⟩
                  have ens : ns' = ents t := sorted_full (VF.nd _ zF) (fun e => ⟨fun h => VF.rg _ zF e h, fun h => allF _ zF e h.1 h.2⟩) perm pw
                  have hD22 : (upd H21 p' (.lst (ns'.map V.int))) D = some (.lst []) := by rw [upd_ne (ne_of_none hD21 hp')]; exact hD21
                  refine ⟨_, rfl, dI ns', dI (ents t), dp_I (show IL _ p' ns' from upd_same), dp_I ((hE.kp0 E21).upN hp'), (nice_dI _).shaped (by decide), (nice_dI _).shaped (by decide), _, rfl, ?_⟩
                  rw [eqv_dI, decide_eq_true ens]
                  exact iteB (fun z => (by cases z)) fun _ => ⟨E21.trans (Kp.new hp'), hD22⟩
                · rintro H21 ⟨E21, hD21⟩
                  have E1421 := E1420.trans E21
                  have hta21 := (hta.kp0 E20 fun _ => nt_gA).kp0 E21 fun _ => nt_gA
                  have hR21 := hR.kp0 E1421 fun _ => nt_gR
                  refine ⟨_, .inl ⟨[], SqL.of hD21, rfl⟩, iteB (fun z => (by cases z)) fun _ => ?_⟩
                  refine ⟨_, rfl, ta, _, rfl, .inl hta21.sq, _, rfl, _, rfl, (n : Int), (t : Int), rfl, rfl, .inl ⟨by omega, by omega⟩, ?_⟩
                  refine ⟨_, rfl, pr, rfl, ⟨_, hR21.sq⟩, fun D2 hD2 => ?_⟩
                  refine lc_list (K := K) (a := pr) (xs := rz.map fun z => V.ref z.1) (fun j H' => Kp [] H21 H' ∧ IL H' D2 (((rz.map (·.2)).take j).map fun r => (r.length : Int))) ⟨Kp.new hD2, upd_same⟩ (fun j H' _ h => (hR21.kp0 h.1 fun _ => nt_gR).sq) ?_ ?_
                  · rintro j yv H22 hj ⟨E22, hD22⟩
                    obtain ⟨z, hz, rfl⟩ := map_ref_at hj
                    have hzm := List.mem_of_getElem? hz
                    have jl : j < rz.length := (List.getElem?_eq_some_iff.mp hz).1
                    have hz1 : IL H22 z.1 z.2 := (hR21.kp0 E22 fun _ => nt_gR).all z hzm
                    refine ⟨rfl, yesT ?_⟩
                    refine ⟨_, rfl, z.1, _, rfl, .inl hz1.sq, _, hD22, small (by rw [List.length_map, List.length_map, List.length_take]; omega), E22.mut hD2, ?_⟩
                    show upd _ _ _ _ = _
                    rw [upd_same, List.take_succ, List.getElem?_map, hz, List.map_append, List.map_append, List.length_map]
                    rfl
                  · rintro H22 ⟨E22, hD22⟩
                    rw [List.length_map, List.take_of_length_le (by rw [List.length_map]; exact Nat.le_refl _)] at hD22
                    have E1422 := E1421.trans E22
                    refine ⟨D2, _, rfl, hD22.sq, _, _, rfl, rfl, rfl, _, rfl, ?_⟩
                    rw [sum_lens, List.length_map]
                    have elen : (ts.length : Int) = (n : Int) * (t : Int) - (lens (rz.map (·.2)) : Int) := by
                      rw [lF, List.length_map] at lenF
                      have : ((n * t : Nat) : Int) = (n : Int) * (t : Int) := by push_cast; rfl
                      omega
                    refine iteN (fun h => absurd (congrArg V.int elen) h) fun _ => ?_
                    have hta22 := hta21.kp0 E22 fun _ => nt_gA
                    have B22 := B14.kp0 E1422
                    -- the cut
                    refine ⟨_, rfl, _, rfl, ta, _, rfl, .inl hta22.sq, _, 1, rfl, rfl, b, c, _, rfl, B22, by rw [List.length_map]; omega, by rw [List.length_map]; omega, fun k H23 k0 k1 B23 E23 => ?_⟩
                    rw [List.length_map] at k1
                    obtain ⟨k, rfl⟩ := Int.eq_ofNat_of_zero_le k0
                    have kl : k ≤ ts.length := by omega
                    have C23 := (C14.kp0 E1422).box B22 E23
                    have hR23 := (hR.kp0 E1422 fun _ => nt_gR).boxR B22 E23
                    have hO23 := (hO14.kp0 E1422).box B22 E23
                    have hta23 : SL H23 ta gA ts := hta22.kp E23 (B22.sl hta22) (fun z hz h => by
                      have h1 := hta22.all z hz
                      cases hz2 : z.2 with
                      | w e => rw [hz2] at h1; exact B22.tup h1 h
                      | p s r e => rw [hz2] at h1; exact B22.tup h1 h) fun _ => nt_gA
                    have htb22 := (htb20.kp0 E21 fun _ => nt_gR).kp0 E22 fun _ => nt_gR
                    have htb23 := htb22.boxR B22 E23
                    have tg23 := E23.t _ (E1422.t _ tg14)
                    have S' : Strong (Lof (ls.map (·.2))) n := by rw [eL]; exact S
                    have VV' : Valid n owners.length (rz.map (·.2)) := by rw [ol]; exact VV
                    have R' : Run (Lof (ls.map (·.2))) (hm owners) owners.length (rz.map (·.2)) (ts.map (·.2)) (fs.map (·.2)) := by rw [eL, ol]; exact R
                    -- the middle
                    refine ⟨_, rfl, _, rfl, _, rfl, _, rfl, (k : Int), rfl, ta, _, rfl, hta23.sq, fun tq htq => ?_⟩
                    rw [cut_refs_take ts k kl]
                    have hTq : SL (upd H23 tq (.lst ((ts.take k).map fun z => V.ref z.1))) tq gA (ts.take k) := hta23.sub htq fun z hz => List.mem_of_mem_take hz
                    have E24 : Kp [] H23 (upd H23 tq (.lst ((ts.take k).map fun z => V.ref z.1))) := Kp.new htq
                    generalize upd H23 tq (.lst ((ts.take k).map fun z => V.ref z.1)) = H24 at hTq E24
                    refine ⟨ow, pr, tq, n, t, owners, rz, ts.take k, rfl, hO23.kp0 E24, ol, oo, hR23.kp0 E24 (fun _ => nt_gR), rzl, by omega, (fun r hr => Nat.le_trans (rle r hr) (by decide)), hTq, (fun z hz => actF _ (List.mem_map.mpr ⟨z, List.mem_of_mem_take hz, rfl⟩)), by rw [List.length_take]; omega, fun pm H25 Lm E25 => ?_⟩
                    have E2325 := E24.trans E25
                    obtain ⟨ms, hM25, em⟩ := Lm.sl
                    have VM : Valid n t (ms.map (·.2)) := by
                      rw [em, List.map_take]
                      exact R.valid_take N VV k
                    have ml : ms.length = n := by have := VM.len; rwa [List.length_map] at this
                    have vr : ∀ {ws : List (Addr × List Int)}, Valid n t (ws.map (·.2)) → ∀ z ∈ ws, z.2.length ≤ 2000 := fun V z hz => Nat.le_trans (row_len (V.nd _ (List.mem_map.mpr ⟨z, hz, rfl⟩)) (V.rg _ (List.mem_map.mpr ⟨z, hz, rfl⟩))) (by omega)
                    have A25 : ∀ {H' : Hp} {q : Addr} {ws : List (Addr × List Int)}, Kp [] H23 H' → SL H' q gR ws → Valid n t (ws.map (·.2)) → AskIn K Pt H' y x n l2 ls owners q ws := fun e h V => ⟨C23.kp0 e, h, NO, by have := V.len; rw [List.length_map] at this; omega, vr V, e.t _ tg23⟩
                    -- asked thrice
                    refine ⟨_, rfl, _, rfl, _, rfl, _, rfl, y, x, n, l2, ls, owners, pr, ta, tb, rz, ts, fs, rfl, A25 E2325 (hR23.kp0 E2325 fun _ => nt_gR) VV, hta23.kp0 E2325 (fun _ => nt_gA), htb23.kp0 E2325 (fun _ => nt_gR), S', VV', R', by omega, fun H26 E26 => ⟨_, rfl, iteF ?_⟩⟩
                    have E2326 := E2325.trans E26
                    have hta26 := hta23.kp0 E2326 fun _ => nt_gA
                    refine ⟨_, rfl, _, rfl, _, rfl, _, rfl, (k : Int), rfl, ta, _, rfl, hta26.sq, fun tq2 htq2 => ?_⟩
                    rw [cut_refs_drop ts k kl]
                    have hTq2 : SL (upd H26 tq2 (.lst ((ts.drop k).map fun z => V.ref z.1))) tq2 gA (ts.drop k) := hta26.sub htq2 fun z hz => List.mem_of_mem_drop hz
                    have E27 : Kp [] H26 (upd H26 tq2 (.lst ((ts.drop k).map fun z => V.ref z.1))) := Kp.new htq2
                    generalize upd H26 tq2 (.lst ((ts.drop k).map fun z => V.ref z.1)) = H27 at hTq2 E27
                    have E2327 := E2326.trans E27
                    have Rk : Run (Lof (ls.map (·.2))) (hm owners) owners.length (ms.map (·.2)) ((ts.drop k).map (·.2)) (fs.map (·.2)) := by
                      rw [em, ol, eL, List.map_take, List.map_drop]
                      exact R.drop k
                    refine ⟨_, rfl, y, x, n, l2, ls, owners, pm, tq2, tb, ms, ts.drop k, fs, rfl, A25 E2327 (hM25.kp0 (E26.trans E27) fun _ => nt_gR) VM, hTq2, htb23.kp0 E2327 (fun _ => nt_gR), S', by rw [ol]; exact VM, Rk, by rw [List.length_drop]; omega, fun H28 E28 => ⟨_, rfl, iteF ?_⟩⟩
                    have E2328 := E2327.trans E28
                    refine ⟨_, rfl, _, rfl, Nat.zero_le _, fun e0 he0 => ?_⟩
                    have hE0 : SL (upd H28 e0 (.lst [])) e0 gA [] := SL.nil
                    have E29 : Kp [] H28 (upd H28 e0 (.lst [])) := Kp.new he0
                    generalize upd H28 e0 (.lst []) = H29 at hE0 E29
                    have E2329 := E2328.trans E29
                    refine ⟨_, rfl, y, x, n, l2, ls, owners, tb, e0, tb, fs, [], fs, rfl, A25 E2329 (htb23.kp0 E2329 fun _ => nt_gR) VF, hE0, htb23.kp0 E2329 (fun _ => nt_gR), S', by rw [ol]; exact VF, R'.end, Nat.zero_le _, fun H30 E30 => hQ H30⟩
end
end Ps

set_option maxHeartbeats 0
/-! PsHead: the top is run; what it has left is told. -/
namespace Ps
open PySem PySem.Spec PyProof.Rows L2
open He (ga ma eqO eqO_ok ba)
abbrev pL : Program := PySem.Challenge.pw_pullstore_k23_whole_finishing
/-! ### the errors -/
def excB (K : PySem.W.Frag) (C : Addr) : Bool := match K.lookup C with
  | some ⟨.type "type", _, .cls cd, sl⟩ => (match cd.mro, sl.toList with
    | .ref C' :: bm, [_, _, _, _, some (.builtin n), _] => C' == C && (n == "ValueError.__new__" && (!cd.hasDel && (cd.hasDict && PySem.HandSPX.refsVE bm)))
    | _, _ => false)
  | _ => false
theorem excB_ok {K : PySem.W.Frag} {C : Addr} (h : excB K C = true) : ∃ nm q N bs bm sn sub ab col dd k0 k1 k2 k3 k5, K.lookup C = some (excClassObj nm q C N bs bm true sn sub ab col dd k0 k1 k2 k3 k5 "ValueError.__new__") ∧ PySem.HandSPX.refsVE bm = true := by
  unfold excB at h
  split at h
  · rename_i dd cd sl ho
    split at h
    · rename_i C' bm k0 k1 k2 k3 n k5 hm hs
      simp only [Bool.and_eq_true, beq_iff_eq, Bool.not_eq_true'] at h
      obtain ⟨rfl, rfl, hdel, hdct, ht⟩ := h
      obtain ⟨nm, bs, mro, ns, qn, hd, sn, sub, ab, col, del⟩ := cd
      dsimp only at hm hdel hdct
      subst hm hdel hdct
      have hsl : sl = #[k0, k1, k2, k3, some (.builtin "ValueError.__new__"), k5] := by
        obtain ⟨l⟩ := sl
        simp only at hs
        rw [hs]
      subst hsl
      exact ⟨nm, qn, ns, bs, bm, sn, sub, ab, col, dd, k0, k1, k2, k3, k5, ho, ht⟩
    · cases h
  · cases h
abbrev FnE : Type := Option (Str × Str × Arguments × FuncBody × Scope × Addr × List Str × Addr)
def fnC (K : PySem.W.Frag) (a : Addr) : FnE := match K.lookup a with
  | some ⟨_, _, .func fd, _⟩ => some (fd.name, fd.qualname, fd.params, fd.body, fd.scope, fd.globals, fd.closure.map (·.1), fd.builtins)
  | _ => none
def valC (x q : Str) (st : Stmt) (cl : List Str) : FnE := some (x, q, defArgs st, .stmts (defBody st), defScope st, mainGlobals, cl, builtinsNs)
/-- the file's name in a code object -/
def strAt (vs : Array Value) : Option Str := match (vs[2]? : Option Value) with
  | some (Value.str f _) => some f
  | _ => none
theorem strAt_ok {vs : Array Value} {f : Str} (h : strAt vs = some f) : ∃ tf, vs[2]? = some (.str f tf) := by
  unfold strAt at h
  split at h
  · rename_i g t e
    cases h
    exact ⟨t, e⟩
  · cases h
/-- the __init__ of an error class: its code, its cell -/
def initB (K : PySem.W.Frag) (C fI : Addr) (q file : Str) : Bool := match K.lookup fI with
  | some ⟨_, _, .func fd, _⟩ => (match fd.code, fd.closure, fd.defaults, fd.kwdefaults with
    | .ref cda, [(_, cc)], .none, .none => PySem.W.codeIn K (.ref cda) q && ((match K.lookup cda with
      | some ⟨_, _, .fields vs, _⟩ => (match strAt vs with
        | some f => file == f
        | none => false)
      | _ => false) && (match K.lookup cc with
      | some ⟨_, _, .cell (some (.ref C')), _⟩ => C' == C
      | _ => false))
    | _, _, _, _ => false)
  | _ => false
theorem initB_ok {K : PySem.W.Frag} {C fI : Addr} {q fl : Str} {st : Stmt} (h : initB K C fI q fl = true) (e : fnC K fI = valC "__init__" q st ["__class__"]) :
    ∃ (oc : Value) (od : Option Addr) (osl : Array (Option Value)) (doc pm : Value) (an : Option Addr) (ct : Value) (cda cc : Addr) (ccl : Value) (cdd : Option Addr) (vs : Array Value) (ccs : Array (Option Value)) (file : Str) (tf : Tok) (cl : Value) (cld : Option Addr) (csl : Array (Option Value)),
      K.lookup fI = some ⟨oc, od, .func (PySem.W.ksFn "__init__" q (defArgs st) (defBody st) (defScope st) .none .none doc pm an (.ref cda) ct cc), osl⟩ ∧ PySem.W.codeIn K (.ref cda) q = true ∧
      K.lookup cda = some ⟨ccl, cdd, .fields vs, ccs⟩ ∧ vs[2]? = some (.str file tf) ∧ (fl == file) = true ∧ K.lookup cc = some ⟨cl, cld, .cell (some (.ref C)), csl⟩ := by
  unfold initB at h
  unfold fnC at e
  split at h
  · rename_i oc od fd osl ho
    rw [ho] at e
    split at h
    · rename_i cda nm cc h1 h2 h3 h4
      obtain ⟨c1, h⟩ := ba h
      obtain ⟨c2, c3⟩ := ba h
      split at c2
      · rename_i ccl cdd vs ccs ho2
        split at c2
        · rename_i f hv
          obtain ⟨tf, hv⟩ := strAt_ok hv
          split at c3
          · rename_i cl cld C' csl ho3
            obtain ⟨n1, n2, n3, n4, n5, n6, n7, n8, n9, n10, n11, n12, n13, n14, n15⟩ := fd
            dsimp only at h1 h2 h3 h4 e
            subst h1 h2 h3 h4
            have e2 : (some (n1, n2, n3, n4, n5, n6, [nm], n15) : FnE) = valC "__init__" q st ["__class__"] := e
            unfold valC at e2
            simp only [Option.some.injEq, Prod.mk.injEq, List.cons.injEq, and_true] at e2
            obtain ⟨g1, g2, g3, g4, g5, g6, g7, g8⟩ := e2
            subst g1 g2 g3 g4 g5 g6 g7 g8
            rw [beq_iff_eq.mp c3] at ho3
            exact ⟨_, _, _, _, _, _, _, cda, cc, _, _, vs, _, f, tf, _, _, _, ho, c1, ho2, hv, c2, ho3⟩
          · cases c3
        · cases c2
      · cases c2
    · cases h
  · cases h
def errB (P : Program) (K : PySem.W.Frag) (x q : Str) : Bool := excB K (ga K x) && (eqO (PySem.W.findIn K (.ref (ga K x)) "__setattr__") (some (some (.builtin "object.__setattr__"))) && (eqO (PySem.W.findIn K (.ref (ga K x)) "__init__") (some (some (.ref (ma K (ga K x) "__init__")))) &&
  (decide (PySem.W.typeIn K (.ref (ma K (ga K x) "__init__")) = some (.type "function")) && (PySem.W.keepIn K (.ref (ga K x)) && (decide (PySem.W.subIn K (.ref (ga K x)) (.type "BaseException") = some true) && (decide (PySem.W.typeIn K (.ref (ga K x)) = some (.type "type")) &&
  (eqO (PySem.W.ks_superIn K (ga K x) (ga K x) "__init__") (some (some (.builtin "ValueError.__init__"))) && (decide (PySem.W.subIn K (.ref (ga K x)) (.type "ValueError") = some true) && (decide (PySem.W.mroIn K (ga K x) (.ref (ga K x)) = some true) &&
  (eqO (PySem.W.nsIn K cStatics "thirdparty.any") (some none) && initB K (ga K x) (ma K (ga K x) "__init__") q P.main.file))))))))))
theorem errB_ok {P : Program} {K : PySem.W.Frag} {mg : Str → Option Value} {x q : Str} {st : Stmt} (h : errB P K x q = true) (g : mg x = some (.ref (ga K x))) (e : fnC K (ma K (ga K x) "__init__") = valC "__init__" q st ["__class__"]) (ht : (P.main.scope.names.lookup ("super" : Str)).isSome = false) :
    ErrT P K mg x q st (ga K x) (ma K (ga K x) "__init__") := by
  obtain ⟨c1, h⟩ := ba h
  obtain ⟨c2, h⟩ := ba h
  obtain ⟨c3, h⟩ := ba h
  obtain ⟨c4, h⟩ := ba h
  obtain ⟨c5, h⟩ := ba h
  obtain ⟨c6, h⟩ := ba h
  obtain ⟨c7, h⟩ := ba h
  obtain ⟨c8, h⟩ := ba h
  obtain ⟨c9, h⟩ := ba h
  obtain ⟨c10, h⟩ := ba h
  obtain ⟨c11, c12⟩ := ba h
  exact ⟨g, excB_ok c1, eqO_ok c2, eqO_ok c3, of_decide_eq_true c4, c5, of_decide_eq_true c6, of_decide_eq_true c7, eqO_ok c8, of_decide_eq_true c9, of_decide_eq_true c10, eqO_ok c11, initB_ok c12 e, ht⟩
def excCB (K : PySem.W.Frag) (D : Addr) : Bool := eqO (PySem.W.findIn K (.ref D) "__getattribute__") (some (some (.builtin "BaseException.__getattribute__"))) && (eqO (PySem.W.findIn K (.ref D) "__getattr__") (some none) && (decide (PySem.W.subIn K (.ref D) (.type "BaseException") = some true) && (PySem.W.hasDictIn K D &&
  (eqO (PySem.W.findIn K (.ref D) "__class__") (some (some (.builtin "object.__class__"))) && (eqO (PySem.W.specialIn K (.builtin "object.__class__") "__get__") (some (some (.builtin "getset_descriptor.__get__"))) && (decide (PySem.W.takesIn K (.builtin "object.__class__") = some true) && decide (PySem.W.mroIn K D (.type "object") = some true)))))))
theorem excCB_ok {K : PySem.W.Frag} {D : Addr} (h : excCB K D = true) : ExcC K D := by
  obtain ⟨c1, h⟩ := ba h
  obtain ⟨c2, h⟩ := ba h
  obtain ⟨c3, h⟩ := ba h
  obtain ⟨c4, h⟩ := ba h
  obtain ⟨c5, h⟩ := ba h
  obtain ⟨c6, h⟩ := ba h
  obtain ⟨c7, c8⟩ := ba h
  exact ⟨eqO_ok c1, eqO_ok c2, of_decide_eq_true c3, c4, eqO_ok c5, eqO_ok c6, of_decide_eq_true c7, of_decide_eq_true c8⟩
def kitB' (K : PySem.W.Frag) (a c : Value) (b : Bool) : Bool := decide (PySem.W.kitOne K a c = some b)
/-! ### the property, the constants -/
def propB (K : PySem.W.Frag) : Bool := eqO (PySem.W.findIn K (.ref (aN K)) "links") (some (some (.ref (ma K (aN K) "links")))) && (eqO (PySem.W.specialIn K (.ref (ma K (aN K) "links")) "__get__") (some (some (.builtin "property.__get__"))) && (decide (PySem.W.takesIn K (.ref (ma K (aN K) "links")) = some true) &&
  (match PySem.W.recIn K (ma K (aN K) "links") "property" with
  | some (.ref _ :: _) => true
  | _ => false)))
theorem propB_ok {K : PySem.W.Frag} (h : propB K = true) : PropOf K (aN K) "links" (ma K (aN K) "links") (propG K (aN K) "links") := by
  obtain ⟨c1, h⟩ := ba h
  obtain ⟨c2, h⟩ := ba h
  obtain ⟨c3, c4⟩ := ba h
  refine ⟨eqO_ok c1, eqO_ok c2, of_decide_eq_true c3, ?_⟩
  unfold propG
  split at c4
  · rename_i g r e
    rw [e]
    exact ⟨r, rfl⟩
  · cases c4
def dLinks : He5.DefA := ⟨fun K => propG K (aN K) "links", "links", "Net.links", defArgs sLinks, defBody sLinks, defScope sLinks, [], []⟩
def readB (K : PySem.W.Frag) (C : Addr) : Bool := PySem.W.readsIn K C (.type "type") && eqO (PySem.W.specialIn K (.ref C) "__getattribute__") (some (some (.builtin "type.__getattribute__")))
theorem readB_ok {K : PySem.W.Frag} {C : Addr} (h : readB K C = true) : ClX.CRead K C (.type "type") := by
  obtain ⟨c1, c2⟩ := ba h
  exact ⟨c1, eqO_ok c2⟩
def mostB (K : PySem.W.Frag) (C : Addr) (n : Int) : Bool := match PySem.W.findCls K (.ref C) (.type "type") "MOST" with
  | some (.val (.int i _)) => decide (i = n)
  | _ => false
theorem mostB_ok {K : PySem.W.Frag} {C : Addr} {n : Int} (h : mostB K C n = true) : ∃ u, ClX.CVal K C (.type "type") "MOST" (.int n) u := by
  unfold mostB at h
  split at h
  · rename_i i t e
    rw [of_decide_eq_true h] at e
    exact ⟨_, e, ⟨t, rfl⟩⟩
  · cases h
/-! ### the Hook -/
def faL : List He.Fa := (fnL.filter fun d => d.at_.2.isNone).map (fun d => He.Fa.glo d.at_.1) ++ (frees.map fun x => He.Fa.free x) ++ (glos.map fun x => He.Fa.glo x) ++
  [.str "FIRST" "first", .cls "Net", .cls "Cluster", .noat "Net" "count", .noat "Net" "_linked", .noat "Net" "_links", .noat "Cluster" "net", .noat "Cluster" "size", .noat "Cluster" "_homes", .mkr "Net", .mkr "Cluster", .meth "Cluster" "home_of",
    .exm "InvalidLogs" "StoreError" true, .exm "NotStrong" "StoreError" true, .noat "InvalidLogs" "replica"]
def tfL : List He.Defn := [("_is_log", none)]
def exL (K : PySem.W.Frag) : Bool := errB pL K "InvalidLogs" "InvalidLogs.__init__" && (errB pL K "NotStrong" "NotStrong.__init__" && (excCB K (aL K) && (excCB K (aS K) && (propB K && (dLinks.ok K && (readB K (aN K) && (readB K (aC K) && (mostB K (aN K) 24 && (mostB K (aC K) 60 &&
  (kitB' K (.ref (aS K)) (.ref (aS K)) true && (kitB' K (.ref (aS K)) (.ref (aL K)) false && (kitB' K (.ref (aL K)) (.ref (aS K)) false && (kitB' K (.ref (aL K)) (.ref (aL K)) true && (kitB' K (.ref (aS K)) (.type "ValueError") true && kitB' K (.ref (aL K)) (.type "ValueError") true))))))))))))))
abbrev AlY : Type := He.AlX × (List FnE × He.FnW)
def obsF (K : PySem.W.Frag) : List FnE × He.FnW := ([fnC K (ma K (aL K) "__init__"), fnC K (ma K (aS K) "__init__")], He5.fnA K (propG K (aN K) "links"))
def valF : List FnE × He.FnW := ([valC "__init__" "InvalidLogs.__init__" sIL ["__class__"], valC "__init__" "NotStrong.__init__" sNS ["__class__"]], dLinks.val)
def obsK (g : Addr → Option Obj) (K : PySem.W.Frag) : AlY := ((He.obsT faL fnL [] K, exL K && He.tabsB g tfL K), obsF K)
def asY (g : Addr → Option Obj) : List Addr := He.asD g 6 ++ [cStatics]
def obsY (g : Addr → Option Obj) : AlY := obsK g (He.frT g (asY g))
theorem pair_eq {α β γ : Type} {a a' : α} {b b' : β} {c c' : γ} (e : (((a, b), c) : (α × β) × γ) = ((a', b'), c')) : a = a' ∧ b = b' ∧ c = c' := by
  injection e with e1 e2
  injection e1 with e3 e4
  exact ⟨e3, e4, e2⟩
theorem saysX_as {fa : List He.Fa} {fn : List He.DefD} {ts : List He.Tab} {tf : List He.Defn} {ex : PySem.W.Frag → Bool} {w : World} {h : Heap} {as : List Addr} (e1 : He.obsT fa fn ts (He.frT h.get? as) = He.valT fn ts w) (e2 : (ex (He.frT h.get? as) && He.tabsB h.get? tf (He.frT h.get? as)) = true) :
    He.SaysX fa fn ts tf ex w h (He.frT h.get? as) := by
  obtain ⟨h1, h2⟩ := ba e2
  have key : ∀ p ∈ tf, PySem.W.codeHdIn (He.frT h.get? as) (He.cT (He.frT h.get? as) p).1 (He.cT (He.frT h.get? as) p).2 = true ∧ ∃ o, h.get? (He.cT (He.frT h.get? as) p).2 = some o ∧ He.emptyTab o = true := fun p hp => by
    obtain ⟨h3, h4⟩ := ba (List.all_eq_true.mp h2 p hp)
    refine ⟨h3, ?_⟩
    cases q : h.get? (He.cT (He.frT h.get? as) p).2 with
    | none =>
      rw [q] at h4
      cases h4
    | some o =>
      rw [q] at h4
      exact ⟨o, rfl, h4⟩
  exact ⟨e1, h1, fun p hp => (key p hp).1, fun p hp => by
    obtain ⟨_, o, q, z⟩ := key p hp
    exact He.frT_none q z, fun p hp => by
    obtain ⟨_, o, q, z⟩ := key p hp
    rw [q, He.emptyTab_eq z]⟩
def SaysY (w : World) (h : Heap) (K : PySem.W.Frag) : Prop := He.SaysX faL fnL [] tfL exL w h K ∧ obsF K = valF
def hookY : PySem.W.Hook where
  α := AlY
  obs := fun s => obsY s.heap.get?
  val := fun w => (He.valX fnL [] w, valF)
  says := fun w h => ∃ K : PySem.W.Frag, K.In h ∧ SaysY w h K
  of := fun _ _ e => ⟨_, He.frT_in, saysX_as (pair_eq e).1 (pair_eq e).2.1, (pair_eq e).2.2⟩
  keeps := fun _ _ _ ⟨K, hK, c, c2⟩ k => ⟨K, PySem.W.Frag.In.keeps hK k, ⟨c.t, c.more, c.hd, c.out, fun p hp => k _ _ (c.empty p hp)⟩, c2⟩
end Ps

set_option maxHeartbeats 0
/-! PsRun: the run of the top. -/
namespace Ps
open PySem PySem.Spec PyProof.Rows L2
abbrev R : PySem.W.OpenRow := PySem.W.OpenLaw.row PySem.Challenge.rw_pullstore_k23_whole_finishing
def ob (s : PySem.W.SharedT) : AlY := obsY (HandSHeadRun.getT s)
theorem obsY_eq {g : Addr → Option Obj} {s : Shared} (h : ∀ a, g a = s.heap.get? a) : obsY g = hookY.obs s := by
  have e : g = s.heap.get? := funext h
  rw [e] <;> rfl
theorem ob_eq (s : PySem.W.SharedT) : ob s = hookY.obs s.abs := obsY_eq (HandSHeadRun.getT_eq s)
def loose : List Str := ["_wall", "StoreError", "InvalidNet", "InvalidHomes", "InvalidLogs", "UnknownEntry", "NotStrong", "copy_logs", "check_logs", "unwritten", "_is_log", "spread", "is_strong", "check_strong", "FIRST", "offered", "place_of", "action_entry", "appended", "_append_to", "_first_links", "settle_from", "finish_from", "finish", "finished_logs", "Net", "_check_count", "_is_below", "Cluster"]
def loose2 : List Str := ["_law_box", "_law_draw", "_law_order", "_law_tree", "_law_links", "_law_reach", "_law_strong", "_law_same", "_law_offer", "_law_run", "_law_bad", "_law_spoil", "_law_end", "_law_rows", "_law_told", "_law_asked", "_law_after"]
theorem run (w : World) : HandSHeadRun.RunEq R (PySem.W.view R.prog [55]) hookY ob 5000 (loose ++ loose2) w := by
  intro os
  kernel_rfl
end Ps

set_option maxHeartbeats 0
/-! PsEnd: facts, and the end. -/
namespace Ps
open PySem PySem.Spec PyProof.Rows L2
open He (ga ma)
section
variable {K : PySem.W.Frag} {h : Heap} {mg : Str → Option Value} {w : World}
theorem fa_glo {d : He.DefD} (hd : d ∈ fnL) (hn : d.at_.2 = none) : He.Fa.glo d.at_.1 ∈ faL := by
  unfold faL
  refine List.mem_append_left _ (List.mem_append_left _ (List.mem_append_left _ (List.mem_map.mpr ⟨d, List.mem_filter.mpr ⟨hd, ?_⟩, rfl⟩)))
  rw [hn]
  rfl
theorem fa_free {x : Str} (hx : x ∈ frees) : He.Fa.free x ∈ faL := by
  unfold faL
  exact List.mem_append_left _ (List.mem_append_left _ (List.mem_append_right _ (List.mem_map.mpr ⟨x, hx, rfl⟩)))
theorem fa_cls {x : Str} (hx : x ∈ glos) : He.Fa.glo x ∈ faL := by
  unfold faL
  exact List.mem_append_left _ (List.mem_append_right _ (List.mem_map.mpr ⟨x, hx, rfl⟩))
theorem fa_more {f : He.Fa} (i : Nat) (hf : ([.str "FIRST" "first", .cls "Net", .cls "Cluster", .noat "Net" "count", .noat "Net" "_linked", .noat "Net" "_links", .noat "Cluster" "net", .noat "Cluster" "size", .noat "Cluster" "_homes", .mkr "Net", .mkr "Cluster", .meth "Cluster" "home_of",
    .exm "InvalidLogs" "StoreError" true, .exm "NotStrong" "StoreError" true, .noat "InvalidLogs" "replica"] : List He.Fa)[i]? = some f) : f ∈ faL := by
  unfold faL
  exact List.mem_append_right _ (List.mem_of_getElem? hf)
theorem fad_none {d : He.DefD} (hn : d.at_.2 = none) : He.fAd K d.at_ = ga K d.at_.1 := by
  unfold He.fAd
  rw [hn]
theorem txt_of (X : K.In h) (G : h.Ns mainGlobals mg) (c : He.SaysD faL fnL K) : Txt K mg where
  d := fun i d hd => c.def_ i hd
  g := fun i d hd hn => by
    rw [fad_none hn]
    exact He.glo_ok X G (c.facts (fa_glo (List.mem_of_getElem? hd) hn))
  n := fun i x hx => He.free_ok X G (c.facts (fa_free (List.mem_of_getElem? hx)))
theorem txe_of (X : K.In h) (G : h.Ns mainGlobals mg) (Y : SaysY w h K) : TxE pL K mg := by
  obtain ⟨S, hf⟩ := Y
  have c : He.SaysD faL fnL K := congrArg (fun z : He.AlT => z.1) S.t
  have g : ∀ x ∈ glos, mg x = some (.ref (ga K x)) := fun x hx => He.glo_ok X G (c.facts (fa_cls hx))
  have e := S.more
  unfold exL at e
  obtain ⟨e1, e⟩ := He.ba e
  obtain ⟨e2, e⟩ := He.ba e
  obtain ⟨e3, e⟩ := He.ba e
  obtain ⟨e4, e⟩ := He.ba e
  obtain ⟨e5, e⟩ := He.ba e
  obtain ⟨e6, e⟩ := He.ba e
  obtain ⟨e7, e⟩ := He.ba e
  obtain ⟨e8, e⟩ := He.ba e
  obtain ⟨e9, e⟩ := He.ba e
  obtain ⟨e10, e⟩ := He.ba e
  obtain ⟨e11, e⟩ := He.ba e
  obtain ⟨e12, e⟩ := He.ba e
  obtain ⟨e13, e⟩ := He.ba e
  obtain ⟨e14, e⟩ := He.ba e
  obtain ⟨e15, e16⟩ := He.ba e
  unfold obsF valF at hf
  injection hf with hf1 hf2
  injection hf1 with f1 hf1
  injection hf1 with f2 _
  have ht : (pL.main.scope.names.lookup ("super" : Str)).isSome = false := by decide +kernel
  exact { txt_of X G c with
    gl := g
    clN := He.cls_ok (c.facts (fa_more 1 rfl))
    clC := He.cls_ok (c.facts (fa_more 2 rfl))
    naN := fun f hf => by
      rcases List.mem_cons.mp hf with rfl | hf
      · exact He.noat_ok (c.facts (fa_more 3 rfl))
      · rcases List.mem_cons.mp hf with rfl | hf
        · exact He.noat_ok (c.facts (fa_more 4 rfl))
        · rw [List.mem_singleton.mp hf]
          exact He.noat_ok (c.facts (fa_more 5 rfl))
    naC := fun f hf => by
      rcases List.mem_cons.mp hf with rfl | hf
      · exact He.noat_ok (c.facts (fa_more 6 rfl))
      · rcases List.mem_cons.mp hf with rfl | hf
        · exact He.noat_ok (c.facts (fa_more 7 rfl))
        · rw [List.mem_singleton.mp hf]
          exact He.noat_ok (c.facts (fa_more 8 rfl))
    mkN := He.mkr_ok (c.facts (fa_more 9 rfl))
    mkC := He.mkr_ok (c.facts (fa_more 10 rfl))
    home := He.meth_ok (c.facts (fa_more 11 rfl))
    lnk := propB_ok e5
    lnkF := dLinks.funD hf2 e6
    rdN := readB_ok e7
    rdC := readB_ok e8
    mostN := mostB_ok e9
    mostC := mostB_ok e10
    first := He.str_ok X G (c.facts (fa_more 0 rfl))
    eL := errB_ok e1 (g "InvalidLogs" (by decide)) f1 ht
    eLn := He.noat_ok (c.facts (fa_more 14 rfl))
    eS := errB_ok e2 (g "NotStrong" (by decide)) f2 ht
    exL := excCB_ok e3
    exS := excCB_ok e4
    mL := He.exm_ok (c.facts (fa_more 12 rfl))
    mS := He.exm_ok (c.facts (fa_more 13 rfl))
    kSS := of_decide_eq_true e11
    kSL := of_decide_eq_true e12
    kLS := of_decide_eq_true e13
    kLL := of_decide_eq_true e14
    kSV := of_decide_eq_true e15
    kLV := of_decide_eq_true e16 }
theorem law_at {fa : Addr} (X : K.In h) (G : h.Ns mainGlobals mg) (hfa : mg ("law" : Str) = some (.ref fa)) (Y : SaysY w h K) : LamX.LawAtS PySem.Challenge.rw_pullstore_k23_whole_finishing w K CX0 9 63 "_law_script" mg fa h := by
  have T := txe_of X G Y
  obtain ⟨fd, F⟩ := T.d 36 (dd "law" 55) rfl
  have e := hfa.symm.trans (T.g 36 (dd "law" 55) rfl rfl)
  cases e
  have b := FunD.bindsA (ps := ["_law_script"]) F fun _ _ _ _ _ _ us hl => match us, hl with | [_], _ => rfl
  have S := Y.1
  refine ⟨fd, tfL.map (He.cT K), spLaw K (He.cT K ("_is_log", none)).2, fun p hp => ?_, fun p hp => ?_, fun p hp => ?_, fun s u => b s [u] rfl, fun H a ns hl _ hT hS => ?_, fun base KB GB TB => ?_⟩
  · obtain ⟨q, hq, rfl⟩ := List.mem_map.mp hp
    exact S.empty q hq
  · obtain ⟨q, hq, rfl⟩ := List.mem_map.mp hp
    exact S.out q hq
  · obtain ⟨q, hq, rfl⟩ := List.mem_map.mp hp
    exact PySem.W.codeHd_of_K X (S.hd q hq)
  · refine ⟨a, ns, rfl, hS, Nat.le_trans hl (by decide), ⟨#[], hT _ (List.mem_map.mpr ⟨("_is_log", none), List.mem_singleton.mpr rfl, rfl⟩), ?_⟩, fun _ => rfl⟩
    first | exact True.intro | (show TriplesOk [] ; unfold TriplesOk; trivial) | simp [TriplesOk]
  · have tb := TB (He.cT K ("_is_log", none)) (List.mem_map.mpr ⟨("_is_log", none), List.mem_singleton.mpr rfl, rfl⟩)
    exact ok_law T ⟨tb.code, tb.bm, tb.gP⟩ F
end
end Ps
open PySem PySem.W PySem.Calls PyProof.Rows
theorem PySem.Challenge.cw_pullstore_k23_whole_finishing_holds : PySem.Challenge.rw_pullstore_k23_whole_finishing.Holds := by
  w_on; o_law
  refine HandSHeadRun.head_any (r := OpenLaw.row PySem.Challenge.rw_pullstore_k23_whole_finishing) (q := view (OpenLaw.row PySem.Challenge.rw_pullstore_k23_whole_finishing).prog [55]) (H := Ps.hookY) (ob := Ps.ob) (M := 5000) (loose := Ps.loose ++ Ps.loose2) (d := HandSHeadRun.topDef (OpenLaw.row PySem.Challenge.rw_pullstore_k23_whole_finishing).prog 55) (kwd := []) Ps.ob_eq
    (by kernel_rfl) (fun s => by kernel_rfl) Ps.run (by kernel_rfl) (by kernel_rfl) (by kernel_rfl) (by rfl) (by first | assumption | decide +kernel) (by decide +kernel) ⟨rfl, rfl, rfl, rfl, rfl, by decide +kernel⟩ ?hw ?hc
  case hw => w_witness2
  case hc =>
    refine LamX.walk_ofTsE (l := PySem.Challenge.rw_pullstore_k23_whole_finishing) (n := 63) (k := 9) (x := "_law_script") (CX := fun _ => L2.CX0) rfl (by decide) (by kernel_rfl) ⟨rfl, by decide, by decide⟩ ?F (fun _ _ _ _ _ z => z)
    intro w mg fa h Y G hmg0
    obtain ⟨K, KX, c⟩ := Y
    have hmg : mg ("law" : PySem.Str) = some (.ref fa) := by
      have e : (HandSHeadRun.topDef (OpenLaw.row PySem.Challenge.rw_pullstore_k23_whole_finishing).prog 55).name = ("law" : PySem.Str) := by kernel_rfl
      rw [← e]
      exact hmg0
    exact ⟨K, KX, Ps.law_at KX G hmg c⟩
