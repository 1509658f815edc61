import PyProof.Rows.All
import Wide.All
import OpenK.AllK
import Wide.FinOn
import HandS.ForMost
import HandS.ForExc
import HandS.Flow
import HandS.Style
import HandS.Strs
import HandS.Conv
import HandS.OwnEq
import HandS.IsInst
import HandS.Lambda
import HandS.ExcInit
import HandS.Star
import HandS.MakeKwOnly
import HandS.SortKw
import HandS.Wide
import HandS.HeadWalk
import HandS.HeadHook4
import HandS.Head0
import HandS.Head1
import HandS.Head2
import HandS.SetBool
import HandS.Walk
import HandS.Rev
import HandS.Codes
import PySem.Challenge.RW_anyseven_k15_whole_rules_of_one_length_t
import KE.DataMinMax
import KE.GoesEnum
import KE.KTypeName
import HandS.ExcSuper
import KE.KSuper
import HandS.WordsList
import HandS.Words
import HandS.Defaults
set_option Elab.async false
set_option linter.all false
set_option maxRecDepth 100000
set_option maxHeartbeats 4000000
/-! K15M: the plain mathematics of rules of one length, no program in sight. -/
namespace K15
/-- a plain rule -/
structure Rl where
  len : Int
  lo : Option Int
  hi : Option Int

def bOk : Option Int → Option Int → Bool
  | none, none => false
  | some _, none => true
  | none, some _ => true
  | some a, some b => decide (a ≤ b)
def Rl.Ok (r : Rl) : Prop := 1 ≤ r.len ∧ r.len ≤ 48 ∧ bOk r.lo r.hi = true
def gap : Option Int → Option Int → Bool
  | some a, some b => decide (b < a)
  | _, _ => false
/-- the two leave nothing, of a length up to d -/
def hit (d : Int) (r s : Rl) : Bool := decide (r.len ≤ d) && (decide (r.len = s.len) && gap r.lo s.hi)
def NoHit (d : Int) (rs : List Rl) : Prop := ∀ r ∈ rs, ∀ s ∈ rs, hit d r s = false
/-- i, j the first places that hit -/
structure First (d : Int) (rs : List Rl) (i j : Nat) : Prop where
  at_ : ∃ r s, rs[i]? = some r ∧ rs[j]? = some s ∧ hit d r s = true
  fst : ∀ i' j' r s, rs[i']? = some r → rs[j']? = some s → hit d r s = true → i < i' ∨ (i = i' ∧ j ≤ j')
theorem First.inj {d : Int} {rs : List Rl} {i j i' j' : Nat} (a : First d rs i j) (b : First d rs i' j') : i = i' ∧ j = j' := by
  obtain ⟨r, s, h1, h2, h3⟩ := a.at_
  obtain ⟨r', s', k1, k2, k3⟩ := b.at_
  have x := a.fst _ _ _ _ k1 k2 k3
  have y := b.fst _ _ _ _ h1 h2 h3
  omega
theorem First.no {d : Int} {rs : List Rl} {i j : Nat} (a : First d rs i j) (n : NoHit d rs) : False := by
  obtain ⟨r, s, h1, h2, h3⟩ := a.at_
  have := n r (List.mem_of_getElem? h1) s (List.mem_of_getElem? h2)
  rw [h3] at this
  cases this

/-! ### greatest and least -/
def mx : List Int → Option Int
  | [] => none
  | a :: r => some (match mx r with
    | none => a
    | some b => if b ≤ a then a else b)
def mn : List Int → Option Int
  | [] => none
  | a :: r => some (match mn r with
    | none => a
    | some b => if a ≤ b then a else b)
theorem mx_none {l : List Int} : mx l = none ↔ l = [] := by
  cases l with
  | nil => simp [mx]
  | cons a r => simp [mx]
theorem mn_none {l : List Int} : mn l = none ↔ l = [] := by
  cases l with
  | nil => simp [mn]
  | cons a r => simp [mn]
theorem mx_spec : ∀ {l : List Int} {m : Int}, mx l = some m → m ∈ l ∧ ∀ y ∈ l, y ≤ m
  | [], m, h => by simp [mx] at h
  | a :: r, m, h => by
    cases e : mx r with
    | none =>
      simp only [mx, e, Option.some.injEq] at h
      have : r = [] := mx_none.mp e
      subst this
      subst h
      exact ⟨by simp, by simp⟩
    | some b =>
      obtain ⟨h1, h2⟩ := mx_spec e
      simp only [mx, e, Option.some.injEq] at h
      by_cases c : b ≤ a
      · rw [if_pos c] at h
        subst h
        refine ⟨by simp, fun y hy => ?_⟩
        rcases List.mem_cons.mp hy with rfl | hy
        · exact Int.le_refl _
        · exact Int.le_trans (h2 y hy) c
      · rw [if_neg c] at h
        subst h
        refine ⟨List.mem_cons_of_mem _ h1, fun y hy => ?_⟩
        rcases List.mem_cons.mp hy with rfl | hy
        · omega
        · exact h2 y hy
theorem mn_spec : ∀ {l : List Int} {m : Int}, mn l = some m → m ∈ l ∧ ∀ y ∈ l, m ≤ y
  | [], m, h => by simp [mn] at h
  | a :: r, m, h => by
    cases e : mn r with
    | none =>
      simp only [mn, e, Option.some.injEq] at h
      have : r = [] := mn_none.mp e
      subst this
      subst h
      exact ⟨by simp, by simp⟩
    | some b =>
      obtain ⟨h1, h2⟩ := mn_spec e
      simp only [mn, e, Option.some.injEq] at h
      by_cases c : a ≤ b
      · rw [if_pos c] at h
        subst h
        refine ⟨by simp, fun y hy => ?_⟩
        rcases List.mem_cons.mp hy with rfl | hy
        · exact Int.le_refl _
        · exact Int.le_trans c (h2 y hy)
      · rw [if_neg c] at h
        subst h
        refine ⟨List.mem_cons_of_mem _ h1, fun y hy => ?_⟩
        rcases List.mem_cons.mp hy with rfl | hy
        · omega
        · exact h2 y hy
theorem mx_eq {l : List Int} {m : Int} (h1 : m ∈ l) (h2 : ∀ y ∈ l, y ≤ m) : mx l = some m := by
  cases e : mx l with
  | none =>
    rw [mx_none.mp e] at h1
    cases h1
  | some b =>
    obtain ⟨k1, k2⟩ := mx_spec e
    have := k2 m h1
    have := h2 b k1
    rw [show b = m by omega]
theorem mn_eq {l : List Int} {m : Int} (h1 : m ∈ l) (h2 : ∀ y ∈ l, m ≤ y) : mn l = some m := by
  cases e : mn l with
  | none =>
    rw [mn_none.mp e] at h1
    cases h1
  | some b =>
    obtain ⟨k1, k2⟩ := mn_spec e
    have := k2 m h1
    have := h2 b k1
    rw [show b = m by omega]
theorem mx_same {l k : List Int} (h : ∀ y, y ∈ l ↔ y ∈ k) : mx l = mx k := by
  cases e : mx k with
  | none =>
    have := mx_none.mp e
    subst this
    refine mx_none.mpr ?_
    cases l with
    | nil => rfl
    | cons a r => exact absurd ((h a).mp (by simp)) (by simp)
  | some b =>
    obtain ⟨k1, k2⟩ := mx_spec e
    exact mx_eq ((h b).mpr k1) fun y hy => k2 y ((h y).mp hy)
theorem mn_same {l k : List Int} (h : ∀ y, y ∈ l ↔ y ∈ k) : mn l = mn k := by
  cases e : mn k with
  | none =>
    have := mn_none.mp e
    subst this
    refine mn_none.mpr ?_
    cases l with
    | nil => rfl
    | cons a r => exact absurd ((h a).mp (by simp)) (by simp)
  | some b =>
    obtain ⟨k1, k2⟩ := mn_spec e
    exact mn_eq ((h b).mpr k1) fun y hy => k2 y ((h y).mp hy)

/-! ### what rules of a length say together -/
def atLen (rs : List Rl) (l : Int) : List Rl := rs.filter fun r => decide (r.len = l)
def lows (rs : List Rl) (l : Int) : List Int := (atLen rs l).filterMap (·.lo)
def highs (rs : List Rl) (l : Int) : List Int := (atLen rs l).filterMap (·.hi)
def join (rs : List Rl) (l : Int) : Rl := ⟨l, mx (lows rs l), mn (highs rs l)⟩
def dueAt (rs : List Rl) (l : Int) : List Rl := if lows rs l = [] ∧ highs rs l = [] then [] else [join rs l]
def due (d : Nat) (rs : List Rl) : List Rl := (List.range d).flatMap fun i : Nat => dueAt rs ((i : Int) + 1)
theorem mem_lows {rs : List Rl} {l a : Int} : a ∈ lows rs l ↔ ∃ r ∈ rs, r.len = l ∧ r.lo = some a := by
  unfold lows atLen
  rw [List.mem_filterMap]
  constructor
  · rintro ⟨r, hr, e⟩
    obtain ⟨h1, h2⟩ := List.mem_filter.mp hr
    exact ⟨r, h1, of_decide_eq_true h2, e⟩
  · rintro ⟨r, h1, h2, e⟩
    exact ⟨r, List.mem_filter.mpr ⟨h1, decide_eq_true h2⟩, e⟩
theorem mem_highs {rs : List Rl} {l a : Int} : a ∈ highs rs l ↔ ∃ r ∈ rs, r.len = l ∧ r.hi = some a := by
  unfold highs atLen
  rw [List.mem_filterMap]
  constructor
  · rintro ⟨r, hr, e⟩
    obtain ⟨h1, h2⟩ := List.mem_filter.mp hr
    exact ⟨r, h1, of_decide_eq_true h2, e⟩
  · rintro ⟨r, h1, h2, e⟩
    exact ⟨r, List.mem_filter.mpr ⟨h1, decide_eq_true h2⟩, e⟩
theorem due_succ (d : Nat) (rs : List Rl) : due (d + 1) rs = due d rs ++ dueAt rs ((d : Int) + 1) := by
  unfold due
  rw [List.range_succ, List.flatMap_append]
  simp
theorem bOk_some {a b : Option Int} (h : bOk a b = true) : (∃ x, a = some x) ∨ ∃ x, b = some x := by
  cases a with
  | some x => exact .inl ⟨x, rfl⟩
  | none =>
    cases b with
    | some x => exact .inr ⟨x, rfl⟩
    | none => cases h
/-- a length that is told has a bound -/
theorem told_has {rs : List Rl} (ok : ∀ r ∈ rs, r.Ok) {l : Int} : ¬ (lows rs l = [] ∧ highs rs l = []) ↔ ∃ r ∈ rs, r.len = l := by
  constructor
  · intro h
    have h' : (∃ a, a ∈ lows rs l) ∨ ∃ a, a ∈ highs rs l := by
      cases e : lows rs l with
      | cons a r => exact .inl ⟨a, by simp⟩
      | nil =>
        cases e2 : highs rs l with
        | cons a r => exact .inr ⟨a, by simp⟩
        | nil => exact absurd ⟨e, e2⟩ h
    rcases h' with ⟨a, ha⟩ | ⟨a, ha⟩
    · obtain ⟨r, h1, h2, _⟩ := mem_lows.mp ha
      exact ⟨r, h1, h2⟩
    · obtain ⟨r, h1, h2, _⟩ := mem_highs.mp ha
      exact ⟨r, h1, h2⟩
  · rintro ⟨r, h1, h2⟩ ⟨e1, e2⟩
    rcases bOk_some (ok r h1).2.2 with ⟨x, e⟩ | ⟨x, e⟩
    · have := mem_lows.mpr ⟨r, h1, h2, e⟩
      rw [e1] at this
      cases this
    · have := mem_highs.mpr ⟨r, h1, h2, e⟩
      rw [e2] at this
      cases this
theorem mem_due {d : Nat} {rs : List Rl} (ok : ∀ r ∈ rs, r.Ok) {x : Rl} : x ∈ due d rs ↔ ∃ r ∈ rs, r.len ≤ (d : Int) ∧ x = join rs r.len := by
  unfold due
  rw [List.mem_flatMap]
  constructor
  · rintro ⟨i, hi, hx⟩
    have hi := List.mem_range.mp hi
    unfold dueAt at hx
    split at hx
    · cases hx
    · rename_i h
      obtain ⟨r, h1, h2⟩ := (told_has ok).mp h
      have e := List.mem_singleton.mp hx
      exact ⟨r, h1, by omega, by rw [h2]; exact e⟩
  · rintro ⟨r, h1, h2, e⟩
    have h3 := (ok r h1).1
    refine ⟨(r.len - 1).toNat, List.mem_range.mpr (by omega), ?_⟩
    have e2 : (((r.len - 1).toNat : Nat) : Int) + 1 = r.len := by omega
    rw [e2]
    unfold dueAt
    rw [if_neg ((told_has ok).mpr ⟨r, h1, rfl⟩), e]
    simp
/-- two ascending lists with the same members are one -/
theorem asc_ext : ∀ {l k : List Int}, l.Pairwise (· < ·) → k.Pairwise (· < ·) → (∀ y, y ∈ l ↔ y ∈ k) → l = k
  | [], [], _, _, _ => rfl
  | [], b :: k, _, _, h => absurd ((h b).mpr (by simp)) (by simp)
  | a :: l, [], _, _, h => absurd ((h a).mp (by simp)) (by simp)
  | a :: l, b :: k, hl, hk, h => by
    obtain ⟨l1, l2⟩ := List.pairwise_cons.mp hl
    obtain ⟨k1, k2⟩ := List.pairwise_cons.mp hk
    have e : a = b := by
      have h1 := (h a).mp (by simp)
      have h2 := (h b).mpr (by simp)
      rcases List.mem_cons.mp h1 with e | h1
      · exact e
      · rcases List.mem_cons.mp h2 with e | h2
        · exact e.symm
        · have := k1 a h1
          have := l1 b h2
          omega
    subst e
    refine congrArg (a :: ·) (asc_ext l2 k2 fun y => ?_)
    constructor
    · intro hy
      rcases List.mem_cons.mp ((h y).mp (List.mem_cons_of_mem _ hy)) with e | z
      · have := l1 y hy
        omega
      · exact z
    · intro hy
      rcases List.mem_cons.mp ((h y).mpr (List.mem_cons_of_mem _ hy)) with e | z
      · have := k1 y hy
        omega
      · exact z
theorem due_lens (rs : List Rl) : ∀ d : Nat, ((due d rs).map (·.len)).Pairwise (· < ·) ∧ ∀ x ∈ due d rs, 1 ≤ x.len ∧ x.len ≤ (d : Int)
  | 0 => ⟨by simp [due], by simp [due]⟩
  | d + 1 => by
    obtain ⟨h1, h2⟩ := due_lens rs d
    rw [due_succ]
    have at_ : ∀ x ∈ dueAt rs ((d : Int) + 1), x.len = (d : Int) + 1 := fun x hx => by
      unfold dueAt at hx
      split at hx
      · cases hx
      · rw [List.mem_singleton.mp hx]
        rfl
    refine ⟨?_, fun x hx => ?_⟩
    · rw [List.map_append, List.pairwise_append]
      refine ⟨h1, ?_, fun a ha b hb => ?_⟩
      · unfold dueAt
        split <;> simp
      · obtain ⟨x, hx, rfl⟩ := List.mem_map.mp ha
        obtain ⟨y, hy, rfl⟩ := List.mem_map.mp hb
        have := (h2 x hx).2
        have := at_ y hy
        omega
    · rcases List.mem_append.mp hx with hx | hx
      · have := h2 x hx
        omega
      · have := at_ x hx
        omega
theorem due_joins (rs : List Rl) : ∀ d : Nat, ((due d rs).map (·.len)).map (join rs) = due d rs
  | 0 => by simp [due]
  | d + 1 => by
    rw [due_succ, List.map_append, List.map_append, due_joins rs d]
    refine congrArg (due d rs ++ ·) ?_
    unfold dueAt
    split
    · rfl
    · rfl
/-- the program's list: the told lengths up to d, ascending, each joined -/
theorem due_eq {d : Nat} {rs : List Rl} (ok : ∀ r ∈ rs, r.Ok) {ns : List Int} (asc : ns.Pairwise (· < ·)) (mem : ∀ k, k ∈ ns ↔ ∃ r ∈ rs, r.len = k ∧ r.len ≤ (d : Int)) : ns.map (join rs) = due d rs := by
  have e : ns = (due d rs).map (·.len) := by
    refine asc_ext asc (due_lens rs d).1 fun y => ?_
    rw [mem, List.mem_map]
    constructor
    · rintro ⟨r, h1, h2, h3⟩
      exact ⟨join rs r.len, (mem_due ok).mpr ⟨r, h1, h3, rfl⟩, h2⟩
    · rintro ⟨x, hx, e⟩
      obtain ⟨r, h1, h2, h3⟩ := (mem_due ok).mp hx
      subst h3
      exact ⟨r, h1, e, h2⟩
  rw [e]
  exact due_joins rs d
theorem nodup_le : ∀ {l k : List Int}, l.Nodup → (∀ y ∈ l, y ∈ k) → l.length ≤ k.length
  | [], _, _, _ => Nat.zero_le _
  | a :: l, k, nd, h => by
    obtain ⟨n1, n2⟩ := List.nodup_cons.mp nd
    have ha := h a (by simp)
    have := nodup_le (l := l) (k := k.erase a) n2 fun y hy => by
      refine (List.mem_erase_of_ne ?_).mpr (h y (List.mem_cons_of_mem _ hy))
      rintro rfl
      exact n1 hy
    rw [List.length_erase_of_mem ha] at this
    have : 0 < k.length := List.length_pos_of_mem ha
    rw [List.length_cons]
    omega
theorem asc_nodup {l : List Int} (h : l.Pairwise (· < ·)) : l.Nodup := List.Pairwise.imp (fun h => by omega) h
theorem due_length {d : Nat} {rs : List Rl} (ok : ∀ r ∈ rs, r.Ok) : (due d rs).length ≤ rs.length := by
  have := nodup_le (l := (due d rs).map (·.len)) (k := rs.map (·.len)) (asc_nodup (due_lens rs d).1) fun y hy => by
    obtain ⟨x, hx, rfl⟩ := List.mem_map.mp hy
    obtain ⟨r, h1, _, h3⟩ := (mem_due ok).mp hx
    subst h3
    exact List.mem_map.mpr ⟨r, h1, rfl⟩
  simpa using this
/-- joined bounds make a rule where nothing hits -/
theorem join_ok {d : Nat} {rs : List Rl} (ok : ∀ r ∈ rs, r.Ok) (n : NoHit (d : Int) rs) {r : Rl} (hr : r ∈ rs) (hd : r.len ≤ (d : Int)) : (join rs r.len).Ok := by
  refine ⟨(ok r hr).1, (ok r hr).2.1, ?_⟩
  have h := (told_has ok).mpr ⟨r, hr, rfl⟩
  show bOk (mx (lows rs r.len)) (mn (highs rs r.len)) = true
  cases e1 : mx (lows rs r.len) with
  | none =>
    cases e2 : mn (highs rs r.len) with
    | none => exact absurd ⟨mx_none.mp e1, mn_none.mp e2⟩ h
    | some b => rfl
  | some a =>
    cases e2 : mn (highs rs r.len) with
    | none => rfl
    | some b =>
      obtain ⟨p, hp1, hp2, hp3⟩ := mem_lows.mp (mx_spec e1).1
      obtain ⟨q, hq1, hq2, hq3⟩ := mem_highs.mp (mn_spec e2).1
      have z := n p hp1 q hq1
      unfold hit gap at z
      rw [hp3, hq3] at z
      simp only [hp2, hq2, decide_true, Bool.true_and] at z
      rw [decide_eq_true hd, Bool.true_and] at z
      have := of_decide_eq_false z
      exact decide_eq_true (by omega)
theorem due_ok {d : Nat} {rs : List Rl} (ok : ∀ r ∈ rs, r.Ok) (n : NoHit (d : Int) rs) : ∀ x ∈ due d rs, x.Ok := fun x hx => by
  obtain ⟨r, h1, h2, h3⟩ := (mem_due ok).mp hx
  subst h3
  exact join_ok ok n h1 h2
theorem due_noHit {d : Nat} {rs : List Rl} (ok : ∀ r ∈ rs, r.Ok) (n : NoHit (d : Int) rs) : NoHit (d : Int) (due d rs) := fun x hx y hy => by
  obtain ⟨r, h1, h2, h3⟩ := (mem_due ok).mp hx
  obtain ⟨s, k1, k2, k3⟩ := (mem_due ok).mp hy
  by_cases e : r.len = s.len
  · have z := (join_ok ok n h1 h2).2.2
    rw [← e] at k3
    subst h3
    rw [k3]
    unfold hit
    cases e1 : (join rs r.len).lo with
    | none => simp [gap]
    | some a =>
      cases e2 : (join rs r.len).hi with
      | none => simp [gap]
      | some b =>
        rw [e1, e2] at z
        have z := of_decide_eq_true (show decide (a ≤ b) = true from z)
        simp only [gap, show decide (b < a) = false from decide_eq_false (by omega), Bool.and_false]
  · subst h3 k3
    unfold hit
    rw [show decide ((join rs r.len).len = (join rs s.len).len) = false from decide_eq_false e]
    simp
theorem due_lows {d : Nat} {rs : List Rl} (ok : ∀ r ∈ rs, r.Ok) {l : Int} (h : l ≤ (d : Int)) (a : Int) : a ∈ lows (due d rs) l ↔ mx (lows rs l) = some a := by
  rw [mem_lows]
  constructor
  · rintro ⟨x, hx, e1, e2⟩
    obtain ⟨r, _, _, h3⟩ := (mem_due ok).mp hx
    subst h3
    have e1 : r.len = l := e1
    rw [e1] at e2
    exact e2
  · intro e
    obtain ⟨r, h1, h2, _⟩ := mem_lows.mp (mx_spec e).1
    exact ⟨join rs l, (mem_due ok).mpr ⟨r, h1, by omega, by rw [h2]⟩, rfl, e⟩
theorem due_highs {d : Nat} {rs : List Rl} (ok : ∀ r ∈ rs, r.Ok) {l : Int} (h : l ≤ (d : Int)) (a : Int) : a ∈ highs (due d rs) l ↔ mn (highs rs l) = some a := by
  rw [mem_highs]
  constructor
  · rintro ⟨x, hx, e1, e2⟩
    obtain ⟨r, _, _, h3⟩ := (mem_due ok).mp hx
    subst h3
    have e1 : r.len = l := e1
    rw [e1] at e2
    exact e2
  · intro e
    obtain ⟨r, h1, h2, _⟩ := mem_highs.mp (mn_spec e).1
    exact ⟨join rs l, (mem_due ok).mpr ⟨r, h1, by omega, by rw [h2]⟩, rfl, e⟩
theorem mx_due {d : Nat} {rs : List Rl} (ok : ∀ r ∈ rs, r.Ok) {l : Int} (h : l ≤ (d : Int)) : mx (lows (due d rs) l) = mx (lows rs l) := by
  cases e : mx (lows rs l) with
  | none =>
    refine mx_none.mpr (List.eq_nil_iff_forall_not_mem.mpr fun a ha => ?_)
    rw [(due_lows ok h a).mp ha] at e
    cases e
  | some a =>
    refine mx_eq ((due_lows ok h a).mpr e) fun y hy => ?_
    exact (by
      have z := (due_lows ok h y).mp hy
      rw [e] at z
      cases z
      exact Int.le_refl _)
theorem mn_due {d : Nat} {rs : List Rl} (ok : ∀ r ∈ rs, r.Ok) {l : Int} (h : l ≤ (d : Int)) : mn (highs (due d rs) l) = mn (highs rs l) := by
  cases e : mn (highs rs l) with
  | none =>
    refine mn_none.mpr (List.eq_nil_iff_forall_not_mem.mpr fun a ha => ?_)
    rw [(due_highs ok h a).mp ha] at e
    cases e
  | some a =>
    refine mn_eq ((due_highs ok h a).mpr e) fun y hy => ?_
    exact (by
      have z := (due_highs ok h y).mp hy
      rw [e] at z
      cases z
      exact Int.le_refl _)
/-- told together again it stays -/
theorem due_due {d : Nat} {rs : List Rl} (ok : ∀ r ∈ rs, r.Ok) (n : NoHit (d : Int) rs) : due d (due d rs) = due d rs := by
  have ok2 := due_ok ok n
  have e : ((due d rs).map (·.len)).map (join (due d rs)) = due d (due d rs) := by
    refine due_eq ok2 (due_lens rs d).1 fun k => ?_
    rw [List.mem_map]
    constructor
    · rintro ⟨x, hx, rfl⟩
      exact ⟨x, hx, rfl, ((due_lens rs d).2 x hx).2⟩
    · rintro ⟨x, hx, e, _⟩
      exact ⟨x, hx, e⟩
  rw [← e]
  have e2 := due_joins rs d
  refine Eq.trans (List.map_congr_left fun l hl => ?_) e2
  obtain ⟨x, hx, rfl⟩ := List.mem_map.mp hl
  have hd := ((due_lens rs d).2 x hx).2
  unfold join
  rw [mx_due ok hd, mn_due ok hd]

/-! ### rows -/
def within (x : Int) (lo hi : Option Int) : Bool :=
  (match lo with
    | none => true
    | some a => decide (a ≤ x)) && (match hi with
    | none => true
    | some b => decide (x ≤ b))
/-- the sum of l gains from b on -/
def strSum (g : List Int) (b l : Nat) : Int := ((g.drop b).take l).sum
def Keeps (r : Rl) (g : List Int) : Prop := ∀ b : Nat, (b : Int) + r.len ≤ (g.length : Int) → within (strSum g b r.len.toNat) r.lo r.hi = true
def KeepsAll (rs : List Rl) (g : List Int) : Prop := ∀ r ∈ rs, Keeps r g
theorem within_iff {x : Int} {lo hi : Option Int} : within x lo hi = true ↔ (∀ a, lo = some a → a ≤ x) ∧ ∀ b, hi = some b → x ≤ b := by
  unfold within
  cases lo <;> cases hi <;> simp
/-- the same rows keep both -/
theorem due_keeps {rs : List Rl} (ok : ∀ r ∈ rs, r.Ok) (g : List Int) : KeepsAll (due g.length rs) g ↔ KeepsAll rs g := by
  constructor
  · intro h r hr b hb
    have hl := (ok r hr).1
    have hd : r.len ≤ (g.length : Int) := by omega
    have z := within_iff.mp (h _ ((mem_due ok).mpr ⟨r, hr, hd, rfl⟩) b hb)
    refine within_iff.mpr ⟨fun a ha => ?_, fun a ha => ?_⟩
    · have hm := mem_lows.mpr ⟨r, hr, rfl, ha⟩
      cases e : mx (lows rs r.len) with
      | none =>
        rw [mx_none.mp e] at hm
        cases hm
      | some m =>
        have := (mx_spec e).2 a hm
        have := z.1 m e
        exact Int.le_trans (by assumption) this
    · have hm := mem_highs.mpr ⟨r, hr, rfl, ha⟩
      cases e : mn (highs rs r.len) with
      | none =>
        rw [mn_none.mp e] at hm
        cases hm
      | some m =>
        have := (mn_spec e).2 a hm
        have := z.2 m e
        exact Int.le_trans this (by assumption)
  · intro h x hx b hb
    obtain ⟨r, h1, h2, h3⟩ := (mem_due ok).mp hx
    subst h3
    refine within_iff.mpr ⟨fun a ha => ?_, fun a ha => ?_⟩
    · obtain ⟨p, hp1, hp2, hp3⟩ := mem_lows.mp (mx_spec ha).1
      have z := within_iff.mp (h p hp1 b (by rw [hp2]; exact hb))
      rw [hp2] at z
      exact z.1 a hp3
    · obtain ⟨p, hp1, hp2, hp3⟩ := mem_highs.mp (mn_spec ha).1
      have z := within_iff.mp (h p hp1 b (by rw [hp2]; exact hb))
      rw [hp2] at z
      exact z.2 a hp3
/-- two rules that leave nothing: no row -/
theorem hit_none {rs : List Rl} {g : List Int} {i j : Nat} (ok : ∀ r ∈ rs, r.Ok) (f : First (g.length : Int) rs i j) : ¬ KeepsAll rs g := fun h => by
  obtain ⟨r, s, h1, h2, h3⟩ := f.at_
  unfold hit at h3
  simp only [Bool.and_eq_true, decide_eq_true_eq] at h3
  obtain ⟨k1, k2, k3⟩ := h3
  have m1 := List.mem_of_getElem? h1
  have m2 := List.mem_of_getElem? h2
  have z1 := within_iff.mp (h r m1 0 (by simpa using k1))
  have z2 := within_iff.mp (h s m2 0 (by rw [← k2]; simpa using k1))
  rw [← k2] at z2
  cases e1 : r.lo with
  | none =>
    rw [e1] at k3
    cases k3
  | some a =>
    cases e2 : s.hi with
    | none =>
      rw [e1, e2] at k3
      cases k3
    | some b =>
      rw [e1, e2] at k3
      have k3 := of_decide_eq_true (show decide (b < a) = true from k3)
      have := z1.1 a e1
      have := z2.2 b e2
      omega

/-! ### heights -/
def heights (g : List Int) : List Int := (List.range (g.length + 1)).map fun i => (g.take i).sum
theorem heights_len (g : List Int) : (heights g).length = g.length + 1 := by simp [heights]
theorem heights_at {g : List Int} {i : Nat} (h : i ≤ g.length) : (heights g)[i]? = some (g.take i).sum := by
  unfold heights
  rw [List.getElem?_map, List.getElem?_range (by omega)]
  rfl
theorem sum_app (a b : List Int) : (a ++ b).sum = a.sum + b.sum := by
  induction a with
  | nil => simp
  | cons x r ih =>
    rw [List.cons_append, List.sum_cons, List.sum_cons, ih]
    omega
theorem strSum_eq (g : List Int) (b l : Nat) : strSum g b l = (g.take (b + l)).sum - (g.take b).sum := by
  have e : g.take (b + l) = g.take b ++ (g.drop b).take l := List.take_add
  unfold strSum
  rw [e, sum_app]
  omega
end K15

/-! K15T: the text by places, the defs' scopes. -/
namespace K15
open PySem L2
def top (i : Nat) : Stmt := PySem.Challenge.pw_anyseven_k15_whole_rules_of_one_length_t.main.body.getD i (.Pass ⟨0, 0, 0, 0⟩)
abbrev sIsInt : Stmt := top 15
abbrev sIsWithin : Stmt := top 16
abbrev sAreInts : Stmt := top 17
abbrev sNeedNum : Stmt := top 19
abbrev sFixed : Stmt := top 22
abbrev sPaperI : Stmt := inClass (top 23) 0
abbrev sPaperE : Stmt := inClass (top 23) 2
abbrev sDenialB : Stmt := inClass (top 24) 0
abbrev sNeedRow : Stmt := top 31
abbrev sHeights : Stmt := top 33
abbrev sRowI : Stmt := inClass (top 34) 0
abbrev sNeedBound : Stmt := top 38
abbrev sAreBounds : Stmt := top 39
abbrev sRuleI : Stmt := inClass (top 43) 0
abbrev sRuleF : Stmt := inClass (top 43) 3
abbrev sRuleE : Stmt := inClass (top 43) 7
abbrev sEmptyI : Stmt := inClass (top 50) 0
abbrev sAreRules : Stmt := top 51
abbrev sAreEmpty : Stmt := top 54
abbrev sEmptyPair : Stmt := top 55
abbrev sDrawn : Stmt := top 56
abbrev sBookI : Stmt := inClass (top 57) 0
abbrev sBookK : Stmt := inClass (top 57) 2
abbrev sBookF : Stmt := inClass (top 57) 3
abbrev sBookT : Stmt := inClass (top 57) 8
abbrev sBookE : Stmt := inClass (top 57) 9
abbrev sImpI : Stmt := inClass (top 10) 0
abbrev sPen : Stmt := top 59
abbrev sDraw : Stmt := top 60
abbrev sOf : Stmt := top 61
abbrev sNumber : Stmt := top 62
abbrev sRuleD : Stmt := top 63
abbrev sMade : Stmt := top 64
abbrev sPlain : Stmt := top 65
abbrev sPair : Stmt := top 66
abbrev sDue : Stmt := top 67
abbrev sRows : Stmt := top 68
abbrev sKeeps : Stmt := top 69
abbrev sHeard : Stmt := top 70
abbrev sRight : Stmt := top 71
abbrev sLaw : Stmt := top 72
theorem scIsInt : FnScope ["value"] ["value"] (defScope sIsInt) := ⟨rfl, rfl, rfl, by decide +kernel, rfl, by decide +kernel, by decide +kernel⟩
theorem scIsWithin : FnScope ["value", "least", "most"] ["value", "least", "most"] (defScope sIsWithin) := ⟨rfl, rfl, rfl, by decide +kernel, rfl, by decide +kernel, by decide +kernel⟩
theorem scAreInts : FnScope ["value", "each"] ["value"] (defScope sAreInts) := ⟨rfl, rfl, rfl, by decide +kernel, rfl, by decide +kernel, by decide +kernel⟩
theorem scNeedNum : FnScope ["value", "part", "least", "most"] ["value", "part", "least", "most"] (defScope sNeedNum) := ⟨rfl, rfl, rfl, by decide +kernel, rfl, by decide +kernel, by decide +kernel⟩
end K15

/-! K15R1: rules of our own over the layer: attribute targets, enumerate of a tuple, max and min with a default. -/
namespace K15
open PySem PySem.Spec PyProof.Rows L2
/-! ### a, o.f = ..: an attribute as a target -/
def gFld (K : PySem.W.Frag) (to : TE) (f : Str) : TG := fun v σ H Q => to σ H fun x H1 => ∃ a C dx fs, x = .ref a ∧ H1 a = some (.ins C dx fs) ∧ Cls K C ∧ NoAttr K C f ∧ fs.length < 1000 ∧ Q σ (upd H1 a (.ins C dx (putF f v fs)))
theorem pg_fld {X : Cx} {o : Expr} {to : TE} {f : Str} {pos : Pos} (ho : PE X o to) : PG X (.Attribute o f pos) (gFld X.K to f) := by
  refine ⟨fun pins s σ H v u Q I r h => ?_⟩
  rw [PySem.arm_assign_Attribute]
  refine wpAny_bind (wpAny_holding (thn (ho.run pins s σ H _ I h) fun ov s1 ⟨x, H1, I1, r1, a, C, dx, fs, e, ha, cl, na, hl, q⟩ => ?_))
  subst e
  obtain rfl : ov = Value.ref a := r1
  refine wpAny_bind (wpAny_standAt (wpAny_bind (wpAny_holding (setattr_ok I1 ha cl na hl r fun s2 I2 => ?_))))
  exact wpAny_release ⟨σ, _, I2, q⟩

/-! ### enumerate(a tuple) -/
def IteT (K : PySem.W.Frag) (a : Addr) : It where
  go i H := ∃ xs x, SqT K H a xs ∧ xs[i]? = some x
  yld i H v H' := ∃ T x, v = .ref T ∧ H T = none ∧ H' = upd H T (.tup [.int (i : Nat), x]) ∧ ∀ xs, SqT K H a xs → xs[i]? = some x
  stop i H := ∃ xs, SqT K H a xs ∧ xs.length = i
theorem turnEnumT {P : Program} {w : World} {K : PySem.W.Frag} {elts : List Expr} {kk : Nat} {tpos : Pos} (a e it : Addr) :
    Turn P w K (.Tuple elts kk tpos) (IteT K a) [e, it] e (fun i h => (∃ old, IsEnum h e it ((i : Nat) : Int) old) ∧ h.IsTupleIter it a i ∧ e ≠ it ∧ a ≠ it ∧ e ≠ a) where
  mem := List.mem_cons_self
  obj i h st b hb := by
    rcases st with ⟨⟨old, he⟩, ⟨o, ho, hc, hd⟩, _⟩
    rcases List.mem_cons.mp hb with rfl | hb
    · exact ⟨_, he, fun v q => nomatch q⟩
    · cases List.mem_singleton.mp hb
      refine ⟨o, ho, fun v q => ?_⟩
      rw [hd] at q
      cases q
  keep i h h' st k := ⟨st.1.imp fun old he => k e List.mem_cons_self _ he, st.2.1.at fun o q => k it (by simp) o q, st.2.2⟩
  item := by
    rintro X rfl rfl rfl hc i pins s σ H E I hf ⟨⟨old, he⟩, hit, hne, hai, hea⟩ ⟨xs, x, hq, hx⟩
    obtain ⟨its, rv, tp, _⟩ := I.tuple hq
    obtain ⟨u, hu, ru⟩ := rv.get hx
    have hlt : i < its.toArray.size := by
      have := (List.getElem?_eq_some_iff.mp hu).1
      simpa using this
    have el : e < s.heap.objs.size := Heap.lt_size he
    have il : it < s.heap.objs.size := hit.elim fun _ q => Heap.lt_size q.1
    refine wpAny_pyNext_enum_itemD (Draws.tuple (A := X.A.in1) (I.ok.hd hc) it a hai its.toArray) he ⟨hit, tp⟩ hlt hne (by simp [hne, hea]) fun z h' tk hz ho st' hT hsz hk => ?_
    have ez : z = u := by
      have hz : its.toArray[i]? = some z := hz
      rw [show its.toArray[i]? = its[i]? by simp, hu] at hz
      exact (Option.some.inj hz).symm
    subst ez
    refine ⟨_, rfl, wpAny_letOwnedTupleGo_enum (s := { s with heap := h', toks := tk + 1 }) ho fun g he' sb => ?_⟩
    have gT : g.get? s.heap.objs.size = some { cls := .type "tuple", data := .seq #[.int i tk, z] } := (sb.2 _ (Nat.ne_of_gt el)).trans hT
    have new : ObjOk X.prog X.w (upd H s.heap.objs.size (.tup [.int (i : Nat), x])) g s.heap.objs.size (.tup [.int (i : Nat), x]) :=
      ⟨by show 2 ≤ sizeLine; decide, [.int i tk, z], .cons ⟨_, rfl⟩ (.cons ru .nil), ⟨_, gT, rfl, _, rfl⟩⟩
    have kp : ∀ b o, b ∉ [e, it] → s.heap.get? b = some o → g.get? b = some o := fun b o hb q =>
      (sb.2 b fun z => hb (by simp [z])).trans (hk b o (fun z => hb (by simp [z])) (fun z => hb (by simp [z])) q)
    have I1 : Inv X pins σ (upd H s.heap.objs.size (.tup [.int (i : Nat), x])) { s with heap := g, toks := tk + 1 } := I.turnedNew (ch := [e, it]) kp hf (Nat.le_refl _) new
    refine ⟨.ref s.heap.objs.size, _, I1, rfl, ⟨_, x, rfl, I.hok.fresh (Nat.le_refl _), rfl, fun ys hy => by rw [I.tuple_inj hy hq]; exact hx⟩, ⟨⟨z, ?_⟩, st'.1.at fun o q => (sb.2 it hne.symm).trans q, hne, hai, hea⟩, fun b hb => ?_⟩
    · rw [show ((i + 1 : Nat) : Int) = (i : Int) + 1 from Int.natCast_succ i]
      exact he'
    · have hb' : b < s.heap.objs.size := by
        rcases List.mem_cons.mp hb with rfl | hb
        · exact el
        · cases List.mem_singleton.mp hb
          exact il
      rw [upd_ne (Nat.ne_of_lt hb')]
      exact (hf b hb).1
  done := by
    rintro X rfl rfl rfl hc i pins s σ H E I hf ⟨⟨old, he⟩, hit, hne, hai, hea⟩ ⟨xs, hq, hx⟩
    obtain ⟨its, rv, tp, _⟩ := I.tuple hq
    obtain ⟨f0, f1, f2, f3, f4, f5⟩ := hf it (by simp)
    have hn : its.toArray.size = i := by simp [← rv.length, hx]
    have st : (fun i (h : Heap) => h.IsTupleIter it a i ∧ h.IsTuple a its.toArray) its.toArray.size s.heap := ⟨by rw [hn]; exact hit, tp⟩
    exact wpAny_pyNext_enum_endD (Draws.tuple (A := X.A.in1) (I.ok.hd hc) it a hai its.toArray) he st fun h' eb => ⟨rfl, I.turned (t' := s.toks) (fun b o hb q => eb b o hb q) f0 f1 f3 f4 f5⟩
  self A i s Q E st h := st.1.elim fun _ he => wpAny_pyIter_enum he h
theorem call_enumT {prog : Program} {w : World} {A : Around} {E : Value → Shared → Prop} {s : Shared} {t : Addr} {items : Array Value} {Q : Value → Shared → Prop} (hT : s.heap.IsTuple t items)
    (h : ∀ h', IsEnum h' (s.heap.objs.size + 1) s.heap.objs.size 0 .none → h'.IsTupleIter s.heap.objs.size t 0 → (∀ b o, s.heap.get? b = some o → h'.get? b = some o) → Q (.ref (s.heap.objs.size + 1)) { s with heap := h' }) :
    wpAny (model prog w) A (call (.type "enumerate") [.ref t]) Q E s := by
  have M : Meets (Builtin.«enumerate.__new__» ⟨[.type "enumerate", .ref t], []⟩) (fun _ R s => s.heap.IsTuple t items ∧
      R (.ok (.ret (.ref (s.heap.objs.size + 1)))) { s with heap := (s.heap.push { cls := .type "tuple_iterator", data := .fields #[.ref t, .int 0 0] }).push { cls := .type "enumerate", data := .fields #[.none, .bool false, .ref s.heap.objs.size, rawInt 0, .none, .none] } }) :=
    .of_wp fun prog w A R s h => by
      obtain ⟨hp, g, d, tk, os⟩ := s
      obtain ⟨h1, h⟩ := h
      have hsub := sub_enumerate
      have q1 : ∀ {A' : Around} {E : Value → Shared → Prop} {Q : Value → Shared → Prop}, Q (.ref hp.objs.size) ⟨hp.push { cls := .type "tuple_iterator", data := .fields #[.ref t, .int 0 0] }, g, d, tk, os⟩ → wpAny (model prog w) A' (pyIter (.ref t)) Q E ⟨hp, g, d, tk, os⟩ :=
        fun q => wpAny_pyIter_tuple h1 q
      have hz : (hp.push { cls := .type "tuple_iterator", data := .fields #[.ref t, .int 0 0] }).objs.size = hp.objs.size + 1 := Heap.size_push ..
      rw [← hz] at h
      wp_walk using q1
      refine wpAny_stack_any fun st => wpAny_pure ?_
      split
      · rename_i c _ _ _ _ _
        cases (c == Value.type "enumerate")
        · wp_walk using q1
          exact ⟨_, rfl, h⟩
        · wp_walk using q1
          exact ⟨_, rfl, h⟩
      · wp_walk using q1
        exact ⟨_, rfl, h⟩
  refine callType_new F.called_enumerate (by decide) (F.typeCall_enumerate_1 _) (F.newCall_enumerate_1 _) (fun obj => F.args_object_init_2 obj _) F.entry_enumerate_new M ⟨hT, ?_⟩
  have hz : (s.heap.push { cls := .type "tuple_iterator", data := .fields #[.ref t, .int 0 0] }).objs.size = s.heap.objs.size + 1 := Heap.size_push ..
  have he : IsEnum ((s.heap.push { cls := .type "tuple_iterator", data := .fields #[.ref t, .int 0 0] }).push { cls := .type "enumerate", data := .fields #[.none, .bool false, .ref s.heap.objs.size, rawInt 0, .none, .none] }) (s.heap.objs.size + 1) s.heap.objs.size 0 .none := by
    have q := Heap.get?_push_size (s.heap.push { cls := .type "tuple_iterator", data := .fields #[.ref t, .int 0 0] }) (o := { cls := .type "enumerate", data := .fields #[.none, .bool false, .ref s.heap.objs.size, rawInt 0, .none, .none] }) rfl
    rw [hz] at q
    exact q
  exact ⟨⟨_, he, rfl⟩, h _ he ⟨_, Heap.get?_push_of_some _ (Heap.get?_push_size _ rfl), rfl, rfl⟩ fun b o x => Heap.get?_push_of_some _ (Heap.get?_push_of_some _ x)⟩
def iEnumT (K : PySem.W.Frag) (ta : TA) : TI := fun σ H R => ta σ H fun vs H1 => ∃ a xs, vs = [.ref a] ∧ SqT K H1 a xs ∧ R (IteT K a) H1
theorem pi_enumT {X : Cx} {e : Expr} {ta : TA} {p pos tpos : Pos} {elts : List Expr} {kk : Nat} (hg : Gl X "enumerate") (hm : X.mg "enumerate" = none) (ha : PA X [e] ta) (hs : starEach [e] X.env = [(false, eval e X.env)] := by rfl) :
    PI X (.Tuple elts kk tpos) (.Call (.Name "enumerate" p) [e] [] pos) (iEnumT X.K ta) := by
  refine ⟨fun pins s σ H R I h => Call_ (ld_blt I hg hm boot_enumerate (PyProof.Rows.callWith_type1 (thn (ha.run pos pins s σ H _ I h) fun us s1 ⟨vs, H1, I1, r1, a, xs, ex, hq, q⟩ => ?_) hs rfl))⟩
  subst ex
  obtain ⟨u, rfl, ru⟩ := vals1 r1
  obtain rfl : u = Value.ref a := ru
  obtain ⟨its, rv, tp, _⟩ := I1.tuple hq
  have tp' : s1.heap.IsTuple a its.toArray := tp
  have al : a < s1.heap.objs.size := tp.elim fun _ z => Heap.lt_size z.1
  refine call_enumT tp' fun h' he hit hk => wpAny_pyIter_enum he ?_
  refine ⟨s1.heap.objs.size + 1, [s1.heap.objs.size + 1, s1.heap.objs.size], _, _, H1, rfl, I1.kept (t' := s1.toks) hk, turnEnumT a (s1.heap.objs.size + 1) s1.heap.objs.size,
    ⟨⟨.none, he⟩, hit, Nat.succ_ne_self _, Nat.ne_of_lt al, Nat.ne_of_gt (Nat.lt_succ_of_lt al)⟩, fun b hb => ?_, q⟩
  have hle : s1.heap.objs.size ≤ b := by
    rcases List.mem_cons.mp hb with rfl | hb
    · exact Nat.le_succ _
    · cases List.mem_singleton.mp hb
      exact Nat.le_refl _
  exact I1.fpOk hle (I1.hok.fresh hle)
theorem walkEnumT {K : PySem.W.Frag} {a : Addr} {xs : List V} : Walk (IteT K a) xs.length (fun H => SqT K H a xs) (YPair (fun i => some (.int (i : Nat))) (fun i => xs[i]?)) where
  goes i _ hi q := ⟨xs, xs[i], q, by simp [hi]⟩
  stops _ q := ⟨xs, q, rfl⟩
  yields i H v H' _ q y := by
    obtain ⟨T, x, h1, h2, h3, h4⟩ := y
    exact ⟨T, .int (i : Nat), x, h1, h2, h3, rfl, h4 xs q⟩

/-! ### max(l, default=None), min(l, default=None) of a list of ints -/
theorem reads_ints {h : Heap} : ∀ {ns : List Int} {us : List Value}, Vals (ns.map V.int) us → ∃ as, ReadsAll h us (ns.map PyData.int) as
  | [], _, .nil => ⟨_, .nil⟩
  | n :: r, _, .cons q t => by
    obtain ⟨as, z⟩ := reads_ints (h := h) (ns := r) t
    obtain ⟨tk, rfl⟩ := q
    exact ⟨_, .cons (.int _ _) z⟩
theorem alike_ints (ns : List Int) : PySem.W.AlikeAll (ns.map PyData.int) := by
  refine ⟨fun x hx y hy => ?_, fun x hx => ?_⟩
  · obtain ⟨i, _, rfl⟩ := List.mem_map.mp hx
    obtain ⟨j, _, rfl⟩ := List.mem_map.mp hy
    rfl
  · obtain ⟨i, _, rfl⟩ := List.mem_map.mp hx
    exact fun q => nomatch q
theorem depth_ints : ∀ ns : List Int, PyData.depthAll (ns.map PyData.int) = 0
  | [] => rfl
  | n :: r => by
    show max 0 (PyData.depthAll (r.map PyData.int)) = 0
    rw [depth_ints r]
    rfl
theorem fold_max : ∀ (ns : List Int) (n : Int), (ns.foldl max n = n ∨ ns.foldl max n ∈ ns) ∧ n ≤ ns.foldl max n ∧ ∀ y ∈ ns, y ≤ ns.foldl max n
  | [], n => ⟨.inl rfl, Int.le_refl _, by simp⟩
  | a :: r, n => by
    obtain ⟨h1, h2, h3⟩ := fold_max r (max n a)
    rw [List.foldl_cons]
    refine ⟨?_, by omega, fun y hy => ?_⟩
    · rcases h1 with h1 | h1
      · rw [h1]
        by_cases c : n ≤ a
        · rw [show max n a = a by omega]
          exact .inr List.mem_cons_self
        · exact .inl (by omega)
      · exact .inr (List.mem_cons_of_mem _ h1)
    · rcases List.mem_cons.mp hy with rfl | hy
      · omega
      · exact h3 y hy
theorem fold_min : ∀ (ns : List Int) (n : Int), (ns.foldl min n = n ∨ ns.foldl min n ∈ ns) ∧ ns.foldl min n ≤ n ∧ ∀ y ∈ ns, ns.foldl min n ≤ y
  | [], n => ⟨.inl rfl, Int.le_refl _, by simp⟩
  | a :: r, n => by
    obtain ⟨h1, h2, h3⟩ := fold_min r (min n a)
    rw [List.foldl_cons]
    refine ⟨?_, by omega, fun y hy => ?_⟩
    · rcases h1 with h1 | h1
      · rw [h1]
        by_cases c : a ≤ n
        · rw [show min n a = a by omega]
          exact .inr List.mem_cons_self
        · exact .inl (by omega)
      · exact .inr (List.mem_cons_of_mem _ h1)
    · rcases List.mem_cons.mp hy with rfl | hy
      · omega
      · exact h3 y hy
theorem mx_fold (n : Int) (ns : List Int) : mx (n :: ns) = some (ns.foldl max n) := by
  obtain ⟨h1, h2, h3⟩ := fold_max ns n
  refine mx_eq ?_ fun y hy => ?_
  · rcases h1 with h1 | h1
    · rw [h1]
      exact List.mem_cons_self
    · exact List.mem_cons_of_mem _ h1
  · rcases List.mem_cons.mp hy with rfl | hy
    · exact h2
    · exact h3 y hy
theorem mn_fold (n : Int) (ns : List Int) : mn (n :: ns) = some (ns.foldl min n) := by
  obtain ⟨h1, h2, h3⟩ := fold_min ns n
  refine mn_eq ?_ fun y hy => ?_
  · rcases h1 with h1 | h1
    · rw [h1]
      exact List.mem_cons_self
    · exact List.mem_cons_of_mem _ h1
  · rcases List.mem_cons.mp hy with rfl | hy
    · exact h2
    · exact h3 y hy
/-- an int or None -/
def oV : Option Int → V
  | none => .non
  | some i => .int i
def rBest (K : PySem.W.Frag) (f : List Int → Option Int) : List V → List V → Hp → VK → Prop := fun vs zs H Q => ∃ a ns, vs = [.ref a] ∧ zs = [.non] ∧ SqL K H a (ns.map V.int) ∧ Q (oV (f ns)) H
theorem call_maxD {X : Cx} (hc : X.calm = true) (hu : X.A.units + 64 < cLine) : CallRK X (.builtin "max") [Str.ofString "default"] (rBest X.K mx) := by
  intro pins s σ H vs zs us ws Q I r rz h
  obtain ⟨a, ns, rfl, rfl, hs, q⟩ := h
  obtain ⟨u, rfl, ru⟩ := vals1 r
  obtain rfl : u = Value.ref a := ru
  obtain ⟨w1, rfl, e1⟩ := vals1 rz
  obtain rfl : w1 = Value.none := e1
  obtain ⟨its, rv, pl, _⟩ := I.list hs
  obtain ⟨as, ra⟩ := reads_ints (h := s.heap) rv
  refine PySem.W.max_list_default (I.ok.hd hc) pl.isList (xs := ns.map PyData.int) (as := as) ra (alike_ints ns) (by rw [depth_ints]; omega) (fun e h' tk k => ?_) fun y ys i v h' tk bs e hi rd k => ?_
  · obtain rfl : ns = [] := List.map_eq_nil_iff.mp e
    exact ⟨.non, H, I.kept (t' := tk) k, rfl, q⟩
  · cases ns with
    | nil => cases e
    | cons n r =>
      injection e with e1 e2
      subst e1 e2
      rw [PySem.W.maxD_ints] at rd
      cases rd
      refine ⟨_, H, I.kept (t' := tk) k, ?_, q⟩
      rw [mx_fold]
      exact ⟨_, rfl⟩
theorem call_minD {X : Cx} (hc : X.calm = true) (hu : X.A.units + 64 < cLine) : CallRK X (.builtin "min") [Str.ofString "default"] (rBest X.K mn) := by
  intro pins s σ H vs zs us ws Q I r rz h
  obtain ⟨a, ns, rfl, rfl, hs, q⟩ := h
  obtain ⟨u, rfl, ru⟩ := vals1 r
  obtain rfl : u = Value.ref a := ru
  obtain ⟨w1, rfl, e1⟩ := vals1 rz
  obtain rfl : w1 = Value.none := e1
  obtain ⟨its, rv, pl, _⟩ := I.list hs
  obtain ⟨as, ra⟩ := reads_ints (h := s.heap) rv
  refine PySem.W.min_list_default (I.ok.hd hc) pl.isList (xs := ns.map PyData.int) (as := as) ra (alike_ints ns) (by rw [depth_ints]; omega) (fun e h' tk k => ?_) fun y ys i v h' tk bs e hi rd k => ?_
  · obtain rfl : ns = [] := List.map_eq_nil_iff.mp e
    exact ⟨.non, H, I.kept (t' := tk) k, rfl, q⟩
  · cases ns with
    | nil => cases e
    | cons n r =>
      injection e with e1 e2
      subst e1 e2
      rw [PySem.W.minD_ints] at rd
      cases rd
      refine ⟨_, H, I.kept (t' := tk) k, ?_, q⟩
      rw [mn_fold]
      exact ⟨_, rfl⟩
end K15

/-! K15R2: a set comprehension of ints. -/
namespace K15
open PySem PySem.Spec PyProof.Rows L2
section
variable {X : Cx}
theorem addI_ok {pins : List (Addr × Obj)} {σ : L2.St} {H : Hp} {s : Shared} {E : Value → Shared → Prop} {D : Addr} {S : Int → Bool} {n : Nat} {y : Int} {v : Value} {Q : Value → Shared → Prop} (I : Inv X pins σ H s) (hD : H D = some (SetO X.w D S n)) (room : n + 1 < scanBound) (r : RelV (.int y) v)
    (h : ∀ s', Inv X pins σ (upd H D (SetO X.w D (fun j => S j || decide (j = y)) (if S y = true then n else n + 1))) s' → Q .none s') : wpAny (model X.prog X.w) X.A (call (.builtin "set.add") [.ref D, v]) Q E s := by
  obtain ⟨t, rfl⟩ := r
  refine setR_add (setO_get I hD) room fun g sb new => ?_
  obtain ⟨ob, hob⟩ : ∃ ob, g.get? D = some ob := new.elim fun o z => z.elim fun _ z => z.elim fun _ z => z.elim fun _ z => ⟨o, z.1⟩
  refine h _ (I.write (e := D) (t' := s.toks + 1) ?_ (.inl rfl) (fun b u hb hu => (sb.2 b hb).trans hu) ⟨ob, hob⟩ (setO_new new))
  rw [hD]
  exact True.intro
/-- {elt for target in iter if ..}: ints -/
def tScI (w : World) (wi : TI) (g : TG) (tt : TT) (te : TE) (vs : List Nat) : TE := fun σ H Q => wi σ H fun J H1 => ∀ D, H1 D = none → ∃ W : Nat → Nat → Hp → Prop, (∃ m, W 0 m (upd H1 D (SetO w D (fun _ => false) 0))) ∧ ∀ i m H, W i m H →
  (J.stop i H ∧ Q (.ref D) H) ∨ (J.go i H ∧ ∃ Nx : Hp → Prop, (∀ H', Nx H' → ∃ m', m' < m ∧ W (i + 1) m' H') ∧ ∀ x H', J.yld i H x H' → g x (wipe σ vs) H' fun σ2 H2 => wipe σ2 vs = wipe σ vs ∧ tt σ2 H2 fun b H3 =>
    if b = true then te σ2 H3 fun y H4 => ∃ c S n, y = V.int c ∧ H4 D = some (SetO w D S n) ∧ n + 1 < scanBound ∧ Nx (upd H4 D (SetO w D (fun j => S j || decide (j = c)) (if S c = true then n else n + 1))) else Nx H3)
theorem pe_scI {elt tg iter : Expr} {ifs : List Expr} {scope : Scope} {own : List (PySem.Str × Nat)} {pos : Pos} {wi : TI} {g : TG} {tt : TT} {te : TE} (hc : X.calm = true) (hN : X.N.Nodup) (hi : PI X tg iter wi) (ok : BlkOk X.N X.env.scope scope own)
    (hg : ∀ (s : Shared) (H : Hp) (C : Addr) (cl : List (PySem.Str × Addr)) (fp : List Addr), PG (X.blk s H scope (compEnvC scope cl C X.env) fp) tg g)
    (ht : ∀ (s : Shared) (H : Hp) (C : Addr) (cl : List (PySem.Str × Addr)) (fp : List Addr), PTs (X.blk s H scope (compEnvC scope cl C X.env) fp) ifs tt)
    (he : ∀ (s : Shared) (H : Hp) (C : Addr) (cl : List (PySem.Str × Addr)) (fp : List Addr), PE (X.blk s H scope (compEnvC scope cl C X.env) fp) elt te) (hs : ∀ x, foldedSetIterable iter X.env x = pure x := by intro _; rfl) :
    PE X (.SetComp elt [⟨tg, iter, ifs, 0⟩] scope pos) (tScI X.w wi g tt te (own.map (·.2))) := by
  refine ⟨fun pins s σ H Q I h => ?_⟩
  rw [PpSet.eval_SetComp]
  have freeAt : ∀ y ∈ scope.names, y.2 = .free → ∃ c, X.env.cells.lookup y.1 = some c := fun y hy e => (ok.free y hy e).elim (fun k => I.ok.has _ (.inl k)) fun k => I.ok.has _ (.inr k)
  refine wpAny_comprehension_free (use := none) rfl hs (closure_ok freeAt) ok.kind (fun y hy e => (ok.uniq y hy).trans (congrArg some e)) (thn (hi.run pins s σ H _ I h) fun xv sa hx => thn hx fun itv sb hb => ?_)
  obtain ⟨it, fp, tn, J, Hb, rfl, Ib, T, stb, fb, q⟩ := hb
  refine PpSet.newSet_ok (newEnv_comp ?_)
  obtain ⟨D, hD⟩ : ∃ D, D = sb.heap.objs.size := ⟨_, rfl⟩
  rw [← hD]
  have newD : Hb D = none := Ib.hok.fresh (Nat.le_of_eq hD.symm)
  obtain ⟨W, ⟨m0, w0⟩, turn⟩ := q D newD
  obtain ⟨sc, hsc⟩ : ∃ sc : Shared, sc = { sb with heap := sb.heap.push { cls := .type "set", dict := none, data := .set #[] 0 (.fresh 0 0 (!X.w.params.followText "set-order")) } } := ⟨_, rfl⟩
  have kc : ∀ b o, sb.heap.get? b = some o → sc.heap.get? b = some o := fun b o e => by
    rw [hsc]
    exact Heap.get?_push_of_some _ e
  have szc : sc.heap.objs.size = sb.heap.objs.size + 1 := by
    rw [hsc]
    exact Heap.size_push ..
  obtain ⟨Hc, hHc⟩ : ∃ Hc, Hc = upd Hb D (SetO X.w D (fun _ => false) 0) := ⟨_, rfl⟩
  have Ic : Inv X pins σ Hc sc := by
    rw [hsc, hHc]
    refine Ib.laid (t' := sb.toks) (fun b o e => Heap.get?_push_of_some _ e) (Nat.le_of_eq hD.symm) ?_
    rw [hD]
    exact setO_new (setR_fresh X.w)
  have old : ∀ b ∈ fp, b < sb.heap.objs.size := fun b hb => (T.obj _ _ stb b hb).elim fun o z => Heap.lt_size z.1
  have fc : ∀ b ∈ fp, FpOk X pins Hc b ∧ b < sc.heap.objs.size := fun b hb => by
    refine ⟨⟨?_, (fb b hb).2⟩, by rw [szc]; exact Nat.lt_succ_of_lt (old b hb)⟩
    rw [hHc, upd_ne (by rw [hD]; exact Nat.ne_of_lt (old b hb))]
    exact (fb b hb).1
  rw [← hHc] at w0
  have stc : tn 0 sc.heap := T.keep _ _ _ stb fun b _ o e => kc b o e
  have Id := block_start Ic ok hN fc
  have hpg := hg sc Hc sc.heap.objs.size (cellsFrom (sc.heap.objs.size + 1) scope.names (cloFrom X.env.cells scope.names [])) fp
  have hpt := ht sc Hc sc.heap.objs.size (cellsFrom (sc.heap.objs.size + 1) scope.names (cloFrom X.env.cells scope.names [])) fp
  have hpe := he sc Hc sc.heap.objs.size (cellsFrom (sc.heap.objs.size + 1) scope.names (cloFrom X.env.cells scope.names [])) fp
  rw [← hsc]
  show codeAny _ _ (.compStart (.SetComp elt [⟨tg, iter, ifs, 0⟩] scope pos) 0 (.ref it) (.ref D) (compEnvC scope (cellsFrom (sc.heap.objs.size + 1) scope.names (cloFrom X.env.cells scope.names [])) sc.heap.objs.size X.env)) (compPost (model X.prog X.w) X.A X.xe none _ (.ref D) sc.heap.objs.size) { sc with heap := pushCells (sc.heap.push { cls := .type "dict", data := .dict #[] }) scope.names }
  obtain ⟨ce, hce⟩ : ∃ ce, ce = compEnvC scope (cellsFrom (sc.heap.objs.size + 1) scope.names (cloFrom X.env.cells scope.names [])) sc.heap.objs.size X.env := ⟨_, rfl⟩
  rw [← hce] at hpg hpt hpe Id ⊢
  have ceL : ce.locals = sc.heap.objs.size := by rw [hce]; rfl
  obtain ⟨sd, hsd⟩ : ∃ sd : Shared, sd = { sc with heap := pushCells (sc.heap.push { cls := .type "dict", data := .dict #[] }) scope.names } := ⟨_, rfl⟩
  rw [← hsd] at Id ⊢
  have std : tn 0 sd.heap := T.keep _ _ _ stc fun b _ o e => by
    rw [hsd]
    exact pushCells_keeps _ _ _ _ (Heap.get?_push_of_some _ e)
  have fpB : ∀ {σ' : L2.St} {H' : Hp} {s' : Shared}, Inv (X.blk sc Hc scope ce fp) [] σ' H' s' → (∀ b ∈ fp, H' b = none) → ∀ b ∈ fp, FpOk (X.blk sc Hc scope ce fp) [] H' b := fun J' hn b hb =>
    ⟨hn b hb, (J'.ok.exf b hb).1, J'.ok.exfs b hb, .inl hb, (J'.ok.exf b hb).2, fun p hp => by cases hp⟩
  have go : codeAny (model X.prog X.w) X.A (.compLoop (.SetComp elt [⟨tg, iter, ifs, 0⟩] scope pos) 0 (.ref it) (.ref D) ce) (compPost (model X.prog X.w) X.A X.xe none (EP X pins σ Q) (.ref D) sc.heap.objs.size) sd := by
    refine PpSet.compLoopS_any (fun m s' => ∃ i H', Inv (X.blk sc Hc scope ce fp) [] (wipe σ (own.map (·.2))) H' s' ∧ tn i s'.heap ∧ (∀ b ∈ fp, H' b = none) ∧ W i m H') ?_ m0 ⟨0, Hc, Id, std, fun b hb => (fc b hb).1.1, w0⟩
    rintro m se ⟨i, He, Ie, ste, ne, we⟩
    rcases turn i m He we with ⟨stop, done⟩ | ⟨go, Nx, hNx, step⟩
    · refine thnF (T.done (X.blk sc Hc scope ce fp) rfl rfl rfl hc i [] se _ He (fun _ _ => False) Ie (fpB Ie ne) ste stop) fun r sf z => ?_
      obtain ⟨rfl, If⟩ := z
      have Ig : Inv X pins σ He sf := Ic.call' (ch := fp) If.os If.base If.hok If.bare fun b hb => let z := (fc b hb).1; ⟨z.2.2.2.1, z.2.1, z.2.2.2.2.1, z.2.2.2.2.2⟩
      have nL : He sc.heap.objs.size = none := ceL ▸ (show He ce.locals = none from If.free)
      obtain ⟨mm, hn, _⟩ := If.loc
      have hn : sf.heap.Ns ce.locals mm := hn
      rw [ceL] at hn
      refine ⟨mm, hn, fun g sbg => ?_⟩
      obtain ⟨_, f1, f2, f3, f4, f5⟩ := Ic.fpOk (H' := He) (Nat.le_refl _) nL
      exact ⟨.ref D, He, Ig.turned (t' := sf.toks) (fun b o hb e => (sbg.2 b hb).trans e) nL f1 f3 f4 f5, rfl, done⟩
    · refine thnF (T.item (X.blk sc Hc scope ce fp) rfl rfl rfl hc i [] se _ He (fun _ _ => False) Ie (fpB Ie ne) ste go) fun r sf z => ?_
      obtain ⟨u, rfl, hf⟩ := z
      refine thnF hf fun _ sg ⟨x, Hg, Ig, rg, yg, stg, ng⟩ => ?_
      refine thnF (hpg.run _ sg _ Hg x u _ (Ig.pinned (fpB Ig ng) (T.obj _ _ stg)) rg (step x Hg yg)) fun _ sh ⟨σh, Hh, Ih, eh, qh⟩ => ?_
      refine thnF (hpt.run _ sh σh Hh _ Ih qh) fun b si ⟨Hi, Ii, qi⟩ => ?_
      have close : ∀ {s' : Shared} {H' : Hp}, Inv (X.blk sc Hc scope ce fp) ([] ++ pinsAt fp sg.heap) σh H' s' → Nx H' → ∃ k, k < m ∧ ∃ i H', Inv (X.blk sc Hc scope ce fp) [] (wipe σ (own.map (·.2))) H' s' ∧ tn i s'.heap ∧ (∀ b ∈ fp, H' b = none) ∧ W i k H' := by
        intro s' H' Iz nx
        obtain ⟨k, hk, wk⟩ := hNx H' nx
        have held : ∀ b ∈ fp, ∀ o, sg.heap.get? b = some o → s'.heap.get? b = some o ∧ H' b = none := fun b hb o e => (Iz.pin (b, o) (List.mem_append_right _ (List.mem_append_right _ (mem_pinsAt hb e)))).imp id And.left
        refine ⟨k, hk, i + 1, H', (Iz.unpinned (pins := [])).weak ?_ (fun j v e => ?_), T.keep _ _ _ stg fun b hb o e => (held b hb o e).1, fun b hb => ?_, wk⟩
        · rw [← eh, wipe_length]
        · rw [← eh] at e
          exact (wipe_some e).1
        · exact (T.obj _ _ stg b hb).elim fun o z => (held b hb o z.1).2
      cases b with
      | false => exact close Ii qi
      | true =>
        refine thnF (hpe.run _ si σh Hi _ Ii qi) fun z sj ⟨yv, Hj, Ij, rj, cb, S0, n0, ey, hDj, hzj, nx⟩ => ?_
        subst ey
        exact addI_ok (X := X.blk sc Hc scope ce fp) Ij hDj hzj rj fun sk Ik => close Ik nx
  exact PpSet.codeAny_compStart_set go (T.self X.A 0 _ _ _ std go)
end
/-- over any walk -/
theorem sc_it {J : It} {n : Nat} {G : Hp → Prop} {Y : Nat → Hp → V → Hp → Prop} (wk : Walk J n G Y) {w : World} {g : TG} {tt : TT} {te : TE} {vs : List Nat} {σ : L2.St} {H1 : Hp} {D : Addr} {Qd : Hp → Prop} (Pv : Nat → Hp → Prop) (h0 : Pv 0 (upd H1 D (SetO w D (fun _ => false) 0))) (hG : ∀ i H, i ≤ n → Pv i H → G H)
    (hs : ∀ i x H H', i < n → Pv i H → Y i H x H' → g x (wipe σ vs) H' fun σ2 H2 => wipe σ2 vs = wipe σ vs ∧ tt σ2 H2 fun b H3 =>
      if b = true then te σ2 H3 fun y H4 => ∃ c S n, y = V.int c ∧ H4 D = some (SetO w D S n) ∧ n + 1 < scanBound ∧ Pv (i + 1) (upd H4 D (SetO w D (fun j => S j || decide (j = c)) (if S c = true then n else n + 1))) else Pv (i + 1) H3) (hd : ∀ H, Pv n H → Qd H) :
    ∃ W : Nat → Nat → Hp → Prop, (∃ m, W 0 m (upd H1 D (SetO w D (fun _ => false) 0))) ∧ ∀ i m H, W i m H →
      (J.stop i H ∧ Qd H) ∨ (J.go i H ∧ ∃ Nx : Hp → Prop, (∀ H', Nx H' → ∃ m', m' < m ∧ W (i + 1) m' H') ∧ ∀ x H', J.yld i H x H' → g x (wipe σ vs) H' fun σ2 H2 => wipe σ2 vs = wipe σ vs ∧ tt σ2 H2 fun b H3 =>
        if b = true then te σ2 H3 fun y H4 => ∃ c S n, y = V.int c ∧ H4 D = some (SetO w D S n) ∧ n + 1 < scanBound ∧ Nx (upd H4 D (SetO w D (fun j => S j || decide (j = c)) (if S c = true then n else n + 1))) else Nx H3) := by
  refine ⟨fun i m H => i + m = n ∧ Pv i H, ⟨n, Nat.zero_add n, h0⟩, fun i m H ⟨e, p⟩ => ?_⟩
  have good := hG i H (by omega) p
  cases m with
  | zero =>
    obtain rfl : i = n := e
    exact .inl ⟨wk.stops H good, hd H p⟩
  | succ m =>
    have lt : i < n := by omega
    exact .inr ⟨wk.goes i H lt good, Pv (i + 1), fun H' p' => ⟨m, Nat.lt_succ_self m, by omega, p'⟩, fun x H' y => hs i x H H' lt p (wk.yields i H x H' lt good y)⟩
end K15

/-! K15R3: != by an own __eq__ (object.__ne__ asks it). -/
namespace K15
open PySem PySem.Spec PyProof.Rows L2
section
variable {M : Model} {prog : Program} {w : World} {A : Around} {E : Value → Shared → Prop} {s : Shared} {K : PySem.W.Frag} {x y C f : Addr} {ox oy : Obj} {od od' : Option Obj}
theorem ifBound_objNe {args : List Value} {Q : Option Value → Shared → Prop} (X : K.In s.heap) (I : PySem.W.InstAt s.heap x ox C od) (hs : PySem.W.findIn K (.ref C) "__ne__" = some (some (.builtin "object.__ne__")))
    (h : wpAny M A (call (.builtin "object.__ne__") (.ref x :: args)) (fun v => Q (some v)) E s) : wpAny M A (callSpecialIfBound? (.ref x) "__ne__" args) Q E s := by
  have done : wpAny M A (call (.builtin "object.__ne__") ([.ref x] ++ args) >>= fun v => pure (some v)) Q E s := wpAny_bind (thn h fun v s' h' => wpAny_pure h')
  simp only [callSpecialIfBound?, bindSpecialIfBound?]
  refine wpAny_holding (wpAny_bind (wpAny_bind (wpAny_bind (I.type.here ((PySem.W.looks_findIn X hs).here ?_)))))
  refine wpAny_bind (wpAny_askSetting (wpAny_ite ?_))
  split
  · exact wpAny_bind (wpAny_of_eq (F.cmp_object.ne.bind _) (wpAny_pure (by exact done)))
  · exact wpAny_tryCatch (wpAny_bind (wpAny_of_eq (F.cmp_object.ne.bind _) (wpAny_pure (by exact done))))
theorem entry_ne {b : Value} {Q : PySem.Fin → Shared → Prop} (hu : A.units < cLine) (X : K.In s.heap) (I : PySem.W.InstAt s.heap x ox C od) (hs : PySem.W.findIn K (.ref C) "__eq__" = some (some (.ref f))) (hf : PySem.W.isFn K (.ref f) = true)
    (h : wpAny (model prog w) A (call (.ref f) [.ref x, b]) (fun v s' => v = .bool true ∧ Q (.done (.ret (.bool false))) s') E s) :
    wpAny (model prog w) A (Builtin.«object.__ne__» ⟨[.ref x, b], []⟩) Q E s := by
  show wpAny _ _ (cRoomFor "comparison" [.ref x, b] >>= fun _ => callSpecialIfBound? (.ref x) "__eq__" [b] >>= _) Q E s
  refine wpAny_bind (wpAny_cRoomFor hu (wpAny_bind (PySem.W.ifBound_K X I hs hf (thn h fun v s' hv => ?_))))
  obtain ⟨rfl, q⟩ := hv
  exact wpAny_bind (wpAny_truthy_bool (wpAny_pure q))
theorem rc_ne {Q : Value → Shared → Prop} (hu : A.units + 1 < cLine) (X : K.In s.heap) (I : PySem.W.InstAt s.heap x ox C od) (J : PySem.W.InstAt s.heap y oy C od') (hm : PySem.W.mroIn K C (.type "object") = some true)
    (hn : PySem.W.findIn K (.ref C) "__ne__" = some (some (.builtin "object.__ne__"))) (hs : PySem.W.findIn K (.ref C) "__eq__" = some (some (.ref f))) (hf : PySem.W.isFn K (.ref f) = true)
    (h : wpAny (model prog w) A.in1 (call (.ref f) [.ref x, .ref y]) (fun v s' => v = .bool true ∧ Q (.bool false) s') E s) : wpAny (model prog w) A (richCompare .NotEq (.ref x) (.ref y)) Q E s := by
  have one : wpAny (model prog w) A (tryCompare (.ref x) "__ne__" (.ref y)) (fun r s' => ∃ v, r = some v ∧ Q v s') E s := by
    unfold tryCompare
    refine wpAny_bind (ifBound_objNe X I hn (wpAny_call (codeAny_call_builtin F.cmp_object.ne.plain F.cmpEntry_ne
      (PySem.W.check_slot F.cmpKind_ne F.cmpSplit_ne (I.type.andThen (PySem.W.looks_mroIn X hm)) (F.cmpArgs_ne _ _) (entry_ne (A := A.in1) hu X I hs hf (thn h fun v s' hv => ?_))))))
    obtain ⟨rfl, q⟩ := hv
    exact ⟨rfl, wpAny_pure ⟨_, rfl, q⟩⟩
  unfold richCompare
  simp only [oneThing_ref]
  refine wpAny_holding (wpAny_bind (wpAny_cRoomFor (Nat.lt_of_succ_lt hu) ?_))
  refine wpAny_bind (I.type.here (wpAny_bind (J.type.here ?_)))
  split
  · rename_i q
    simp at q
  · refine wpAny_bind (wpAny_pure ?_)
    simp only [Bool.false_eq_true, if_false]
    refine wpAny_bind (thn one fun r s' z => ?_)
    obtain ⟨v, rfl, hq⟩ := z
    exact wpAny_pure hq
end
/-- != gives False where D says that two are equal -/
def rNeG (D : Eqv) : R2 := fun x y H Q => D x y H ∧ ∀ H', Ext H H' → Q (.bl false) H'
theorem op_neIns {X : Cx} {n : Nat} {CX : CXT} {C f : Addr} {fd : FuncData} {ps : List Str} {R : Addr → Addr → Hp → Prop} {E : XK} (F : FnOk X.prog X.w X.K X.mg X.base CX n f fd ps (spEq R))
    (hm : PySem.W.mroIn X.K C (.type "object") = some true) (hn : PySem.W.findIn X.K (.ref C) "__ne__" = some (some (.builtin "object.__ne__")))
    (hs : PySem.W.findIn X.K (.ref C) "__eq__" = some (some (.ref f))) (hf : PySem.W.isFn X.K (.ref f) = true) (hb : Binds X.K fd ps []) (hx : Passes CX X E) (hr : Room (n + 1) X.A) : OpR X (compareOp .NotEq) (rNeG (DIns C R)) := by
  intro pins s σ H x y v u Q I rx ry hq
  obtain ⟨⟨a, b, dx, dy, fs, gs, rfl, rfl, ha, hb', hr'⟩, q⟩ := hq
  cases rx
  cases ry
  obtain ⟨mA, Ja, _⟩ := ins_get I.hok ha
  obtain ⟨mB, Jb, _⟩ := ins_get I.hok hb'
  obtain ⟨od, Ja, _⟩ := Ja.look
  obtain ⟨od', Jb, _⟩ := Jb.look
  have un : X.A.units + 1 < cLine := by
    have := hr.un
    omega
  show wpAny (model X.prog X.w) X.A (richCompare .NotEq (.ref a) (.ref b)) (EP X pins σ Q) X.xe s
  refine rc_ne un I.kIn Ja Jb hm hn hs hf ?_
  have hsp : spEq R [.ref a, .ref b] H (fun v H' => v = .bl true ∧ Ext H H') E := ⟨a, b, rfl, hr', fun H' e => ⟨rfl, e⟩⟩
  have hl := F.len _ _ _ _ hsp
  have rv : Vals [V.ref a, V.ref b] [Value.ref a, Value.ref b] := .cons rfl (.cons rfl .nil)
  have bb := hb s [.ref a, .ref b] I.kIn (by simpa using hl)
  simp only [List.append_nil] at bb
  refine wpAny_call (codeAny_mono (F.run X.A.in1 X.stack s H ⟨[.ref a, .ref b], []⟩ [.ref a, .ref b] [.ref a, .ref b] _ E hr.in1 I.env0.in1 bb rv hsp) fun r s' hq => ?_)
  cases r with
  | error e => exact hx pins σ H s e s' I hq
  | ok fl =>
    cases fl with
    | ret w =>
      obtain ⟨z, H', I', rz, ez, ex⟩ := I.after hq
      subst ez
      cases rz
      exact ⟨rfl, .bl false, H', I', rfl, q H' ex⟩
    | next => exact False.elim hq
    | brk => exact False.elim hq
    | cont => exact False.elim hq
end K15

/-! K15R4: o.__class__.__name__ of an instance of an own class. -/
namespace K15
open PySem PySem.Spec PyProof.Rows L2
def slotName (o : Obj) : Option Str :=
  match (o.slots[2]?).join with
  | some (Value.str x _) => some x
  | _ => none
theorem slotName_of {o : Obj} {n : Str} (h : slotName o = some n) : ∃ t, (o.slots[2]?).join = some (Value.str n t) := by
  unfold slotName at h
  split at h
  · rename_i x t e
    cases h
    exact ⟨t, e⟩
  · cases h
def nameOf (K : PySem.W.Frag) (C : Addr) : Option Str := (K.lookup C).bind slotName
section
open PySem.W Builtin Builtin.ObjectAttr Builtin.Getset_descriptor
variable {prog : Program} {w : World} {A : Around} {E : Value → Shared → Prop} {s : Shared} {K : Frag} {C x : Addr} {n : Str}
theorem name_get {R : Result → Shared → Prop} {tp : Value} (X : K.In s.heap) (ht : typeIn K (.ref C) = some (.type "type")) (hn : nameOf K C = some n) (h : ∀ t, R (.ok (.ret (.str n t))) s) :
    codeAny (model prog w) A (.call (.builtin "getset_descriptor.__get__") ⟨[.builtin "type.__name__", .ref C, tp], []⟩) R s := by
  obtain ⟨o, ho, hs⟩ := Option.bind_eq_some_iff.mp hn
  obtain ⟨t, hs⟩ := slotName_of hs
  have hC := X _ _ ho
  obtain ⟨hh, g, dr, tk, os⟩ := s
  have L0 : Looks (model prog w) hh (typeOf (.ref C)) (.type "type") := looks_typeIn X ht
  have L1 : Looks (model prog w) hh (isSubtype (.type "type") (.type "type")) true := Looks.of_pure (by rw [isSubtype_type]; kernel_rfl)
  refine codeAny_call_builtin KF.slot_gs.plain KF.entry_gs (KF.slot_gs.check _ _ _ _ _ _ _ _ ktyn_type (KF.args_gs _ _ _) ?_)
  unfold Builtin.«getset_descriptor.__get__» descrGet
  rw [dga_obj]
  refine wpAny_bind (wpAny_pure ?_)
  unfold descrGetter descrCheckInstance descrNameAndClass isInstance
  simp only [ktyn_owner]
  repeat lk
  refine ⟨Code.quiet_builtin _ (by decide +kernel), codeAny_builtin ktyn_entry ?_⟩
  unfold Builtin.«type.__name__» keptObject
  dsimp only
  refine wpAny_bind (wpAny_bind (wpAny_loadPart hC (wpAny_pure ?_)))
  rw [hs]
  exact wpAny_pure (h t)
end
/-- e.__class__.__name__ -/
def tCN (K : PySem.W.Frag) (te : TE) : TE := fun σ H Q => te σ H fun x H1 => ∃ a C dx fs n, x = .ref a ∧ H1 a = some (.ins C dx fs) ∧ Cls K C ∧ PySem.W.findIn K (.ref C) "__class__" = some (some (.builtin "object.__class__")) ∧
  PySem.W.specialIn K (.builtin "object.__class__") "__get__" = some (some (.builtin "getset_descriptor.__get__")) ∧ PySem.W.takesIn K (.builtin "object.__class__") = some true ∧ PySem.W.mroIn K C (.type "object") = some true ∧
  PySem.W.readsIn K C (.type "type") = true ∧ PySem.W.findCls K (.ref C) (.type "type") "__name__" = some (.get (.builtin "getset_descriptor.__get__") (.builtin "type.__name__") (.ref C) (.type "type")) ∧ nameOf K C = some n ∧ Q (.str n) H1
theorem pe_cn {X : Cx} {e : Expr} {te : TE} {p1 p2 : Pos} (he : PE X e te) (h1 : attributeBase e "__class__" X.env (eval e X.env) = eval e X.env := by rfl)
    (h2 : attributeBase (.Attribute e "__class__" p1) "__name__" X.env (eval (.Attribute e "__class__" p1) X.env) = eval (.Attribute e "__class__" p1) X.env := by rfl) :
    PE X (.Attribute (.Attribute e "__class__" p1) "__name__" p2) (tCN X.K te) := by
  refine ⟨fun pins s σ H Q I h => attr_of h2 (attr_of h1 (thn (he.run pins s σ H _ I h) fun u s1 ⟨x, H1, I1, rx, a, C, dx, fs, n, ex, ha, cl, f1, f2, f3, f4, f5, f6, f7, q⟩ => ?_))⟩
  subst ex
  obtain rfl : u = Value.ref a := rx
  obtain ⟨mA, O, _⟩ := ins_get I1.hok ha
  obtain ⟨od, J, _⟩ := O.look
  have hf : PySem.W.findObj X.K C (some od) "__class__" = some (.bind (.builtin "getset_descriptor.__get__") (.builtin "object.__class__")) := by
    obtain ⟨cd, hc, _⟩ := PySem.W.any_some cl.hd
    exact PySem.W.findObj_data (by rw [hc]; rfl) f1 f2 f3
  have g := PySem.W.plainGet_of (cl.get "__class__")
  refine PySem.W.get_bind I1.kIn J g.1 hf g.2 (wpAny_call (PySem.W.class_get (s := { s1 with toks := s1.toks + 1 }) I1.kIn J f4 (PySem.W.handed_on rfl ?_)))
  have I2 := I1.tok (s1.toks + 1)
  have ht : PySem.W.typeIn X.K (.ref C) = some (.type "type") := by
    have q := f5
    simp only [PySem.W.readsIn, Bool.and_eq_true, beq_iff_eq] at q
    exact q.1.1.1.2
  refine PySem.W.cls_bind I2.kIn f5 f6 (wpAny_call (name_get (s := { s1 with toks := s1.toks + 1 + 1 }) I1.kIn ht f7 fun t => PySem.W.handed_on rfl ?_))
  exact ⟨.str n, H1, I1.tok _, ⟨t, rfl⟩, q⟩

/-! ### an own __bool__ as a test -/
def tOwnB (C : Addr) (sp : Sp) (E : XK) (te : TE) : TT := fun σ H Q => te σ H fun x H1 => ∃ a dx fs, x = .ref a ∧ H1 a = some (.ins C dx fs) ∧ sp [x] H1 (fun v H2 => ∃ k, v = .bl k ∧ Q k H2) E
theorem pt_ownB {X : Cx} {CX : CXT} {n : Nat} {C f : Addr} {fd : FuncData} {ps : List Str} {sp : Sp} {E : XK} {e : Expr} {te : TE} (he : PE X e te) (F : FnOk X.prog X.w X.K X.mg X.base CX n f fd ps sp) (hs : PySem.W.findIn X.K (.ref C) "__bool__" = some (some (.ref f)))
    (hf : PySem.W.isFn X.K (.ref f) = true) (hr : Room n X.A) (hb : Binds X.K fd ps []) (hx : Passes CX X E) (ht : ∀ whole, isTrue e X.env whole = (do let v ← whole; standAt e.pos; holding [v] (truthy v)) := by intro _; rfl) :
    PT X e (tOwnB C sp E te) := by
  refine ⟨fun pins s σ H Q I h => isTrue_plain (thn (he.run pins s σ H _ I h) fun v s1 ⟨x, H1, I1, r1, a, dx, fs, ex, ha, q⟩ => ?_) (ht _)⟩
  subst ex
  obtain rfl : v = Value.ref a := r1
  obtain ⟨mA, O, _⟩ := ins_get I1.hok ha
  obtain ⟨od, J, _⟩ := O.look
  obtain ⟨m, hF⟩ := I1.fr
  refine PySem.W.truthy_K hF I1.ok.mod.kin J hs hf (thn (run_fn (us := [.ref a]) (vs := [.ref a]) F hr hb .nil hx I1 (.cons rfl .nil) q) fun u s2 ⟨y, H2, I2, ry, k, ek, qk⟩ => ?_)
  subst ek
  cases ry
  exact ⟨H2, I2, qk⟩
end K15

/-! K15R5: try .. except X as n, the exception kept behind the suite (tracked from then on); its class, its fields. -/
namespace K15
open PySem PySem.Spec PyProof.Rows L2
/-- at a: an exception, of the class cls, its dict at d -/
def exk (a : Addr) (cls : Value) (d : Option Addr) : HO := .ext fun h => ∃ oe vs, h.get? a = some oe ∧ Zc cls d oe ∧ oe.data = .fields vs
theorem exk_ok {P : Program} {w : World} {H : Hp} {h : Heap} {a : Addr} {cls : Value} {d : Option Addr} {oe : Obj} {vs : Array Value} (e : h.get? a = some oe) (z : Zc cls d oe) (hd : oe.data = .fields vs) : ObjOk P w H h a (exk a cls d) :=
  ⟨⟨oe, vs, e, z, hd⟩, ⟨oe, e⟩, fun _ _ x k => x.elim fun o x => x.elim fun v x => ⟨o, v, k _ x.1, x.2⟩⟩
theorem exk_at {P : Program} {w : World} {H : Hp} {h : Heap} {a : Addr} {cls : Value} {d : Option Addr} (ok : HOk P w H h) (e : H a = some (exk a cls d)) : ∃ oe vs, h.get? a = some oe ∧ Zc cls d oe ∧ oe.data = .fields vs :=
  (show ObjOk P w H h a (.ext fun h => ∃ oe vs, h.get? a = some oe ∧ Zc cls d oe ∧ oe.data = .fields vs) from ok a _ e).1
section
variable {X : Cx} {pins : List (Addr × Obj)} {σ : L2.St} {H : Hp} {s : Shared}
/-- a thing of ours that was not tracked, younger than the entry, is tracked -/
theorem track {a : Addr} {ob : Obj} {o : HO} {vs : Array Value} (I : Inv X pins σ H s) (n : H a = none) (he : s.heap.get? a = some ob) (hd : ob.data = .fields vs) (y : X.s_0.heap.get? a = none) (hL : a ≠ X.env.locals) (hp : ∀ p ∈ X.pn ++ pins, p.1 ≠ a)
    (new : ObjOk X.prog X.w (upd H a o) s.heap a o) : Inv X pins σ (upd H a o) s := by
  have old : ∀ {b : Addr} {u : Obj}, X.s_0.heap.get? b = some u → b ≠ a := fun {b u} e z => by
    rw [z, y] at e
    cases e
  have trk : ∀ {b : Addr} {u : HO}, H b = some u → upd H a o b = some u := fun e => (upd_ne (ne_of_none e n)).trans e
  refine ⟨I.ok, I.os, I.bare, ⟨I.base.keep, I.base.slot, fun b u e h1 h2 => (upd_ne (old e)).trans (I.base.free b u e h1 h2), I.base.there, fun b xs e => trk (I.base.tups b xs e), fun b u v e => trk (I.base.frzs b u v e), fun b ps e => ?_⟩,
    I.loc, I.cell, (upd_ne hL.symm).trans I.free, fun x c e => ?_, fun p q => ?_, fun b u e => ?_, I.len⟩
  · obtain ⟨m, e'⟩ := I.base.tbls b ps e
    exact ⟨m, trk e'⟩
  · refine (upd_ne fun z => ?_).trans (I.freeC x c e)
    obtain ⟨v, oc, h1, h2⟩ := I.cell x c e
    rw [z, he] at h1
    cases h1
    rw [hd] at h2
    cases h2
  · obtain ⟨h1, h2, h3⟩ := I.pin p q
    exact ⟨h1, (upd_ne (hp p q)).trans h2, h3⟩
  · by_cases z : b = a
    · subst z
      rw [upd_same] at e
      cases e
      exact new
    · rw [upd_ne z] at e
      exact (I.hok b u e).stay (fun _ _ _ q => q) (fun c q => trk q) fun c xs q => trk q
end
def wKeepL (n : Nat) (W : WX) : WX := fun cls d σ H => σ.length = n → W cls d σ H
def wKeep (K : PySem.W.Frag) (c : Value) (i : Nat) (ts : Addr → Value → Option Addr → TS) (D : Ends) : WX := fun cls d σ H =>
  PySem.W.exmOne K cls c = some true ∧ ∀ a, H a = none → ts a cls d { nx := fun σ' H' => H' a = none → D.nx (σ'.set i none) (upd H' a (exk a cls d)), rt := fun _ _ => False } (σ.set i (some (.ref a))) H
theorem ps_try_keep {X : Cx} {x n : Str} {c : Value} {i : Nat} {body suite : List Stmt} {b₀ : Stmt} {np pos pos' : Pos} {tb : WX → TS} {ts : Addr → Value → Option Addr → TS} (hs : X.stack = X.env :: X.outer) (hf : X.env.frame = some X.env.locals) (hex : X.ex = []) (hN : X.N.Nodup) (hi : X.N[i]? = some n)
    (hln : X.env.kindOf n = some .local) (hc : Names X x c)
    (hb : ∀ (W : WX) (pn : List (Addr × Obj)) (xe : Value → Shared → Prop), Takes (X.tr pn xe) W → PassesOwn (model X.prog X.w) X.A X.env xe → PSs (X.tr pn xe) body (tb W))
    (hsu : ∀ (a : Addr) (oe : Obj) (cls : Value) (d : Option Addr) (pn : List (Addr × Obj)), PSs (X.suite a ((a, oe) :: pn)) (b₀ :: suite) (ts a cls d)) :
    PS X (.Try body [.ExceptHandler (some (.Name x np)) (some n) (b₀ :: suite) pos'] [] [] pos) (fun D σ H => tb (wKeepL X.N.length (wKeep X.K c i ts D)) D σ H) := by
  refine ⟨fun pins s σ H D I h => ?_⟩
  have ok := I.ok
  have fr0 : X.A.frames = some (X.env :: X.outer) := ok.frames.trans (congrArg some hs)
  refine wpAny_Try_except (wpAny_mono ((hb (wKeepL X.N.length (wKeep X.K c i ts D)) (X.pn ++ pins) (fun e s₁ => wpAny (model X.prog X.w) X.A (noteFrame e X.env) (fun _ s₂ => wpAny (model X.prog X.w) X.A (setFlight e none) (fun _ s₃ =>
    wpAny (model X.prog X.w) X.A (handleBy e X.env [.ExceptHandler (some (.Name x np)) (some n) (b₀ :: suite) pos']) (SP X pins D) X.xe s₃) X.xe s₂) X.xe s₁) (fun u s' air => ?_) PassesOwn.looking).run [] s σ H D (I.toTry _) h) (fun f s1 e => ?_) fun _ _ z => z)
  · obtain ⟨a, B, sI, pI, σI, HI, cls, d, rfl, JI, ground, up, sky, na, os, ag, hmg⟩ := air
    have J : Inv X pins σI HI sI := JI.ofTry ok
    obtain ⟨hm, go⟩ := hmg JI.len
    rw [show (X.tr (X.pn ++ pins) _).stack = X.env :: X.outer from hs] at sky
    refine Sky.land Zc.steady fr0 hf sky fun h3 fl up3 => ?_
    have J3 : Inv X pins σI HI { s' with heap := h3 } := J.landed ground fl.1 (up.trans up3) os ag
    obtain ⟨o3, v3, e3, z3, d3⟩ := fl.there
    have nfr : a ∉ frs (X.env :: X.outer) := fun m => by
      obtain ⟨_, o', e', q⟩ := fl.2.2.1.mem m
      rw [e3] at e'
      cases e'
      exact q _ d3
    have nL : a ≠ X.env.locals := fun z => nfr (List.mem_filterMap.mpr ⟨X.env, List.mem_cons_self, by rw [hf, z]⟩)
    have nF : a ∉ X.fs := fun m => (List.mem_filterMap.mp m).elim fun e q => nfr (List.mem_filterMap.mpr ⟨e, List.mem_cons_of_mem _ q.1, q.2⟩)
    have gone : sI.heap.get? a = none := by
      cases q : sI.heap.get? a with
      | none => rfl
      | some o =>
        have z := ground a o q (by rw [show (X.tr (X.pn ++ pins) _).stack = X.env :: X.outer from hs]; exact nfr)
        rw [fl.2.1] at z
        cases z
    have young : X.s_0.heap.get? a = none := by
      cases q : X.s_0.heap.get? a with
      | none => rfl
      | some o =>
        obtain ⟨o', z⟩ := J.base.there a o q (by rw [hex]; exact List.not_mem_nil)
        rw [gone] at z
        cases z
    have nopin : ∀ p ∈ X.pn ++ pins, p.1 ≠ a := fun p hp z => by
      have q := (J.pin p hp).1
      rw [z, gone] at q
      cases q
    have S3 := J3.suite e3 d3 na nL nF
    refine wpAny_handleBy_cons (codeAny_handlers_test ?_) (by intro q; cases q)
    have LT : PySem.W.Looks (model X.prog X.w) h3 (typeOf (.ref a)) cls := fun A Q E s k q => wpAny_typeOf_ref (k _ _ e3) (by rw [z3.1]; exact q)
    have LM := PySem.W.exm_one (M := model X.prog X.w) J3.kIn LT hm
    have test : ∀ {Q : Value → Shared → Prop} {E : Value → Shared → Prop}, Q c { s' with heap := h3 } → wpAny (model X.prog X.w) (X.A.mark (some (.ref a))) (eval (.Name x np) X.env) Q E { s' with heap := h3 } := fun q => by
      obtain ⟨g, nd, k | ⟨k, v, nn⟩⟩ := hc
      · exact ld_glob (X := X.suite a ((a, o3) :: (X.pn ++ pins))) S3 g k q nd
      · exact ld_blt (X := X.suite a ((a, o3) :: (X.pn ++ pins))) S3 g k v q nn nd
    refine test (LM.here (codeAny_handlers_suite_as (HandSPX.lands_againZ fl fun h4 fl4 up4 => ?_)))
    have J4 : Inv X pins σI HI { s' with heap := h4 } := J.landed ground fl4.1 ((up.trans up3).trans up4) os ag
    obtain ⟨o4, v4, e4, z4, d4⟩ := fl4.there
    refine store_ok (X := X.suite a ((a, o4) :: (X.pn ++ pins))) (v := .ref a) (J4.suite e4 d4 na nL nF) hN hi (.inl hln) rfl (fun s5 S5 => ?_) (.inr hln)
    refine wpAny_mono ((hsu a o4 cls d (X.pn ++ pins)).run [] s5 _ HI _ S5 (go a na)) (fun f s6 e6 => ?_) fun _ _ z => z.elim
    cases f with
    | next =>
      obtain ⟨σ6, H6, S6, q6⟩ := e6
      have P6 : Inv X ((a, o4) :: pins) σ6 H6 s6 := (S6.unsuite ok).pins_of fun p hp => by
        rcases List.mem_cons.mp hp with rfl | hp
        · exact S6.pin (a, o4) (List.mem_append_left _ List.mem_cons_self)
        · exact S6.pin p (List.mem_append_left _ (List.mem_cons_of_mem _ (List.mem_append_right _ hp)))
      refine gone_ok P6 hN hi hln fun s7 P7 => ?_
      obtain ⟨e7, n7, _⟩ := P7.pin (a, o4) (List.mem_append_right _ List.mem_cons_self)
      have J7 : Inv X pins (σ6.set i none) H6 s7 := P7.pins_of fun p hp => P7.pin p (List.mem_append_right _ (List.mem_cons_of_mem _ hp))
      exact ⟨_, _, track J7 n7 e7 d4 young nL nopin (exk_ok e7 z4 d4), q6 n7⟩
    | brk => exact e6.elim fun _ z => z.elim fun _ z => z.2.elim
    | cont => exact e6.elim fun _ z => z.elim fun _ z => z.2.elim
    | ret u => exact e6.elim fun _ z => z.elim fun _ z => z.elim fun _ z => z.2.2.elim
  · cases f with
    | next => exact e.elim fun σ' z => z.elim fun H' z => wpAny_execs_nil ⟨σ', H', z.1.ofTry ok, z.2⟩
    | brk => exact e.elim fun σ' z => z.elim fun H' z => ⟨σ', H', z.1.ofTry ok, z.2⟩
    | cont => exact e.elim fun σ' z => z.elim fun H' z => ⟨σ', H', z.1.ofTry ok, z.2⟩
    | ret u => exact e.elim fun v z => z.elim fun σ' z => z.elim fun H' z => ⟨v, σ', H', z.1.ofTry ok, z.2⟩

/-- isinstance(e, C) of a kept exception of C itself -/
def rIsx (K : PySem.W.Frag) : List V → Hp → VK → Prop := fun xs H Q => ∃ a d C, xs = [.ref a, .ref C] ∧ H a = some (exk a (.ref C) d) ∧ PySem.W.isIn K (.ref C) C = true ∧ Q (.bl true) H
theorem call_isx {X : Cx} : CallR X (.builtin "isinstance") (rIsx X.K) := by
  intro pins s σ H xs us Q I r h
  obtain ⟨a, d, C, rfl, ha, e, q⟩ := h
  obtain ⟨u1, u2, rfl, r1, r2⟩ := vals2 r
  obtain rfl : u1 = Value.ref a := r1
  obtain rfl : u2 = Value.ref C := r2
  obtain ⟨oe, vs, he, z, _⟩ := exk_at I.hok ha
  refine PySem.W.isi_call (t := .ref C) I.kIn (fun M A Q E s k q => wpAny_typeOf_ref (k _ _ he) (by rw [z.1]; exact q)) e (fun z => nomatch z) ⟨.bl true, H, I, rfl, q⟩
/-- e.f of a kept exception: a field of its dict -/
def tExf (K : PySem.W.Frag) (f : Str) (te : TE) : TE := fun σ H Q => te σ H fun x H1 => ∃ a d C fs v, x = .ref a ∧ H1 a = some (exk a (.ref C) (some d)) ∧ H1 d = some (.xd fs) ∧ fs.lookup f = some v ∧
  PySem.W.findIn K (.ref C) "__getattribute__" = some (some (.builtin "BaseException.__getattribute__")) ∧ (∃ gt, PySem.W.findIn K (.ref C) "__getattr__" = some gt) ∧ PySem.W.subIn K (.ref C) (.type "BaseException") = some true ∧
  PySem.W.hasDictIn K C = true ∧ PySem.W.findIn K (.ref C) f = some none ∧ Q v H1
theorem pe_exf {X : Cx} {e : Expr} {f : Str} {te : TE} {pos : Pos} (he : PE X e te) (hb : attributeBase e f X.env (eval e X.env) = eval e X.env := by rfl) : PE X (.Attribute e f pos) (tExf X.K f te) := by
  refine ⟨fun pins s σ H Q I h => attr_of hb (thn (he.run pins s σ H _ I h) fun u s1 ⟨x, H1, I1, rx, a, d, C, fs, v, ex, ha, hd, hl, g1, ⟨gt, g2⟩, g3, g4, g5, q⟩ => ?_)⟩
  subst ex
  obtain rfl : u = Value.ref a := rx
  obtain ⟨oe, vs, e1, ⟨z1, z2⟩, e2⟩ := exk_at I1.hok ha
  obtain ⟨mA, ns, rel⟩ := (show ObjOk X.prog X.w H1 s1.heap d (.xd fs) from I1.hok d _ hd)
  obtain ⟨od, ho, hlk⟩ := lookIn_ns ns
  obtain ⟨w, hw, rw'⟩ := RelO.some_of (v := v) (o := mA f) (by rw [← hl]; exact rel f)
  have J : PySem.W.InstAt s1.heap a oe C (some od) := ⟨e1, z1, by unfold PySem.W.notCls; rw [e2], by rw [z2]; exact ho⟩
  have hf : PySem.W.findObj X.K C (some od) f = some (.value w) := PySem.W.findObj_own g4 g5 rfl (by rw [hlk, hw])
  exact HandSPX.exc_get I1.kIn J g1 g2 g3 hf (handed_of rw') ⟨v, H1, I1.tok _, rw', q⟩
end K15

/-! K15R6: an __init__ that begins with super().__init__(..). -/
namespace K15
open PySem PySem.Spec PyProof.Rows L2
/-- a method of the class at D that says super(): its closure holds the class's cell -/
structure SupFn (P : Program) (K : PySem.W.Frag) (x qual : Str) (st : Stmt) (D f : Addr) (fd : FuncData) : Prop where
  ex : ∃ (oc : Value) (od : Option Addr) (osl : Array (Option Value)) (dV kV doc pm : Value) (an : Option Addr) (cda : Addr) (ct : Value) (cc : Addr) (ccl : Value) (cdd : Option Addr) (vs : Array Value) (ccs : Array (Option Value)) (file : Str) (tf : Tok) (cl : Value) (cld : Option Addr) (csl : Array (Option Value)),
    fd = PySem.W.ksFn x qual (defArgs st) (defBody st) (defScope st) dV kV doc pm an (.ref cda) ct cc ∧ K.lookup f = some ⟨oc, od, .func fd, osl⟩ ∧ PySem.W.codeIn K (.ref cda) qual = true ∧ K.lookup cda = some ⟨ccl, cdd, .fields vs, ccs⟩ ∧
      vs[2]? = some (.str file tf) ∧ ((P.main.file : Str) == file) = true ∧ K.lookup cc = some ⟨cl, cld, .cell (some (.ref D)), csl⟩
  cd : ∃ cd, PySem.W.clsIn K D = some cd
structure SupScope (N ps : List Str) (sc : Scope) : Prop where
  kind : sc.kind = .function
  co : sc.isCoroutine = false
  gen : sc.isGenerator = false
  nd : N.Nodup
  pre : N = ps
  par : ∀ x ∈ ps, sc.names.lookup x = some .local
  cell : ∀ y ∈ sc.names, y.2 ≠ .cell
  free : ∀ y ∈ sc.names, y.2 = .free → y.1 = "__class__"
  sup : sc.names.lookup ("super" : Str) = some .globalImplicit
  cls : sc.names.lookup ("__class__" : Str) = some .free
def supCx (P : Program) (w : World) (K : PySem.W.Frag) (mg : Str → Option Value) (base : Heap) (N : List Str) (qual : Str) (scope : Scope) (f cda cc : Addr) (A : Around) (outer : List Env) (s : Shared) (H : Hp) : Cx where
  prog := P
  w := w
  K := K
  mg := mg
  base := base
  A := A.deeper (PySem.W.ksEnv qual scope s.heap.objs.size f (.ref cda) cc)
  N := N
  s_0 := s
  H_0 := H
  env := PySem.W.ksEnv qual scope s.heap.objs.size f (.ref cda) cc
  outer := outer
  stack := PySem.W.ksEnv qual scope s.heap.objs.size f (.ref cda) cc :: outer
  ex := []
  calm := true
  fn := fun _ => false
  pn := []
  xe := fun _ _ => False
theorem sup_start {P : Program} {w : World} {K : PySem.W.Frag} {mg : Str → Option Value} {base : Heap} {N ps : List Str} {qual : Str} {sc : Scope} {f cda cc D : Addr} {A : Around} {outer : List Env} {s : Shared} {H : Hp} {us : List Value} {vs : List V} {h₀ : Heap} {tk : Nat} {cl : Value} {cld : Option Addr} {csl : Array (Option Value)}
    (S : SupScope N ps sc) (hd : A.handled = none) (e0 : Env0 P w K mg base A outer s H) (hl : vs.length = ps.length) (r : Vals vs us) (hcc : K.lookup cc = some ⟨cl, cld, .cell (some (.ref D)), csl⟩)
    (ns : h₀.Ns s.heap.objs.size (fun x => (ps.zip us).reverse.lookup x)) (kp : ∀ b o, s.heap.get? b = some o → h₀.get? b = some o) :
    Inv (supCx P w K mg base N qual sc f cda cc A outer s H) [] (vs.map some) H { s with heap := h₀, toks := tk } := by
  have bcc := e0.mod.kin _ _ hcc
  obtain ⟨scc, fcc⟩ := e0.bs _ _ bcc
  have one : ∀ {x : Str} {c : Addr}, ([("__class__", cc)] : List (Str × Addr)).lookup x = some c → x = "__class__" ∧ c = cc := fun {x c} e => by
    by_cases z : x = "__class__"
    · subst z
      simp at e
      exact ⟨rfl, e.symm⟩
    · have q : (x == ("__class__" : Str)) = false := by simpa using z
      simp [List.lookup, q] at e
  have noA : ∀ b : Addr, b ∉ (supCx P w K mg base N qual sc f cda cc A outer s H).ex := fun b z => absurd (show b ∈ ([] : List Addr) from z) (by simp)
  have nodup : ps.Nodup := S.pre ▸ S.nd
  have lenU : us.length = ps.length := by rw [← r.length, hl]
  refine ⟨⟨e0.mod, S.kind, rfl, rfl, Nat.le_refl _, fun x y c e1 e2 => (one e1).1.trans (one e2).1.symm, fun x hx => ?_, fun x c z _ => ?_, fun _ => hd, Around.frames_deeper e0.frames, .inr ⟨rfl, rfl⟩, fun b z => absurd z (noA b), e0.bs, e0.bsz, fun b _ _ => noA b, fun b z => absurd z (noA b), e0.funs, e0.frf⟩,
    rfl, e0.bare, Un.kept kp, ⟨_, ns, fun i y v h1 h2 h3 => ?_⟩, fun x c e => ?_, e0.hok.fresh (Nat.le_refl _), fun x c e => ?_, fun p hp => absurd (show p ∈ ([] : List (Addr × Obj)) from hp) (by simp), e0.hok.kept kp, ?_⟩
  · have hx : sc.names.lookup x = some .cell ∨ sc.names.lookup x = some .free := hx
    rcases hx with hx | hx
    · exact absurd rfl (S.cell _ (PySem.mem_of_lookup hx))
    · have e := S.free _ (PySem.mem_of_lookup hx) rfl
      have e : x = "__class__" := e
      subst e
      exact ⟨cc, by show ([("__class__", cc)] : List (Str × Addr)).lookup ("__class__" : Str) = _; simp⟩
  · have z : false = true := z
    cases z
  · have h1 : ps[i]? = some y := S.pre ▸ h1
    rw [List.getElem?_map] at h2
    obtain ⟨a, ha, e⟩ := Option.map_eq_some_iff.mp h2
    cases e
    obtain ⟨u, hu, ru⟩ := r.get ha
    have hm : (y, u) ∈ ps.zip us := List.mem_iff_getElem?.mpr ⟨i, by rw [List.getElem?_zip_eq_some]; exact ⟨h1, hu⟩⟩
    refine ⟨u, ru, .inl ⟨S.par y (List.mem_of_getElem? h1), ?_⟩⟩
    have nd2 : ((ps.zip us).reverse.map Prod.fst).Nodup := by
      rw [List.map_reverse, List.map_fst_zip (Nat.le_of_eq lenU.symm)]
      exact List.pairwise_reverse.mpr (List.Pairwise.imp (fun h => Ne.symm h) nodup)
    have hm2 : (y, u) ∈ (ps.zip us).reverse := List.mem_reverse.mpr hm
    clear ns
    revert nd2 hm2
    generalize (ps.zip us).reverse = l
    intro nd2 hm2
    induction l with
    | nil => cases hm2
    | cons p l ih =>
      obtain ⟨a, b⟩ := p
      rw [List.map_cons, List.nodup_cons] at nd2
      rcases List.mem_cons.mp hm2 with z | z
      · cases z
        simp [List.lookup]
      · have ne : (y == a) = false := beq_eq_false_iff_ne.mpr fun q => nd2.1 (q ▸ List.mem_map.mpr ⟨_, z, rfl⟩)
        simp only [List.lookup, ne]
        exact ih nd2.2 z
  · rw [(one e).2]
    exact ⟨_, _, kp _ _ scc, rfl⟩
  · rw [(one e).2]
    exact fcc
  · rw [List.length_map, hl]
    exact congrArg List.length S.pre.symm
/-- THE RULE -/
theorem sup_ok {P : Program} {w : World} {K : PySem.W.Frag} {mg : Str → Option Value} {base : Heap} {k : Nat} {x qual : Str} {st : Stmt} {D f f2 : Addr} {fd : FuncData} {N ps : List Str} {sp sp2 : Sp} {p0 p1 p2 p3 p4 : Pos} {e : Expr} {es : List Expr} {rest : List Stmt} {ar : Arg} {ta : TA} {tr : TS}
    (F : SupFn P K x qual st D f fd) (S : SupScope N ps (defScope st)) (len : ∀ vs H Q E, sp vs H Q E → vs.length = ps.length)
    (hb : defBody st = .Expr (.Call (.Attribute (.Call (.Name "super" p0) [] [] p1) "__init__" p2) (e :: es) [] p3) p4 :: rest)
    (har : ((defArgs st).posonlyargs ++ (defArgs st).args).head? = some ar) (h0 : N[0]? = some ar.arg) (hsup : mg "super" = none) (htop : (P.main.scope.names.lookup ("super" : Str)).isSome = false) (hth : PySem.W.nsIn K cStatics "thirdparty.any" = some none)
    (F2 : FnR P w K mg base CX0 k f2 sp2) (t2 : PySem.W.typeIn K (.ref f2) = some (.type "function")) (i2 : PySem.W.fnIn K f2 = true)
    (heval : ∀ env, eval (.Call (.Attribute (.Call (.Name "super" p0) [] [] p1) "__init__" p2) (e :: es) [] p3) env = (do
      let ov ← attributeBase (.Call (.Name "super" p0) [] [] p1) "__init__" env (eval (.Call (.Name "super" p0) [] [] p1) env)
      standAt p2.atName
      let (f, first) ← holding [ov] (getMethod ov "__init__" (importBound (.Call (.Name "super" p0) [] [] p1) env >>= fun b => pure (b.getD true)))
      callWith p3 f first (backTo p3 (starEach (e :: es) env)) []))
    (hst : ∀ env, starEach (e :: es) env = (false, eval e env) :: starEach es env) (hpl : ∀ env, (backTo p3 (starEach es env)).any (·.1) = false)
    (hsw : ∀ (X : Cx), swapsWith (.Call (.Attribute (.Call (.Name "super" p0) [] [] p1) "__init__" p2) (e :: es) [] p3) none p4.line X.env = pure false)
    (hbody : ∀ (cda cc : Addr) (A : Around) (outer : List Env) (s : Shared) (H : Hp), PA (supCx P w K mg base N qual (defScope st) f cda cc A outer s H) (e :: es) ta ∧ PSs (supCx P w K mg base N qual (defScope st) f cda cc A outer s H) rest tr)
    (hread : ∀ vs H Q E, sp vs H Q E → ∃ a C dx fs ws, vs = .ref a :: ws ∧ H a = some (.ins C dx fs) ∧ PySem.W.mroIn K C (.ref D) = some true ∧ PySem.W.ks_superIn K C D "__init__" = some (some (.ref f2)) ∧
      ∀ q, H q = none → ta (vs.map some) (upd H q (.met f2 a)) fun zs H1 => H1 = upd H q (.met f2 a) ∧ sp2 (.ref a :: zs) (upd H q (.met f2 a)) (fun _ H2 => tr { nx := fun _ H' => Q .non H', rt := Q } (vs.map some) H2) E0) :
    FnOk P w K mg base CX0 (k + 1) f fd ps sp := by
  obtain ⟨oc, od, osl, dV, kV, doc, pm, an, cda, ct, cc, ccl, cdd, cvs, ccs, file, tf, cl, cld, csl, rfl, lk, hcd, hcda, hvs, hfile, hcc⟩ := F.ex
  obtain ⟨cdD, hD⟩ := F.cd
  refine ⟨len, fun A outer s H args us vs Q E hr e0 hbd r hsp => ?_⟩
  have hl := len _ _ _ _ hsp
  have KX : K.In s.heap := e0.mod.kin.keeps fun b o e => (e0.bs b o e).1
  have lim : s.heap.NoLimit := e0.mod.nolimit.keeps fun b o e => (e0.bs b o e).1
  refine PySem.ks_codeAny_call_defAt (fd := PySem.W.ksFn x qual (defArgs st) (defBody st) (defScope st) dV kV doc pm an (.ref cda) ct cc) (body := defBody st) (binds := ps.zip us) hr.depth (KX _ _ lk) rfl lim (PySem.W.codeRec_of KX hcd) rfl hbd S.cell
    (fun y hy => S.par y.1 (List.of_mem_zip hy).1) (fun h₀ ns kp => ?_) S.co S.gen S.kind
  obtain ⟨a, C, dx, fs, ws, rfl, ha, hmro, hsi, hq⟩ := hread _ _ _ _ hsp
  have I0 : Inv (supCx P w K mg base N qual (defScope st) f cda cc A outer s H) [] ((V.ref a :: ws).map some) H { s with heap := h₀, toks := s.toks + (ps.zip us).length } := sup_start S hr.hd e0 hl r hcc ns kp
  obtain ⟨pa, prest⟩ := hbody cda cc A outer s H
  obtain ⟨X, hX⟩ : ∃ X, X = supCx P w K mg base N qual (defScope st) f cda cc A outer s H := ⟨_, rfl⟩
  have eA : X.A = A.deeper (PySem.W.ksEnv qual (defScope st) s.heap.objs.size f (.ref cda) cc) := by rw [hX]; rfl
  have eE : X.env = PySem.W.ksEnv qual (defScope st) s.heap.objs.size f (.ref cda) cc := by rw [hX]; rfl
  have hr2 : Room k X.A := by
    rw [eA]
    exact hr.deeper _
  obtain ⟨us0, usr, rfl, r0, rr⟩ : ∃ u0 ur, us = u0 :: ur ∧ RelV (.ref a) u0 ∧ Vals ws ur := by
    cases r with
    | cons p q => exact ⟨_, _, rfl, p, q⟩
  obtain rfl : us0 = Value.ref a := r0
  show PySem.wpAt (model P w) (A.deeper (PySem.W.ksEnv qual (defScope st) s.heap.objs.size f (.ref cda) cc)) (.func (defBody st) (PySem.W.ksEnv qual (defScope st) s.heap.objs.size f (.ref cda) cc)) (execs (defBody st) (PySem.W.ksEnv qual (defScope st) s.heap.objs.size f (.ref cda) cc)) _ _ _
  have fin : ∀ (fl : Flow) (s' : Shared), SP X [] { nx := fun _ H' => Q .non H', rt := Q } fl s' → CR CX0 outer P w H s Q E (.ok (.ret (match fl with | .ret v => v | _ => .none))) s' := by
    rw [hX]
    intro fl s' z
    cases fl with
    | next => exact z.elim fun σ' z => z.elim fun H' z => ⟨.non, H', z.1.os, z.1.bare, z.1.base, z.1.hok, rfl, z.2⟩
    | ret u => exact z.elim fun v z => z.elim fun σ' z => z.elim fun H' z => ⟨v, H', z.1.os, z.1.bare, z.1.base, z.1.hok, z.2.1, z.2.2⟩
    | brk => exact z.elim fun σ' z => z.elim fun H' z => z.2.elim
    | cont => exact z.elim fun σ' z => z.elim fun H' z => z.2.elim
  have main : PySem.wpAt (model P w) X.A (.func (defBody st) X.env) (execs (defBody st) X.env) (SP X [] { nx := fun _ H' => Q .non H', rt := Q }) (fun _ _ => False) { s with heap := h₀, toks := s.toks + (ps.zip (Value.ref a :: usr)).length } := by
    rw [← hX] at I0 pa prest
    have eP : X.prog = P := by rw [hX]; rfl
    have eW : X.w = w := by rw [hX]; rfl
    have eK : X.K = K := by rw [hX]; rfl
    have emg : X.mg = mg := by rw [hX]; rfl
    have ebase : X.base = base := by rw [hX]; rfl
    have exe : X.xe = fun _ _ => False := by rw [hX]; rfl
    rw [show execs (defBody st) X.env = execs (.Expr (.Call (.Attribute (.Call (.Name "super" p0) [] [] p1) "__init__" p2) (e :: es) [] p3) p4 :: rest) X.env by rw [hb]]
    refine PySem.ks_wpAt_execs_cons (PySem.ks_wpAt_Expr_any ?_ I0.quiet (hsw X))
    refine PySem.ks_wpAt_MethodCall (pl := importBound (.Call (.Name "super" p0) [] [] p1) X.env >>= fun b => pure (b.getD true)) ?_ (heval X.env)
    rw [eE]
    obtain ⟨oD, hD1, hD2⟩ : ∃ oD, h₀.get? D = some oD ∧ oD.data = .cls cdD := by
      unfold PySem.W.clsIn at hD
      split at hD
      · rename_i c d cd' sl ho
        cases hD
        exact ⟨_, kp _ _ (KX _ _ ho), rfl⟩
      · cases hD
    have KX0 : K.In h₀ := KX.keeps kp
    obtain ⟨mA, Oa, _⟩ := ins_get I0.hok ha
    obtain ⟨odx, Ja, _⟩ := Oa.look
    have nameA : (defScope st).names.lookup ar.arg = some .local := S.par _ (by rw [← S.pre]; exact List.mem_of_getElem? h0)
    refine PySem.ks_wpAt_super_base (env := PySem.W.ksEnv qual (defScope st) s.heap.objs.size f (.ref cda) cc) S.sup S.cls (by decide) rfl (KX0 _ _ lk) rfl har rfl (KX0 _ _ hcda) rfl hvs hfile htop ?_
    obtain ⟨mb, hmb1, hmb2⟩ := I0.mod.blt
    have gl : h₀.Ns mainGlobals mg := by
      have := I0.mod.glob.keeps I0.bk
      rw [emg] at this
      exact this
    have bl : h₀.Ns builtinsNs mb := hmb1.keeps I0.bk
    refine PySem.W.ks_loadName_global S.kind S.sup (PySem.Calls.loadGlobal_builtin (env := PySem.W.ksEnv qual (defScope st) s.heap.objs.size f (.ref cda) cc) gl hsup bl ((hmb2 _ (by decide)).trans (by decide +kernel : bootBuiltins "super" = some (.type "super"))) ⟨rfl, ?_⟩)
    refine wpAny_loadName_free S.kind S.cls rfl ⟨_, KX0 _ _ hcc, rfl⟩ ?_
    have hps0 : ps[0]? = some ar.arg := by
      rw [← S.pre]
      exact h0
    obtain ⟨pr, hpr⟩ : ∃ pr, ps = ar.arg :: pr := by
      cases hp : ps with
      | nil =>
        rw [hp] at hps0
        cases hps0
      | cons b r =>
        rw [hp] at hps0
        cases hps0
        exact ⟨r, rfl⟩
    have hlook : (ps.zip (Value.ref a :: usr)).reverse.lookup ar.arg = some (.ref a) := by
      have nd : ps.Nodup := S.pre ▸ S.nd
      rw [hpr] at nd ⊢
      rw [List.zip_cons_cons, List.reverse_cons]
      have hn : ∀ l : List (Str × Value), (∀ p ∈ l, p.1 ≠ ar.arg) → (l ++ [(ar.arg, Value.ref a)]).lookup ar.arg = some (.ref a) := by
        intro l
        induction l with
        | nil =>
          intro _
          simp [List.lookup]
        | cons p l ih =>
          intro hp
          obtain ⟨b, c⟩ := p
          have ne : (ar.arg == b) = false := beq_eq_false_iff_ne.mpr fun q => hp _ List.mem_cons_self q.symm
          simp only [List.cons_append, List.lookup, ne]
          exact ih fun p hq => hp p (List.mem_cons_of_mem _ hq)
      refine hn _ fun p hp z => ?_
      have := List.mem_reverse.mp hp
      exact (List.nodup_cons.mp nd).1 (z ▸ (List.of_mem_zip (a := p.1) (b := p.2) this).1)
    refine wpAny_loadName_local S.kind nameA ns hlook ?_
    refine PySem.ks_wpAny_isType_cls hD1 hD2 ⟨rfl, ?_⟩
    refine PySem.ks_wpAny_call_super hD1 hD2 Ja.at_ Ja.cls (fun c e => by cases e) (PySem.W.looks_mroIn KX0 hmro) (fun h1 eso k1 => ?_)
    have I1 : Inv X [] ((V.ref a :: ws).map some) H { s with heap := h1, toks := s.toks + (ps.zip (Value.ref a :: usr)).length } := I0.kept (t' := s.toks + (ps.zip (Value.ref a :: usr)).length) k1
    have KX1 : K.In h1 := KX0.keeps k1
    obtain ⟨cdC, hcC⟩ : ∃ cd, PySem.W.clsIn K C = some cd := by
      unfold PySem.W.mroIn at hmro
      cases q : PySem.W.clsIn K C with
      | none =>
        rw [q] at hmro
        cases hmro
      | some cd => exact ⟨cd, rfl⟩
    have hsi' : PySem.W.alongIn K "__init__" ((cdC.mro.dropWhile (· != .ref D)).drop 1) = some (some (.ref f2)) := by
      unfold PySem.W.ks_superIn at hsi
      rw [hcC] at hsi
      exact hsi
    obtain ⟨of, hof, hofc⟩ : ∃ of, h1.get? f2 = some of ∧ of.cls = .type "function" := by
      have ht' : (K.lookup f2).map (·.cls) = some (.type "function") := t2
      obtain ⟨of, z, e⟩ := Option.map_eq_some_iff.mp ht'
      exact ⟨of, KX1 _ _ z, e⟩
    have J1 : PySem.W.InstAt h1 a (PySem.W.instObj C dx) C (some odx) := ⟨k1 _ _ Ja.at_, rfl, rfl, k1 _ _ Ja.dict⟩
    refine PySem.ks_wpAny_getMethod_super eso (PySem.W.looks_opaque KX1 hth) (l₀ := cdC.mro) (fun A Q E s k q => wpAny_bind ((PySem.W.looks_clsIn KX1 hcC) A _ E s k (wpAny_pure q))) rfl KX1 hsi' hof hofc (PySem.W.ks_ne KX1 J1 hcC) (by decide) ?_
    have hn : H h1.objs.size = none := I1.hok.fresh (Nat.le_refl _)
    have I2 : Inv X [] ((V.ref a :: ws).map some) (upd H h1.objs.size (.met f2 a)) { s with heap := h1.push { cls := .type "method", data := .fields #[.ref f2, .ref a] }, toks := s.toks + (ps.zip (Value.ref a :: usr)).length + 1 } :=
      I1.laid (a := h1.objs.size) (o := .met f2 a) (t' := s.toks + (ps.zip (Value.ref a :: usr)).length + 1) (fun b u q => Heap.get?_push_of_some _ q) (Nat.le_refl _) (Heap.get?_push_size _ rfl)
    have rd := hq _ hn
    rw [← eE]
    have hev := pa.run p3 [] _ _ _ _ I2 rd
    rw [eP, eW, exe] at hev
    rw [hst] at hev ⊢
    refine PySem.W.callWith_of (P := fun h => PySem.W.MethP K h1.objs.size f2 (.ref a) h) (by show ((false || (backTo p3 (starEach es X.env)).any (·.1)) || false) = false; rw [hpl]; rfl) (PySem.W.keeps_M i2) (PySem.Calls.evalArgs_plain ?_)
    refine wpAny_mono hev (fun zus s3 hz => ?_) fun _ _ z => z
    obtain ⟨zs, H1, I3, rz, eH1, hsp2⟩ := hz
    subst eH1
    have hm3 : s3.heap.get? h1.objs.size = some (PySem.W.methodObj (.ref f2) (.ref a)) := I3.hok _ _ upd_same
    have KX3 : K.In s3.heap := by
      have := I3.kIn
      rw [eK] at this
      exact this
    refine ⟨⟨hm3, KX3⟩, ?_⟩
    have en := I3.env0
    rw [eP, eW, eK, emg, ebase] at en
    have frun := F2 X.A X.stack s3 _ (Value.ref a :: zus) (V.ref a :: zs) _ E0 hr2 en (.cons rfl rz) hsp2
    refine wpAny_call (PySem.ks_codeAny_call_bound hm3 (codeAny_mono frun fun r4 s4 h4 => ?_))
    cases r4 with
    | error er => exact (show False from h4).elim
    | ok fl =>
      cases fl with
      | next => exact False.elim h4
      | brk => exact False.elim h4
      | cont => exact False.elim h4
      | ret u =>
        rw [← eP, ← eW] at h4
        obtain ⟨v, H4, I4, _, q4⟩ := I3.after h4
        have hp := prest.run [] s4 _ H4 { nx := fun _ H' => Q .non H', rt := Q } I4 q4
        rw [eP, eW, exe] at hp
        exact PySem.wpAt_of_wpAny hp
  rw [eA, eE] at main
  exact PySem.ks_wpAt_mono main (fun fl s' z => fin fl s' z) fun _ _ z => z.elim
end K15

/-! K15P0: short words for the promises. -/
namespace K15
open PySem PySem.Spec PyProof.Rows L2
abbrev FD (K : PySem.W.Frag) (x qual : Str) (st : Stmt) (f : Addr) (fd : FuncData) : Prop := FunD K x qual (defArgs st) (defBody st) (defScope st) [] [] f fd
abbrev FN (K : PySem.W.Frag) (x : Str) (st : Stmt) (f : Addr) (fd : FuncData) : Prop := FD K x x st f fd
section
variable {P : Program} {w : World} {K : PySem.W.Frag} {mg : Str → Option Value} {base : Heap}
theorem ok0 {x qual : Str} {params : Arguments} {body : List Stmt} {scope : Scope} {dvs : List V} {kws : List (Str × V)} {f : Addr} {fd : FuncData} {N ps : List Str} {k : Nat} {sp : Sp} (F : FunD K x qual params body scope dvs kws f fd) (S : FnScope N ps scope) (len : ∀ vs H Q E, sp vs H Q E → vs.length = ps.length)
    (hbody : ∀ (cdv : Value) (A : Around) (outer : List Env) (s : Shared) (H : Hp) (vs : List V) (Q : VK) (E : XK), Room k (A.deeper (envOfC qual scope s.heap.objs.size f cdv)) → sp vs H Q E →
      ∃ t, PSs (cxOf CX0 P w K mg base N qual scope f cdv A outer s H E).nox body t ∧ t { nx := fun _ H' => Q .non H', rt := Q } (start N vs) H) : FnOk P w K mg base CX0 (k + 1) f fd ps sp :=
  F.ok S len fun cdv A outer s H vs Q E hr h => (hbody cdv A outer s H vs Q E hr h).imp fun _ z => ⟨z.1.nox, z.2⟩
theorem spF {x qual : Str} {st : Stmt} {f : Addr} {fd : FuncData} (F : FD K x qual st f fd) : PySem.W.keepIn K (.ref f) = true := F.kp
end
theorem look1 (a : V) : ([(("length" : Str), a)] : List (Str × V)).lookup ("length" : Str) = some a := by simp [List.lookup]
theorem lookA {f : Str} {a : V} {r : List (Str × V)} : ((f, a) :: r).lookup f = some a := by simp [List.lookup]
theorem lookB {f g : Str} {a : V} {r : List (Str × V)} (h : (g == f) = false) : ((f, a) :: r).lookup g = r.lookup g := by simp [List.lookup, h]
theorem lookN {g : Str} : ([] : List (Str × V)).lookup g = none := rfl
theorem putA {f : Str} {a v : V} {r : List (Str × V)} : putF f v ((f, a) :: r) = (f, v) :: r := if_pos rfl
theorem putB {f g : Str} {a v : V} {r : List (Str × V)} (h : ¬ g = f) : putF f v ((g, a) :: r) = (g, a) :: putF f v r := if_neg h
theorem putN {f : Str} {v : V} : putF f v [] = [(f, v)] := rfl
end K15

/-! K15P1: what the text has written; the leaves. -/
namespace K15
open PySem PySem.Spec PyProof.Rows L2
abbrev cR (K : PySem.W.Frag) : Addr := He.ga K "Rule"
abbrev cB (K : PySem.W.Frag) : Addr := He.ga K "Book"
abbrev cW (K : PySem.W.Frag) : Addr := He.ga K "Row"
abbrev cE (K : PySem.W.Frag) : Addr := He.ga K "Empty"
abbrev cP (K : PySem.W.Frag) : Addr := He.ga K "Paper"
abbrev cN (K : PySem.W.Frag) : Addr := He.ga K "Denial"
abbrev cI (K : PySem.W.Frag) : Addr := He.ga K "Impossible"
abbrev cD (K : PySem.W.Frag) : Addr := He.ga K "DayError"
/-- an own class, as isinstance asks -/
structure InsK (K : PySem.W.Frag) (C : Addr) : Prop where
  cl : Cls K C
  ha : PySem.W.findIn K (.ref C) "__class__" = some (some (.builtin "object.__class__"))
  hm : PySem.W.mroIn K C (.type "object") = some true
structure Txt (K : PySem.W.Frag) (mg : Str → Option Value) : Prop where
  hn : PySem.W.specialIn K (.builtin "object.__class__") "__get__" = some (some (.builtin "getset_descriptor.__get__"))
  htk : PySem.W.takesIn K (.builtin "object.__class__") = some true
  iR : InsK K (cR K)
  iB : InsK K (cB K)
  iW : InsK K (cW K)
  iE : InsK K (cE K)
  rLength : NoAttr K (cR K) "length"
  rLow : NoAttr K (cR K) "low"
  rHigh : NoAttr K (cR K) "high"
  bDays : NoAttr K (cB K) "days"
  bRules : NoAttr K (cB K) "rules"
  wGains : NoAttr K (cW K) "gains"
  wHeights : NoAttr K (cW K) "heights"
  wDays : NoAttr K (cW K) "days"
  wTotal : NoAttr K (cW K) "total"
  eWord : NoAttr K (cE K) "word"
  eParts : NoAttr K (cE K) "parts"
  eOne : NoAttr K (cE K) "one"
  eOther : NoAttr K (cE K) "other"
  mR : mg "Rule" = some (.ref (cR K))
  mB : mg "Book" = some (.ref (cB K))
  mW : mg "Row" = some (.ref (cW K))
  mE : mg "Empty" = some (.ref (cE K))
  mP : mg "Paper" = some (.ref (cP K))
  mN : mg "Denial" = some (.ref (cN K))
  mI : mg "Impossible" = some (.ref (cI K))
  mD : mg "DayError" = some (.ref (cD K))
  kRR : PySem.W.kitOne K (.ref (cR K)) (.ref (cR K)) = some true
  kBB : PySem.W.kitOne K (.ref (cB K)) (.ref (cB K)) = some true
  kWW : PySem.W.kitOne K (.ref (cW K)) (.ref (cW K)) = some true
  kEP : PySem.W.kitOne K (.ref (cE K)) (.ref (cP K)) = some true
  kEE : PySem.W.kitOne K (.ref (cE K)) (.ref (cE K)) = some true
  kEN : PySem.W.kitOne K (.ref (cE K)) (.ref (cN K)) = some true
  cDaysB : ∃ t, mg "MOST_DAYS_books" = some (.int 48 t)
  cDaysR : ∃ t, mg "MOST_DAYS_rows" = some (.int 48 t)
  cLen : ∃ t, mg "MOST_LENGTH" = some (.int 48 t)
  cRules : ∃ t, mg "MOST_RULES" = some (.int 8 t)
  isi : mg "isinstance" = none
  int : mg "int" = none
  bool : mg "bool" = none
  list : mg "list" = none
  tuple : mg "tuple" = none
  all : mg "all" = none
  len : mg "len" = none
  range : mg "range" = none
  enumerate : mg "enumerate" = none
  max : mg "max" = none
  min : mg "min" = none
  sorted : mg "sorted" = none
  sum : mg "sum" = none
  abs : mg "abs" = none
  super : mg "super" = none
theorem Txt.ty {K : PySem.W.Frag} {mg : Str → Option Value} {H : Hp} {C a dx : Addr} {fs : List (Str × V)} (T : Txt K mg) (i : InsK K C) (e : H a = some (.ins C dx fs)) : TyX K H (.ref a) (.ref C) := .base (.ins e i.cl i.ha T.hn T.htk i.hm)
/-! ### callees -/
structure Cal (P : Program) (w : World) (K : PySem.W.Frag) (mg : Str → Option Value) (base : Heap) (CX : CXT) (k : Nat) (x : Str) (ps : List Str) (sp : Sp) : Prop where
  ex : ∃ f fd, FnOk P w K mg base CX k f fd ps sp ∧ mg x = some (.ref f) ∧ PySem.W.keepIn K (.ref f) = true ∧ Binds K fd ps []
structure CalM (P : Program) (w : World) (K : PySem.W.Frag) (mg : Str → Option Value) (base : Heap) (CX : CXT) (k : Nat) (C : Addr) (m : Str) (ps : List Str) (sp : Sp) : Prop where
  ex : ∃ f fd, FnOk P w K mg base CX k f fd ps sp ∧ Meth K C m f ∧ Binds K fd ps []
structure CalC (P : Program) (w : World) (K : PySem.W.Frag) (mg : Str → Option Value) (base : Heap) (CX : CXT) (k : Nat) (C : Addr) (x : Str) (ps : List Str) (sp : Sp) : Prop where
  ex : ∃ f fd, FnOk P w K mg base CX k f fd ps sp ∧ Mk K C f ∧ mg x = some (.ref C) ∧ Binds K fd ps []
section
variable {X : Cx} {CX : CXT} {k : Nat} {C : Addr} {x m : Str} {ps : List Str} {sp : Sp} {E : XK} {p pos apos : Pos} {e o : Expr} {es : List Expr} {ta : TE} {t : TA}
theorem pe_cal (c : Cal X.prog X.w X.K X.mg X.base CX k x ps sp) (hr : Room k X.A) (hg : Gl X x) (hx : Passes CX X E) (ha : PA X (e :: es) t) (hdb : (x == ("__debug__" : Str)) = false := by decide)
    (he : starEach (e :: es) X.env = (false, eval e X.env) :: starEach es X.env := by rfl) (hpl : (backTo pos (starEach es X.env)).any (·.1) = false := by rfl) : PE X (.Call (.Name x p) (e :: es) [] pos) (tCall sp [] E t) := by
  obtain ⟨f, fd, F, hm, hk, hb⟩ := c.ex
  exact pe_call F hr hg hm hk hb .nil hx ha hdb he hpl
theorem pe_calM {pl : Sem Bool} (he : PE X o ta) (cl : Cls X.K C) (c : CalM X.prog X.w X.K X.mg X.base CX k C m ps sp) (hr : Room k X.A) (hx : Passes CX X E) (ha : PA X (e :: es) t)
    (hst : starEach (e :: es) X.env = (false, eval e X.env) :: starEach es X.env := by rfl) (hpl : (backTo pos (starEach es X.env)).any (·.1) = false := by rfl)
    (ht : eval (.Call (.Attribute o m apos) (e :: es) [] pos) X.env = (do
      let ov ← eval o X.env
      standAt apos.atName
      let (f, first) ← holding [ov] (getMethod ov m pl)
      callWith pos f first (backTo pos (starEach (e :: es) X.env)) (backToKw pos (keywordEach [] X.env))) := by rfl) : PE X (.Call (.Attribute o m apos) (e :: es) [] pos) (tMeth C m sp [] E ta t) := by
  obtain ⟨f, fd, F, hm, hb⟩ := c.ex
  exact pe_meth he cl hm F hr hb .nil hx ha hst hpl ht
theorem pe_calM0 {pl : Sem Bool} (he : PE X o ta) (cl : Cls X.K C) (c : CalM X.prog X.w X.K X.mg X.base CX k C m ps sp) (hr : Room k X.A) (hx : Passes CX X E)
    (ht : eval (.Call (.Attribute o m apos) [] [] pos) X.env = (do
      let ov ← eval o X.env
      standAt apos.atName
      let (f, first) ← holding [ov] (getMethod ov m pl)
      callWith pos f first (backTo pos (starEach [] X.env)) (backToKw pos (keywordEach [] X.env))) := by rfl) : PE X (.Call (.Attribute o m apos) [] [] pos) (tMeth C m sp [] E ta tNil) := by
  obtain ⟨f, fd, F, hm, hb⟩ := c.ex
  exact pe_meth0 he cl hm F hr hb .nil hx ht
theorem pe_calC (c : CalC X.prog X.w X.K X.mg X.base CX k C x ps sp) (hr : Room (k + 1) X.A) (hg : Gl X x) (hx : Passes CX X E) (ha : PA X (e :: es) t) (hdb : (x == ("__debug__" : Str)) = false := by decide)
    (he : starEach (e :: es) X.env = (false, eval e X.env) :: starEach es X.env := by rfl) (hpl : (backTo pos (starEach es X.env)).any (·.1) = false := by rfl) : PE X (.Call (.Name x p) (e :: es) [] pos) (tMake C sp [] E t) := by
  obtain ⟨f, fd, F, M, hm, hb⟩ := c.ex
  exact pe_make M F hr hg hm hb .nil hx ha hdb he hpl
end
/-! ### built-ins -/
theorem bIsi : bootBuiltins "isinstance" = some (.builtin "isinstance") := by decide +kernel
theorem bInt : bootBuiltins "int" = some (.type "int") := by decide +kernel
theorem bBool : bootBuiltins "bool" = some (.type "bool") := by decide +kernel
theorem bList : bootBuiltins "list" = some (.type "list") := by decide +kernel
theorem bTuple : bootBuiltins "tuple" = some (.type "tuple") := by decide +kernel
theorem bAll : bootBuiltins "all" = some (.builtin "all") := by decide +kernel
theorem bLen : bootBuiltins "len" = some (.builtin "len") := by decide +kernel
theorem bMax : bootBuiltins "max" = some (.builtin "max") := by decide +kernel
theorem bMin : bootBuiltins "min" = some (.builtin "min") := by decide +kernel
theorem bSorted : bootBuiltins "sorted" = some (.builtin "sorted") := by decide +kernel
theorem bSum : bootBuiltins "sum" = some (.builtin "sum") := by decide +kernel
theorem bAbs : bootBuiltins "abs" = some (.builtin "abs") := by decide +kernel
/-! ### heaps that grow -/
/-- all but x is kept -/
def ExtB (x : Addr) (H H' : Hp) : Prop := ∀ b o, b ≠ x → H b = some o → H' b = some o
theorem _root_.L2.Ext.b {x : Addr} {H H' : Hp} (e : Ext H H') : ExtB x H H' := fun b o _ h => e b o h
theorem ExtB.rfl' {x : Addr} {H : Hp} : ExtB x H H := fun _ _ _ h => h
theorem ExtB.trans {x : Addr} {H H1 H2 : Hp} (a : ExtB x H H1) (b : ExtB x H1 H2) : ExtB x H H2 := fun c o n h => b c o n (a c o n h)
theorem ExtB.thn {x : Addr} {H H1 H2 : Hp} (a : ExtB x H H1) (b : L2.Ext H1 H2) : ExtB x H H2 := fun c o n h => b c o (a c o n h)
theorem ExtB.upd {x : Addr} {H : Hp} {o : HO} : ExtB x H (upd H x o) := fun b u n h => by rw [upd_ne n]; exact h
theorem ExtB.of {x : Addr} {H H' : Hp} (e : ExtB x H H') (n : H x = none) : Ext H H' := fun b o h => e b o (ne_of_none h n) h
theorem ExtB.free {x : Addr} {H H' : Hp} (e : ExtB x H H') {l : Addr} (h : H' l = none) (n : l ≠ x) : H l = none := by
  cases q : H l with
  | none => rfl
  | some o =>
    rw [e l o n q] at h
    cases h
theorem _root_.L2.Ext.free {H H' : Hp} (e : Ext H H') {l : Addr} (h : H' l = none) : H l = none := by
  cases q : H l with
  | none => rfl
  | some o =>
    rw [e l o q] at h
    cases h
theorem _root_.L2.Ext.new {H : Hp} {p : Addr} {o : HO} (h : H p = none) : Ext H (L2.upd H p o) := Ext.upd h
theorem _root_.L2.Ext.up {H H1 : Hp} {p : Addr} {o : HO} (x : Ext H H1) (h : H1 p = none) : Ext H (L2.upd H1 p o) := x.upd' h
/-- written at a place that was new -/
theorem _root_.L2.Ext.wr {H H1 : Hp} {p : Addr} {o : HO} (x : Ext H H1) (h : H p = none) : Ext H (L2.upd H1 p o) := fun a u e => by rw [upd_ne (ne_of_none e h)]; exact x a u e
/-- behind C(..) -/
theorem ExtB.made {H H1 : Hp} {x dx C : Addr} (nx : H x = none) (nd : H dx = none) (k : ExtB x (L2.upd (L2.upd H dx (.own x)) x (.ins C dx [])) H1) : Ext H H1 := fun b o e =>
  k b o (ne_of_none e nx) (by rw [upd_ne (ne_of_none e nx), upd_ne (ne_of_none e nd)]; exact e)
/-! ### plain lists -/
theorem map_at {α : Type} {f : α → V} {l : List α} {i : Nat} {x : V} (h : (l.map f)[i]? = some x) : ∃ a, l[i]? = some a ∧ x = f a := by
  rw [List.getElem?_map] at h
  obtain ⟨a, e, q⟩ := Option.map_eq_some_iff.mp h
  exact ⟨a, e, q.symm⟩
theorem at_map {α : Type} {f : α → V} {l : List α} {i : Nat} {a : α} (h : l[i]? = some a) : (l.map f)[i]? = some (f a) := by
  rw [List.getElem?_map, h]
  rfl
theorem small48 {n : Nat} (h : n ≤ 1000) : n < sizeLine := Nat.lt_of_le_of_lt h (by decide)
theorem small48' {n : Nat} (h : n ≤ 1000) : n ≤ sizeLine := Nat.le_of_lt (small48 h)

/-! ### the leaves -/
def spIsInt : Sp := fun vs H Q _ => ∃ o : Option Int, vs = [oV o] ∧ Q (.bl o.isSome) H
def spWithin : Sp := fun vs H Q _ => ∃ (x : Int) (lo hi : Option Int), vs = [.int x, oV lo, oV hi] ∧ Q (.bl (within x lo hi)) H
def spAreInts (K : PySem.W.Frag) : Sp := fun vs H Q _ => ∃ (a : Addr) (ns : List Int), vs = [.ref a] ∧ H a = some (.lst (ns.map V.int)) ∧ ns.length ≤ 1000 ∧ ∀ H', Ext H H' → Q (.bl true) H'
def spNeed : Sp := fun vs H Q _ => ∃ (x a b : Int) (z : Str), vs = [.int x, .str z, .int a, .int b] ∧ a ≤ x ∧ x ≤ b ∧ Q .non H
def spBound : Sp := fun vs H Q _ => ∃ (o : Option Int) (z : Str), vs = [oV o, .str z] ∧ Q .non H
def spBounds : Sp := fun vs H Q _ => ∃ lo hi : Option Int, vs = [oV lo, oV hi] ∧ Q (.bl (bOk lo hi)) H
theorem isNon_oV (o : Option Int) : decide (oV o = V.non) = !o.isSome := by
  cases o <;> simp [oV]
section
variable {P : Program} {w : World} {K : PySem.W.Frag} {mg : Str → Option Value} {base : Heap} {f : Addr} {fd : FuncData}
theorem ok_isInt (F : FN K "is_integer" sIsInt f fd) (T : Txt K mg) : FnOk P w K mg base CX0 1 f fd ["value"] spIsInt := by
  refine ok0 F scIsInt (fun vs H Q E h => ?_) (fun cdv A outer s H vs Q E hr h => ?_)
  · obtain ⟨o, rfl, _⟩ := h
    rfl
  · obtain ⟨o, rfl, q⟩ := h
    refine ⟨_, pss_one (ps_ret (pe_and (pe_callB call_isi (by rfl) T.isi bIsi (pa_cons (pv 0) (pa_cons (pe_bltn rfl T.int bInt (v := .ty "int") rfl) pa_nil)))
      (pe_one (pe_not (pe_callB call_isi (by rfl) T.isi bIsi (pa_cons (pv 0) (pa_cons (pe_bltn rfl T.bool bBool (v := .ty "bool") rfl) pa_nil))))))), ?_⟩
    cases o with
    | none => exact ⟨_, rfl, .non, .ty "int", .type "NoneType", .type "int", false, rfl, .ty _, .base .non, kit_ty (by decide +kernel), false, rfl, q⟩
    | some i =>
      refine ⟨_, rfl, .int i, .ty "int", .type "int", .type "int", true, rfl, .ty _, .base (.int i), kit_ty (by decide +kernel), true, rfl, ?_⟩
      exact ⟨_, rfl, .int i, .ty "bool", .type "int", .type "bool", false, rfl, .ty _, .base (.int i), kit_ty (by decide +kernel), false, rfl, q⟩
theorem ok_within (F : FN K "is_within" sIsWithin f fd) (c : Cal P w K mg base CX0 1 "is_integer" ["value"] spIsInt) : FnOk P w K mg base CX0 2 f fd ["value", "least", "most"] spWithin := by
  refine ok0 F scIsWithin (fun vs H Q E h => ?_) (fun cdv A outer s H vs Q E hr h => ?_)
  · obtain ⟨x, lo, hi, rfl, _⟩ := h
    rfl
  · obtain ⟨x, lo, hi, rfl, q⟩ := h
    refine ⟨_, pss_cons (ps_if (pt_not (pt_val (pe_cal c hr rfl pass0 (pa_cons (pv 0) pa_nil)))) (pss_one (ps_ret pe_bl)) pss_nil)
      (pss_one (ps_ret (pe_and (pe_or (pe_cmp (pc_isN (pv 1))) (pe_one (pe_cmpR op_le (pv 1) (pv 0) (nomark _)))) (pe_one (pe_or (pe_cmp (pc_isN (pv 2))) (pe_one (pe_cmpR op_le (pv 0) (pv 2) (nomark _)))))))), ?_⟩
    refine ⟨_, rfl, some x, rfl, true, rfl, ?_⟩
    refine iteF ?_
    cases lo with
    | none =>
      refine ⟨_, rfl, true, rfl, iteT ⟨true, rfl, iteT ?_⟩⟩
      cases hi with
      | none => exact ⟨_, rfl, true, rfl, iteT q⟩
      | some b => exact ⟨_, rfl, false, rfl, iteF ⟨_, rfl, _, rfl, _, _, rfl, rfl, by simpa [within] using q⟩⟩
    | some a =>
      refine ⟨_, rfl, false, rfl, iteF ⟨_, rfl, _, rfl, _, _, rfl, rfl, decide (a ≤ x), rfl, ?_⟩⟩
      by_cases hax : a ≤ x
      · rw [decide_eq_true hax]
        refine iteT ?_
        cases hi with
        | none => exact ⟨_, rfl, true, rfl, iteT (by simpa [within, hax] using q)⟩
        | some b => exact ⟨_, rfl, false, rfl, iteF ⟨_, rfl, _, rfl, _, _, rfl, rfl, by simpa [within, hax] using q⟩⟩
      · rw [decide_eq_false hax]
        exact iteF (by simpa [within, hax] using q)
theorem ok_areInts (F : FN K "are_integers" sAreInts f fd) (T : Txt K mg) (c : Cal P w K mg base CX0 1 "is_integer" ["value"] spIsInt) : FnOk P w K mg base CX0 2 f fd ["value"] (spAreInts K) := by
  refine ok0 F scAreInts (fun vs H Q E h => ?_) (fun cdv A outer s H vs Q E hr h => ?_)
  · obtain ⟨a, ns, rfl, _⟩ := h
    rfl
  · obtain ⟨a, ns, rfl, ha, hz, q⟩ := h
    refine ⟨_, pss_one (ps_ret (pe_and (pe_callB call_isiT (by rfl) T.isi bIsi (pa_cons (pv 0) (pa_cons (pe_tup (pa_cons (pe_bltn rfl T.list bList (v := .ty "list") rfl) (pa_cons (pe_bltn rfl T.tuple bTuple (v := .ty "tuple") rfl) pa_nil))) pa_nil)))
      (pe_one (pe_callB (cr_all rfl) (by rfl) T.all bAll (pa_cons (pe_lc (own := [("each", 1)]) (g := gName 1) (tt := tYes) rfl scAreInts.nd (pi_list (pv 0)) (blkOk_by (N := ["value", "each"]) (sc := defScope sAreInts) (by decide +kernel))
        (fun _ _ _ _ _ => pg_name (i := 1) scAreInts.nd rfl (Or.inl rfl)) (fun _ _ _ _ _ => pts_nil) (fun _ _ _ _ _ => pe_cal c hr rfl pass0 (pa_cons (pv 1) pa_nil))) pa_nil))))), ?_⟩
    refine ⟨_, rfl, by show 2 ≤ sizeLine; decide, fun tp ntp => ?_⟩
    have e1 : Ext H (upd H tp (.tup [.ty "list", .ty "tuple"])) := Ext.new ntp
    refine ⟨.ref a, tp, _, .type "list", [.type "list", .type "tuple"], true, rfl, upd_same, .cons (.ty _) (.cons (.ty _) .nil), .base (.lst (e1 _ _ ha)), kitAny_cons (b := true) (kit_ty (by decide +kernel)) (fun z => nomatch z) (fun _ => rfl), true, rfl, ?_⟩
    refine ⟨_, rfl, a, rfl, ⟨_, SqL.of (e1 _ _ ha)⟩, fun D nD => ?_⟩
    refine lc_list (xs := ns.map V.int) (fun i H' => H' = upd (upd H tp (.tup [.ty "list", .ty "tuple"])) D (.lst ((List.replicate i true).map V.bl))) rfl (fun i H' _ e => ?_) (fun i x H' hi e => ?_) (fun H' e => ?_)
    · rw [e]
      exact SqL.of ((Ext.new nD) _ _ (e1 _ _ ha))
    · obtain ⟨n, hn, rfl⟩ := map_at hi
      have hl : i < ns.length := (List.getElem?_eq_some_iff.mp hn).1
      refine ⟨rfl, _, rfl, some n, rfl, _, by rw [e]; exact upd_same, small48 (by simp; omega), ?_⟩
      rw [e, upd_upd]
      congr 2
      rw [List.replicate_succ', List.map_append]
      rfl
    · refine ⟨D, List.replicate (ns.map V.int).length true, rfl, by rw [e]; exact SqL.of upd_same, ?_⟩
      rw [show (List.replicate (ns.map V.int).length true).all id = true by simp]
      refine q _ ?_
      rw [e]
      exact e1.up nD
theorem ok_need (F : FN K "need_number" sNeedNum f fd) (c : Cal P w K mg base CX0 2 "is_within" ["value", "least", "most"] spWithin) : FnOk P w K mg base CX0 3 f fd ["value", "part", "least", "most"] spNeed := by
  refine ok0 F scNeedNum (fun vs H Q E h => ?_) (fun cdv A outer s H vs Q E hr h => ?_)
  · obtain ⟨x, a, b, z, rfl, _⟩ := h
    rfl
  · obtain ⟨x, a, b, z, rfl, h1, h2, q⟩ := h
    refine ⟨_, pss_one (ps_if (pt_not (pt_val (pe_cal c hr rfl pass0 (pa_cons (pv 0) (pa_cons (pv 2) (pa_cons (pv 3) pa_nil)))))) pss_never pss_nil), ?_⟩
    refine ⟨_, rfl, _, rfl, _, rfl, x, some a, some b, rfl, _, rfl, ?_⟩
    rw [show within x (some a) (some b) = true by simp [within, h1, h2]]
    exact iteF q
theorem scNeedBound : FnScope ["value", "part"] ["value", "part"] (defScope sNeedBound) := ⟨rfl, rfl, rfl, by decide +kernel, rfl, by decide +kernel, by decide +kernel⟩
theorem ok_needBound (F : FN K "need_bound" sNeedBound f fd) (c : Cal P w K mg base CX0 1 "is_integer" ["value"] spIsInt) : FnOk P w K mg base CX0 2 f fd ["value", "part"] spBound := by
  refine ok0 F scNeedBound (fun vs H Q E h => ?_) (fun cdv A outer s H vs Q E hr h => ?_)
  · obtain ⟨o, z, rfl, _⟩ := h
    rfl
  · obtain ⟨o, z, rfl, q⟩ := h
    refine ⟨_, pss_one (ps_if (PW.pt (pw_and (pt_cmp (pc_notN (pv 0))) (pw_and1 (pt_not (pt_val (pe_cal c hr rfl pass0 (pa_cons (pv 0) pa_nil))))))) pss_never pss_nil), ?_⟩
    cases o with
    | none => exact ⟨_, rfl, false, rfl, iteF (iteF q)⟩
    | some i => exact ⟨_, rfl, true, rfl, iteT ⟨_, rfl, some i, rfl, true, rfl, iteF q⟩⟩
theorem scAreBounds : FnScope ["low", "high"] ["low", "high"] (defScope sAreBounds) := ⟨rfl, rfl, rfl, by decide +kernel, rfl, by decide +kernel, by decide +kernel⟩
theorem ok_areBounds (F : FN K "are_bounds" sAreBounds f fd) : FnOk P w K mg base CX0 1 f fd ["low", "high"] spBounds := by
  refine ok0 F scAreBounds (fun vs H Q E h => ?_) (fun cdv A outer s H vs Q E hr h => ?_)
  · obtain ⟨lo, hi, rfl, _⟩ := h
    rfl
  · obtain ⟨lo, hi, rfl, q⟩ := h
    refine ⟨_, pss_cons (ps_if (PW.pt (pw_or (pt_cmp (pc_isN (pv 0))) (pw_or1 (pt_cmp (pc_isN (pv 1)))))) (pss_one (ps_ret (pe_or (pe_cmp (pc_notN (pv 0))) (pe_one (pe_cmp (pc_notN (pv 1))))))) pss_nil) (pss_one (ps_ret (pe_cmpR op_le (pv 0) (pv 1) (nomark _)))), ?_⟩
    cases lo with
    | none =>
      refine ⟨_, rfl, true, rfl, iteT (iteT ⟨_, rfl, false, rfl, iteF ⟨_, rfl, ?_⟩⟩)⟩
      cases hi with
      | none => exact q
      | some b => exact q
    | some a =>
      cases hi with
      | none => exact ⟨_, rfl, false, rfl, iteF ⟨_, rfl, true, rfl, iteT ⟨_, rfl, true, rfl, iteT q⟩⟩⟩
      | some b => exact ⟨_, rfl, false, rfl, iteF ⟨_, rfl, false, rfl, iteF ⟨_, rfl, _, rfl, _, _, rfl, rfl, q⟩⟩⟩
end
end K15

/-! K15P2: rows and rules. -/
namespace K15
open PySem PySem.Spec PyProof.Rows L2
/-! ### what stands in the heap -/
def rlF (r : Rl) : List (Str × V) := [("length", .int r.len), ("low", oV r.lo), ("high", oV r.hi)]
def RuleAt (K : PySem.W.Frag) (H : Hp) (p : Addr) (r : Rl) : Prop := ∃ dx, H p = some (.ins (cR K) dx (rlF r))
def RowAt (K : PySem.W.Frag) (H : Hp) (p : Addr) (g : List Int) : Prop := ∃ dx t1 t2, H p = some (.ins (cW K) dx [("gains", .ref t1), ("heights", .ref t2), ("days", .int g.length), ("total", .int g.sum)]) ∧ SqT K H t1 (g.map V.int) ∧ SqT K H t2 ((heights g).map V.int)
theorem RuleAt.ext {K : PySem.W.Frag} {H H' : Hp} {p : Addr} {r : Rl} (h : RuleAt K H p r) (e : Ext H H') : RuleAt K H' p r := h.imp fun _ z => e _ _ z
theorem RowAt.ext {K : PySem.W.Frag} {H H' : Hp} {p : Addr} {g : List Int} (h : RowAt K H p g) (e : Ext H H') : RowAt K H' p g := by
  obtain ⟨dx, t1, t2, h1, h2, h3⟩ := h
  exact ⟨dx, t1, t2, e _ _ h1, h2.ext e, h3.ext e⟩
theorem rl_len (r : Rl) : (rlF r).lookup ("length" : Str) = some (V.int r.len) := lookA
theorem rl_low (r : Rl) : (rlF r).lookup ("low" : Str) = some (oV r.lo) := (lookB (by decide +kernel)).trans lookA
theorem rl_high (r : Rl) : (rlF r).lookup ("high" : Str) = some (oV r.hi) := (lookB (by decide +kernel)).trans ((lookB (by decide +kernel)).trans lookA)
theorem row_heights {a b c d : V} : ([(("gains" : Str), a), ("heights", b), ("days", c), ("total", d)] : List (Str × V)).lookup ("heights" : Str) = some b := (lookB (by decide +kernel)).trans lookA
theorem row_days {a b c d : V} : ([(("gains" : Str), a), ("heights", b), ("days", c), ("total", d)] : List (Str × V)).lookup ("days" : Str) = some c := (lookB (by decide +kernel)).trans ((lookB (by decide +kernel)).trans lookA)
/-- e.f of a rule -/
theorem ExtB.sq {K : PySem.W.Frag} {x a : Addr} {H H' : Hp} {xs : List V} (e : ExtB x H H') (n : a ≠ x) (h : H a = some (.lst xs)) : H' a = some (.lst xs) := e _ _ n h

def spHeights (K : PySem.W.Frag) : Sp := fun vs H Q _ => ∃ (a : Addr) (g : List Int), vs = [.ref a] ∧ H a = some (.lst (g.map V.int)) ∧ g.length ≤ 900 ∧ ∀ H' t, Ext H H' → H' t = some (.tup ((heights g).map V.int)) → Q (.ref t) H'
def spRowI (K : PySem.W.Frag) : Sp := fun vs H Q _ => ∃ (x a dx : Addr) (g : List Int), vs = [.ref x, .ref a] ∧ H x = some (.ins (cW K) dx []) ∧ H a = some (.lst (g.map V.int)) ∧ 0 < g.length ∧ g.length ≤ 48 ∧ ∀ H', ExtB x H H' → RowAt K H' x g → Q .non H'
def spRuleI (K : PySem.W.Frag) : Sp := fun vs H Q _ => ∃ (x dx : Addr) (r : Rl), vs = [.ref x, .int r.len, oV r.lo, oV r.hi] ∧ H x = some (.ins (cR K) dx []) ∧ r.Ok ∧ ∀ H', ExtB x H H' → RuleAt K H' x r → Q .non H'
def spNeedRow (K : PySem.W.Frag) : Sp := fun vs H Q _ => ∃ (p : Addr) (g : List Int) (z : Str), vs = [.ref p, .str z] ∧ RowAt K H p g ∧ Q .non H
def spRuleF (K : PySem.W.Frag) : Sp := fun vs H Q _ => ∃ (p q : Addr) (r : Rl) (g : List Int), vs = [.ref p, .ref q] ∧ RuleAt K H p r ∧ r.Ok ∧ RowAt K H q g ∧ g.length ≤ 1000 ∧ (Keeps r g → Q .non H) ∧ (¬ Keeps r g → ∀ i, Q (.int i) H)
def rRule (K : PySem.W.Frag) (a b : Addr) (H : Hp) : Prop := ∃ r, RuleAt K H a r ∧ RuleAt K H b r

section
variable {P : Program} {w : World} {K : PySem.W.Frag} {mg : Str → Option Value} {base : Heap} {f : Addr} {fd : FuncData}
theorem scHeights : FnScope ["gains", "found", "gain"] ["gains"] (defScope sHeights) := ⟨rfl, rfl, rfl, by decide +kernel, rfl, by decide +kernel, by decide +kernel⟩
theorem ok_heights (F : FN K "heights_of" sHeights f fd) (T : Txt K mg) : FnOk P w K mg base CX0 1 f fd ["gains"] (spHeights K) := by
  refine ok0 F scHeights (fun vs H Q E h => ?_) (fun cdv A outer s H vs Q E hr h => ?_)
  · obtain ⟨a, g, rfl, _⟩ := h
    rfl
  · obtain ⟨a, g, rfl, ha, hz, q⟩ := h
    refine ⟨_, pss_cons (ps_set (i := 1) scHeights.nd rfl (Or.inl rfl) (pe_lst (pa_cons pe_int pa_nil)))
      (pss_cons (ps_for PassesOwn.never rfl (pi_list (pv 0)) (pg_name (i := 2) scHeights.nd rfl (Or.inl rfl)) (pss_one (ps_expr (pe_bm PySem.F.plainAttrs_list PySem.F.slot_list_append PySem.F.type_list_append mt_append (pv 1)
        (pa_cons (pe_op op_add (pe_ix ix_list (pv 1) (pe_un un_neg pe_int) (fun _ _ => rfl)) (pv 2)) pa_nil)))))
      (pss_one (ps_ret (pe_callTy call_tuple_of (by rfl) T.tuple bTuple (pa_cons (pv 1) pa_nil))))), ?_⟩
    refine ⟨by show 1 ≤ sizeLine; decide, fun l nl => ?_⟩
    have nal : a ≠ l := ne_of_none ha nl
    refine ⟨_, rfl, a, rfl, ⟨_, SqL.of ((Ext.new nl) _ _ ha)⟩, ?_⟩
    refine for_it (walk_list (xs := g.map V.int)) (fun i σ H' => ∃ v, σ = [some (.ref a), some (.ref l), v] ∧ H' = upd H l (.lst ((List.range (i + 1)).map fun j => V.int (g.take j).sum)))
      ⟨none, rfl, by simp⟩ (fun i σ H' _ ⟨v, _, e⟩ => ?_) (fun i x σ H' H2 hi hP y => ?_) (fun σ H' hP => ?_)
    · rw [e]
      exact SqL.of ((Ext.new nl) _ _ ha)
    · obtain ⟨v, rfl, e⟩ := hP
      obtain ⟨e2, hx⟩ := y
      subst e2
      obtain ⟨n, hn, rfl⟩ := map_at hx
      have hl : i < g.length := (List.getElem?_eq_some_iff.mp hn).1
      have hL : H2 l = some (.lst ((List.range (i + 1)).map fun j => V.int (g.take j).sum)) := by rw [e]; exact upd_same
      have hlast : atI ((List.range (i + 1)).map fun j => V.int (g.take j).sum) (-1) = some (V.int (g.take i).sum) := by
        rw [List.range_succ, List.map_append]
        exact atI_last _ _
      refine ⟨_, rfl, .inl ⟨rfl, _, SqL.of hL⟩, _, rfl, _, rfl, l, _, _, _, rfl, rfl, SqL.of hL, hlast, _, rfl, _, _, rfl, rfl, l, _, _, rfl, rfl, hL, small48 (by simp; omega), ?_⟩
      refine ⟨_, rfl, ?_⟩
      rw [e, upd_upd]
      congr 2
      rw [List.range_succ (n := i + 1), List.map_append]
      congr 1
      show [V.int ((g.take i).sum + n)] = [V.int (g.take (i + 1)).sum]
      rw [sum_take hn]
    · obtain ⟨v, rfl, e⟩ := hP
      have hL : H' l = some (.lst ((heights g).map V.int)) := by
        rw [e, upd_same]
        unfold heights
        simp
      refine ⟨_, rfl, l, _, rfl, .inl ⟨SqL.of hL, fun t nt => ?_⟩⟩
      refine q _ t ?_ upd_same
      have e1 : Ext H H' := by
        rw [e]
        exact Ext.new nl
      exact e1.up nt
theorem scRowI : FnScope ["self", "gains"] ["self", "gains"] (defScope sRowI) := ⟨rfl, rfl, rfl, by decide +kernel, rfl, by decide +kernel, by decide +kernel⟩
theorem ok_rowI (F : FD K "__init__" "Row.__init__" sRowI f fd) (T : Txt K mg) (c1 : Cal P w K mg base CX0 2 "are_integers" ["value"] (spAreInts K)) (c2 : Cal P w K mg base CX0 1 "heights_of" ["gains"] (spHeights K)) :
    FnOk P w K mg base CX0 3 f fd ["self", "gains"] (spRowI K) := by
  refine ok0 F scRowI (fun vs H Q E h => ?_) (fun cdv A outer s H vs Q E hr h => ?_)
  · obtain ⟨x, a, dx, g, rfl, _⟩ := h
    rfl
  · obtain ⟨x, a, dx, g, rfl, hx, ha, h0, h48, q⟩ := h
    obtain ⟨tk, cD⟩ := T.cDaysR
    refine ⟨_, pss_cons (ps_if (PW.pt (pw_or (pt_not (pt_val (pe_cal c1 hr rfl pass0 (pa_cons (pv 1) pa_nil)))) (pw_or1 (pt_cmpR op_eq (pe_callB call_len_seq (by rfl) T.len bLen (pa_cons (pv 1) pa_nil)) pe_int (nomark _))))) pss_never pss_nil)
      (pss_cons (ps_if (pt_cmpR op_gt (pe_callB call_len_seq (by rfl) T.len bLen (pa_cons (pv 1) pa_nil)) (pe_glob (v := .int 48) rfl cD ⟨_, rfl⟩) (nomark _)) pss_never pss_nil)
      (pss_cons (ps_fld (pv 0) (pe_callTy call_tuple_of (by rfl) T.tuple bTuple (pa_cons (pv 1) pa_nil)) rfl)
      (pss_cons (ps_fld (pv 0) (pe_cal c2 (hr.mono (by decide)) rfl pass0 (pa_cons (pv 1) pa_nil)) rfl)
      (pss_cons (ps_fld (pv 0) (pe_callB call_len_seq (by rfl) T.len bLen (pa_cons (pv 1) pa_nil)) rfl)
      (pss_one (ps_fld (pv 0) (pe_ix ix_tup (pe_fld (pv 0) rfl) (pe_un un_neg pe_int) (fun _ _ => rfl)) rfl)))))), ?_⟩
    have hxa : a ≠ x := ne_of ha hx (by intro z; cases z)
    refine ⟨_, rfl, a, g, rfl, ha, by omega, fun H1 e1 => ⟨true, rfl, iteF ?_⟩⟩
    have ha1 := e1 _ _ ha
    refine ⟨_, rfl, a, _, rfl, .inl (SqL.of ha1), ?_⟩
    refine ⟨rfl, _, rfl, ?_⟩
    rw [show decide (V.int ((g.map V.int).length : Int) = V.int 0) = false from decide_eq_false (fun z => by injection z with z; rw [List.length_map] at z; omega)]
    refine iteF ⟨_, rfl, a, _, rfl, .inl (SqL.of ha1), _, _, rfl, rfl, _, rfl, ?_⟩
    rw [show decide ((48 : Int) < ((g.map V.int).length : Int)) = false from decide_eq_false (by simp; omega)]
    refine iteF ⟨_, rfl, a, _, rfl, .inl ⟨SqL.of ha1, fun t1 n1 => ?_⟩⟩
    have x2 := (e1.up (o := .tup (g.map V.int)) n1)
    have nx1 : x ≠ t1 := ne_of_none (e1 _ _ hx) n1
    refine ⟨_, rfl, x, cW K, dx, [], rfl, x2 _ _ hx, T.iW.cl, T.wGains, (by show 0 < 1000; decide), ?_⟩
    have b2 : ExtB x H (upd (upd H1 t1 (.tup (g.map V.int))) x (.ins (cW K) dx (putF "gains" (.ref t1) []))) := x2.b.trans ExtB.upd
    refine ⟨_, rfl, a, g, rfl, b2 _ _ hxa ha, by omega, fun H3 t2 e3 ht2 => ?_⟩
    have hx3 := e3 _ _ (upd_same (H := upd H1 t1 (.tup (g.map V.int))) (a := x))
    have b3 := b2.thn e3
    refine ⟨_, rfl, x, cW K, dx, _, rfl, hx3, T.iW.cl, T.wHeights, (by show 1 < 1000; decide), ?_⟩
    have b4 := b3.trans (ExtB.upd (x := x) (H := H3) (o := .ins (cW K) dx (putF "heights" (.ref t2) (putF "gains" (.ref t1) []))))
    refine ⟨_, rfl, a, _, rfl, .inl (SqL.of (b4 _ _ hxa ha)), ?_⟩
    refine ⟨_, rfl, x, cW K, dx, _, rfl, upd_same, T.iW.cl, T.wDays, (by rw [putN, putB (by decide +kernel), putN]; show 2 < 1000; decide), ?_⟩
    rw [upd_upd, putN, putB (by decide +kernel), putN, putB (by decide +kernel), putB (by decide +kernel), putN]
    have nx2 : t2 ≠ x := ne_of ht2 hx3 (by intro z; cases z)
    have hT2 : SqT K (upd H3 x (.ins (cW K) dx [("gains", .ref t1), ("heights", .ref t2), ("days", .int ((g.map V.int).length : Int))])) t2 ((heights g).map V.int) := SqT.of (by rw [upd_ne nx2]; exact ht2)
    refine ⟨_, rfl, x, cW K, dx, _, _, rfl, upd_same, T.iW.cl, T.wHeights, (lookB (by decide +kernel)).trans lookA, _, rfl, t2, _, _, V.int g.sum, rfl, rfl, hT2, ?_, ?_⟩
    · have : (heights g) = ((List.range g.length).map fun i => (g.take i).sum) ++ [g.sum] := by
        unfold heights
        rw [List.range_succ, List.map_append]
        simp
      rw [this, List.map_append]
      exact atI_last _ _
    · refine ⟨_, rfl, x, cW K, dx, _, rfl, upd_same, T.iW.cl, T.wTotal, (by show 3 < 1000; decide), ?_⟩
      rw [upd_upd, putB (by decide +kernel), putB (by decide +kernel), putB (by decide +kernel), putN]
      refine q _ (b3.trans ExtB.upd) ⟨dx, t1, t2, ?_, ?_, ?_⟩
      · rw [upd_same]
        simp
      · have := e3 _ _ (show upd (upd H1 t1 (.tup (g.map V.int))) x (.ins (cW K) dx (putF "gains" (.ref t1) [])) t1 = some (.tup (g.map V.int)) by rw [upd_ne nx1.symm, upd_same])
        exact SqT.of (by rw [upd_ne nx1.symm]; exact this)
      · exact SqT.of (by rw [upd_ne nx2]; exact ht2)
theorem scRuleI : FnScope ["self", "length", "low", "high"] ["self", "length", "low", "high"] (defScope sRuleI) := ⟨rfl, rfl, rfl, by decide +kernel, rfl, by decide +kernel, by decide +kernel⟩
theorem ok_ruleI {dvs : List V} {kws : List (Str × V)} (F : FunD K "__init__" "Rule.__init__" (defArgs sRuleI) (defBody sRuleI) (defScope sRuleI) dvs kws f fd) (T : Txt K mg) (c1 : Cal P w K mg base CX0 3 "need_number" ["value", "part", "least", "most"] spNeed)
    (c2 : Cal P w K mg base CX0 2 "need_bound" ["value", "part"] spBound) (c3 : Cal P w K mg base CX0 1 "are_bounds" ["low", "high"] spBounds) : FnOk P w K mg base CX0 4 f fd ["self", "length", "low", "high"] (spRuleI K) := by
  refine ok0 F scRuleI (fun vs H Q E h => ?_) (fun cdv A outer s H vs Q E hr h => ?_)
  · obtain ⟨x, dx, r, rfl, _⟩ := h
    rfl
  · obtain ⟨x, dx, r, rfl, hx, hok, q⟩ := h
    obtain ⟨tk, cL⟩ := T.cLen
    refine ⟨_, pss_cons (ps_expr (pe_cal c1 hr rfl pass0 (pa_cons (pv 1) (pa_cons pe_str (pa_cons pe_int (pa_cons (pe_glob (v := .int 48) rfl cL ⟨_, rfl⟩) pa_nil))))))
      (pss_cons (ps_expr (pe_cal c2 (hr.mono (by decide)) rfl pass0 (pa_cons (pv 2) (pa_cons pe_str pa_nil))))
      (pss_cons (ps_expr (pe_cal c2 (hr.mono (by decide)) rfl pass0 (pa_cons (pv 3) (pa_cons pe_str pa_nil))))
      (pss_cons (ps_if (pt_not (pt_val (pe_cal c3 (hr.mono (by decide)) rfl pass0 (pa_cons (pv 2) (pa_cons (pv 3) pa_nil))))) pss_never pss_nil)
      (pss_cons (ps_fld (pv 0) (pv 1) rfl) (pss_cons (ps_fld (pv 0) (pv 2) rfl) (pss_one (ps_fld (pv 0) (pv 3) rfl))))))), ?_⟩
    refine ⟨_, rfl, r.len, 1, 48, _, rfl, hok.1, hok.2.1, ?_⟩
    refine ⟨_, rfl, r.lo, _, rfl, _, rfl, r.hi, _, rfl, ?_⟩
    refine ⟨_, rfl, _, rfl, r.lo, r.hi, rfl, _, rfl, ?_⟩
    rw [hok.2.2]
    refine iteF ⟨_, rfl, _, rfl, x, cR K, dx, [], rfl, hx, T.iR.cl, T.rLength, (by show 0 < 1000; decide), ?_⟩
    refine ⟨_, rfl, _, rfl, x, cR K, dx, _, rfl, upd_same, T.iR.cl, T.rLow, (by show 1 < 1000; decide), ?_⟩
    refine ⟨_, rfl, _, rfl, x, cR K, dx, _, rfl, upd_same, T.iR.cl, T.rHigh, (by rw [putN, putB (by decide +kernel), putN]; show 2 < 1000; decide), ?_⟩
    rw [upd_upd, upd_upd, putN, putB (by decide +kernel), putN, putB (by decide +kernel), putB (by decide +kernel), putN]
    exact q _ ExtB.upd ⟨dx, upd_same⟩
theorem scNeedRow : FnScope ["value", "part"] ["value", "part"] (defScope sNeedRow) := ⟨rfl, rfl, rfl, by decide +kernel, rfl, by decide +kernel, by decide +kernel⟩
theorem ok_needRow (F : FN K "need_row" sNeedRow f fd) (T : Txt K mg) : FnOk P w K mg base CX0 1 f fd ["value", "part"] (spNeedRow K) := by
  refine ok0 F scNeedRow (fun vs H Q E h => ?_) (fun cdv A outer s H vs Q E hr h => ?_)
  · obtain ⟨p, g, z, rfl, _⟩ := h
    rfl
  · obtain ⟨p, g, z, rfl, ⟨dx, t1, t2, hp, _⟩, q⟩ := h
    refine ⟨_, pss_one (ps_if (pt_not (pt_val (pe_callB call_isi (by rfl) T.isi bIsi (pa_cons (pv 0) (pa_cons (pe_glob (v := .ref (cW K)) rfl T.mW rfl) pa_nil))))) pss_never pss_nil), ?_⟩
    exact ⟨_, rfl, .ref p, .ref (cW K), .ref (cW K), .ref (cW K), true, rfl, .own _, T.ty T.iW hp, T.kWW, true, rfl, iteF q⟩
theorem scRuleF : FnScope ["self", "row", "begin"] ["self", "row"] (defScope sRuleF) := ⟨rfl, rfl, rfl, by decide +kernel, rfl, by decide +kernel, by decide +kernel⟩
theorem ok_ruleF (F : FD K "first_broken" "Rule.first_broken" sRuleF f fd) (T : Txt K mg) (c1 : Cal P w K mg base CX0 1 "need_row" ["value", "part"] (spNeedRow K)) (c2 : Cal P w K mg base CX0 2 "is_within" ["value", "least", "most"] spWithin) :
    FnOk P w K mg base CX0 3 f fd ["self", "row"] (spRuleF K) := by
  refine ok0 F scRuleF (fun vs H Q E h => ?_) (fun cdv A outer s H vs Q E hr h => ?_)
  · obtain ⟨p, q, r, g, rfl, _⟩ := h
    rfl
  · obtain ⟨p, q, r, g, rfl, hp, hok, hq, hz, k1, k2⟩ := h
    refine ⟨_, pss_cons (ps_expr (pe_cal c1 (hr.mono (by decide)) rfl pass0 (pa_cons (pv 1) (pa_cons pe_str pa_nil))))
      (pss_cons (ps_for PassesOwn.never rfl (pi_range1 rfl T.range (pa_cons (pe_op op_add (pe_op op_sub (pe_fld (pv 1) rfl) (pe_fld (pv 0) rfl)) pe_int) pa_nil)) (pg_name (i := 2) scRuleF.nd rfl (Or.inl rfl))
        (pss_one (ps_if (pt_not (pt_val (pe_cal c2 hr rfl pass0 (pa_cons (pe_op op_sub (pe_ix ix_tup (pe_fld (pv 1) rfl) (pe_op op_add (pv 2) (pe_fld (pv 0) rfl)) (fun _ _ => rfl)) (pe_ix ix_tup (pe_fld (pv 1) rfl) (pv 2) (fun _ _ => rfl)))
          (pa_cons (pe_fld (pv 0) rfl) (pa_cons (pe_fld (pv 0) rfl) pa_nil)))))) (pss_one (ps_ret (pv 2))) pss_nil)))
      (pss_one (ps_ret pe_non))), ?_⟩
    obtain ⟨dx, t1, t2, h1, h2, h3⟩ := id hq
    obtain ⟨dy, h4⟩ := id hp
    refine ⟨_, rfl, q, g, _, rfl, hq, ?_⟩
    refine ⟨_, rfl, q, cW K, dx, _, _, rfl, h1, T.iW.cl, T.wDays, row_days, _, rfl, p, cR K, dy, _, _, rfl, h4, T.iR.cl, T.rLength, rl_len r, _, _, rfl, rfl, _, _, rfl, rfl, ?_⟩
    have l1 := hok.1
    have l2 := hok.2.1
    have p62 : (2 : Int) ^ 62 = 4611686018427387904 := by decide
    refine ⟨_, rfl, by omega, by omega, ?_⟩
    refine for_it walk_range (fun i σ H' => ∃ v, σ = [some (.ref p), some (.ref q), v] ∧ H' = H ∧ ∀ b : Nat, b < i → within (strSum g b r.len.toNat) r.lo r.hi = true) ⟨none, rfl, rfl, fun b hb => absurd hb (Nat.not_lt_zero _)⟩ (fun _ _ _ _ _ => trivial) (fun i x σ H1 H2 hi hP y => ?_) (fun σ H1 hP => ?_)
    · obtain ⟨v, rfl, rfl, hw⟩ := hP
      obtain ⟨rfl, rfl⟩ := y
      have hi2 : (i : Int) + r.len ≤ (g.length : Int) := by omega
      have e0 : (0 : Int) + (i : Nat) = ((i : Nat) : Int) := by omega
      show gName 2 (V.int ((0 : Int) + (i : Nat))) _ _ _
      rw [e0]
      have ea : atI ((heights g).map V.int) ((i : Int) + r.len) = some (V.int (g.take (i + r.len.toNat)).sum) := by
        rw [show (i : Int) + r.len = ((i + r.len.toNat : Nat) : Int) by omega]
        exact atI_nat (at_map (heights_at (by omega)))
      have eb : atI ((heights g).map V.int) ((i : Nat) : Int) = some (V.int (g.take i).sum) := atI_nat (at_map (heights_at (by omega)))
      refine ⟨_, rfl, q, cW K, dx, _, _, rfl, h1, T.iW.cl, T.wHeights, row_heights, _, rfl, _, rfl, p, cR K, dy, _, _, rfl, h4, T.iR.cl, T.rLength, rl_len r, _, _, rfl, rfl, t2, _, _, _, rfl, rfl, h3, ea, ?_⟩
      refine ⟨_, rfl, q, cW K, dx, _, _, rfl, h1, T.iW.cl, T.wHeights, row_heights, _, rfl, t2, _, _, _, rfl, rfl, h3, eb, _, _, rfl, rfl, ?_⟩
      refine ⟨_, rfl, p, cR K, dy, _, _, rfl, h4, T.iR.cl, T.rLow, rl_low r, _, rfl, p, cR K, dy, _, _, rfl, h4, T.iR.cl, T.rHigh, rl_high r, _, r.lo, r.hi, rfl, _, rfl, ?_⟩
      rw [← strSum_eq]
      cases ew : within (strSum g i r.len.toNat) r.lo r.hi with
      | true =>
        refine iteF ⟨_, rfl, rfl, fun b hb => ?_⟩
        rcases Nat.lt_succ_iff_lt_or_eq.mp hb with z | z
        · exact hw b z
        · rw [z]
          exact ew
      | false =>
        refine iteT ⟨_, rfl, k2 (fun kk => ?_) _⟩
        have := kk i hi2
        rw [ew] at this
        cases this
    · obtain ⟨v, rfl, rfl, hw⟩ := hP
      exact k1 fun b hb => hw b (by omega)
theorem scRuleE : FnScope ["self", "other"] ["self", "other"] (defScope sRuleE) := ⟨rfl, rfl, rfl, by decide +kernel, rfl, by decide +kernel, by decide +kernel⟩
theorem scal_oV (a b : Option Int) : scal (oV a) (oV b) = true := by
  cases a <;> cases b <;> rfl
theorem ok_ruleE (F : FD K "__eq__" "Rule.__eq__" sRuleE f fd) (T : Txt K mg) : FnOk P w K mg base CX0 1 f fd ["self", "other"] (spEq (rRule K)) := by
  refine ok0 F scRuleE (fun vs H Q E h => ?_) (fun cdv A outer s H vs Q E hr h => ?_)
  · obtain ⟨a, b, rfl, _⟩ := h
    rfl
  · obtain ⟨a, b, rfl, ⟨r, ⟨da, ha⟩, ⟨db, hb⟩⟩, q⟩ := h
    refine ⟨_, pss_cons (ps_if (pt_not (pt_val (pe_callB call_isi (by rfl) T.isi bIsi (pa_cons (pv 1) (pa_cons (pe_glob (v := .ref (cR K)) rfl T.mR rfl) pa_nil))))) pss_never pss_nil)
      (pss_one (ps_ret (pe_callTy call_bool1 (by rfl) T.bool bBool (pa_cons (pe_and (pe_cmpR op_eq (pe_fld (pv 0) rfl) (pe_fld (pv 1) rfl) (nomark _)) (pe_and (pe_cmpR op_eq (pe_fld (pv 0) rfl) (pe_fld (pv 1) rfl) (nomark _))
        (pe_one (pe_cmpR op_eq (pe_fld (pv 0) rfl) (pe_fld (pv 1) rfl) (nomark _))))) pa_nil)))), ?_⟩
    refine ⟨_, rfl, .ref b, .ref (cR K), .ref (cR K), .ref (cR K), true, rfl, .own _, T.ty T.iR hb, T.kRR, true, rfl, iteF ?_⟩
    refine ⟨_, rfl, a, cR K, da, _, _, rfl, ha, T.iR.cl, T.rLength, rl_len r, _, rfl, b, cR K, db, _, _, rfl, hb, T.iR.cl, T.rLength, rl_len r, rfl, true, by simp, iteT ?_⟩
    refine ⟨_, rfl, a, cR K, da, _, _, rfl, ha, T.iR.cl, T.rLow, rl_low r, _, rfl, b, cR K, db, _, _, rfl, hb, T.iR.cl, T.rLow, rl_low r, scal_oV _ _, true, by simp, iteT ?_⟩
    refine ⟨_, rfl, a, cR K, da, _, _, rfl, ha, T.iR.cl, T.rHigh, rl_high r, _, rfl, b, cR K, db, _, _, rfl, hb, T.iR.cl, T.rHigh, rl_high r, scal_oV _ _, .inr ⟨true, by simp, q _ Ext.rfl'⟩⟩
end
end K15

/-! K15P3: papers, the empty pair's paper, the refusal. -/
namespace K15
open PySem PySem.Spec PyProof.Rows L2
def ppF (t : Addr) (i j : Int) : List (Str × V) := [("word", .str "empty"), ("parts", .ref t), ("one", .int i), ("other", .int j)]
def PaperAt (K : PySem.W.Frag) (H : Hp) (p : Addr) (i j : Int) : Prop := ∃ dx t, H p = some (.ins (cE K) dx (ppF t i j)) ∧ H t = some (.tup [.int i, .int j])
theorem PaperAt.ext {K : PySem.W.Frag} {H H' : Hp} {p : Addr} {i j : Int} (h : PaperAt K H p i j) (e : Ext H H') : PaperAt K H' p i j := by
  obtain ⟨dx, t, h1, h2⟩ := h
  exact ⟨dx, t, e _ _ h1, e _ _ h2⟩
theorem pp_word (t : Addr) (i j : Int) : (ppF t i j).lookup ("word" : Str) = some (V.str "empty") := lookA
theorem pp_parts (t : Addr) (i j : Int) : (ppF t i j).lookup ("parts" : Str) = some (V.ref t) := (lookB (by decide +kernel)).trans lookA
theorem pp_one (t : Addr) (i j : Int) : (ppF t i j).lookup ("one" : Str) = some (V.int i) := (lookB (by decide +kernel)).trans ((lookB (by decide +kernel)).trans lookA)
theorem pp_other (t : Addr) (i j : Int) : (ppF t i j).lookup ("other" : Str) = some (V.int j) := (lookB (by decide +kernel)).trans ((lookB (by decide +kernel)).trans ((lookB (by decide +kernel)).trans lookA))
theorem pp_put (t : Addr) (i j : Int) : putF "other" (.int j) (putF "one" (.int i) [("word", .str "empty"), ("parts", .ref t)]) = ppF t i j := by
  have h1 : putF "one" (.int i) [("word", .str "empty"), ("parts", .ref t)] = ([("word", .str "empty"), ("parts", .ref t), ("one", .int i)] : List (Str × V)) := by rw [putB (by decide +kernel), putB (by decide +kernel), putN]
  rw [h1, putB (by decide +kernel), putB (by decide +kernel), putB (by decide +kernel), putN]
  rfl
structure TxtP (K : PySem.W.Frag) : Prop where
  rd : PySem.W.readsIn K (cE K) (.type "type") = true
  fc : PySem.W.findCls K (.ref (cE K)) (.type "type") "__name__" = some (.get (.builtin "getset_descriptor.__get__") (.builtin "type.__name__") (.ref (cE K)) (.type "type"))
  nm : ∃ n, nameOf K (cE K) = some n
  ox : OexC K (cI K)
  np : PySem.W.findIn K (.ref (cI K)) "paper" = some none
  th : PySem.W.nsIn K cStatics "thirdparty.any" = some none
  ms : PySem.W.mroIn K (cE K) (.ref (cE K)) = some true

def spFixI : Sp := fun vs H Q _ => ∃ i : Int, vs = [.int i] ∧ ∀ H', Ext H H' → Q (.int i) H'
def spFixT : Sp := fun vs H Q _ => ∃ (p : Addr) (ns : List Int), vs = [.ref p] ∧ H p = some (.tup (ns.map V.int)) ∧ ns.length ≤ 900 ∧ ∀ H' t, Ext H H' → H' t = some (.tup (ns.map V.int)) → Q (.ref t) H'
def spPaperI (K : PySem.W.Frag) : Sp := fun vs H Q _ => ∃ (x t dx : Addr) (z : Str) (ns : List Int), vs = [.ref x, .str z, .ref t] ∧ H x = some (.ins (cE K) dx []) ∧ H t = some (.tup (ns.map V.int)) ∧ ns.length ≤ 900 ∧
  ∀ H' u, ExtB x H H' → H' x = some (.ins (cE K) dx [("word", .str z), ("parts", .ref u)]) → H' u = some (.tup (ns.map V.int)) → Q .non H'
def spPaperR (K : PySem.W.Frag) : Sp := fun vs H Q E => ∃ ws rest, vs = ws ++ rest ∧ ws.length = (["self", "word"] : List Str).length ∧ rest.length ≤ sizeLine ∧ ∀ p, H p = none → spPaperI K (ws ++ [V.ref p]) (upd H p (.tup rest)) Q E
def spEmptyI (K : PySem.W.Frag) : Sp := fun vs H Q _ => ∃ (x dx : Addr) (i j : Int), vs = [.ref x, .int i, .int j] ∧ H x = some (.ins (cE K) dx []) ∧ ∀ H', ExtB x H H' → PaperAt K H' x i j → Q .non H'
def spFalse : Sp := fun vs H Q _ => ∃ a : Addr, vs = [.ref a] ∧ Q (.bl false) H
def spImpI (K : PySem.W.Frag) : Sp := fun vs H Q _ => ∃ a e : Addr, vs = [.ref a, .ref e] ∧ H a = some (exo a (cI K) none) ∧ ∀ dx, H dx = none → dx ≠ a → Q .non (upd (upd H dx (exd dx [("paper", .ref e)])) a (exo a (cI K) (some dx)))
def rPaper (K : PySem.W.Frag) (a b : Addr) (H : Hp) : Prop := ∃ i j, PaperAt K H a i j ∧ PaperAt K H b i j
section
variable {P : Program} {w : World} {K : PySem.W.Frag} {mg : Str → Option Value} {base : Heap} {f : Addr} {fd : FuncData}
theorem scFixed : FnScope ["value", "part"] ["value"] (defScope sFixed) := ⟨rfl, rfl, rfl, by decide +kernel, rfl, by decide +kernel, by decide +kernel⟩
theorem ok_fixI (F : FN K "fixed" sFixed f fd) (T : Txt K mg) : FnOk P w K mg base CX0 1 f fd ["value"] spFixI := by
  refine ok0 F scFixed (fun vs H Q E h => ?_) (fun cdv A outer s H vs Q E hr h => ?_)
  · obtain ⟨i, rfl, _⟩ := h
    rfl
  · obtain ⟨i, rfl, q⟩ := h
    refine ⟨_, pss_cons (ps_if (pt_not (pt_val (pe_callB call_isiT (by rfl) T.isi bIsi (pa_cons (pv 0) (pa_cons (pe_tup (pa_cons (pe_bltn rfl T.list bList (v := .ty "list") rfl) (pa_cons (pe_bltn rfl T.tuple bTuple (v := .ty "tuple") rfl) pa_nil))) pa_nil)))))
      (pss_one (ps_ret (pv 0))) pss_nil) pss_never, ?_⟩
    refine ⟨_, rfl, by show 2 ≤ sizeLine; decide, fun tp ntp => ?_⟩
    refine ⟨.int i, tp, _, .type "int", [.type "list", .type "tuple"], false, rfl, upd_same, .cons (.ty _) (.cons (.ty _) .nil), .base (.int i), kitAny_cons (b := false) (kit_ty (by decide +kernel)) (fun _ => kitAny_cons (b := false) (kit_ty (by decide +kernel)) (fun _ => kitAny_nil) fun z => nomatch z) (fun z => nomatch z), false, rfl, ?_⟩
    exact iteT ⟨_, rfl, q _ (Ext.new ntp)⟩
theorem ok_fixT (F : FN K "fixed" sFixed f fd) (T : Txt K mg) (c : Cal P w K mg base CX0 1 "fixed" ["value"] spFixI) : FnOk P w K mg base CX0 2 f fd ["value"] spFixT := by
  refine ok0 F scFixed (fun vs H Q E h => ?_) (fun cdv A outer s H vs Q E hr h => ?_)
  · obtain ⟨p, ns, rfl, _⟩ := h
    rfl
  · obtain ⟨p, ns, rfl, hp, hz, q⟩ := h
    refine ⟨_, pss_cons (ps_if (pt_not (pt_val (pe_callB call_isiT (by rfl) T.isi bIsi (pa_cons (pv 0) (pa_cons (pe_tup (pa_cons (pe_bltn rfl T.list bList (v := .ty "list") rfl) (pa_cons (pe_bltn rfl T.tuple bTuple (v := .ty "tuple") rfl) pa_nil))) pa_nil)))))
      pss_never pss_nil) (pss_one (ps_ret (pe_callTy call_tuple_of (by rfl) T.tuple bTuple (pa_cons (pe_lc (own := [("part", 1)]) (g := gName 1) (tt := tYes) rfl scFixed.nd (pi_tup (pv 0)) (blkOk_by (N := ["value", "part"]) (sc := defScope sFixed) (by decide +kernel))
        (fun _ _ _ _ _ => pg_name (i := 1) scFixed.nd rfl (Or.inl rfl)) (fun _ _ _ _ _ => pts_nil) (fun _ _ _ _ _ => pe_cal c hr rfl pass0 (pa_cons (pv 1) pa_nil))) pa_nil)))), ?_⟩
    refine ⟨_, rfl, by show 2 ≤ sizeLine; decide, fun tp ntp => ?_⟩
    have e1 : Ext H (upd H tp (.tup [.ty "list", .ty "tuple"])) := Ext.new ntp
    refine ⟨.ref p, tp, _, .type "tuple", [.type "list", .type "tuple"], true, rfl, upd_same, .cons (.ty _) (.cons (.ty _) .nil), .base (.tup (e1 _ _ hp)), kitAny_cons (b := false) (kit_ty (by decide +kernel)) (fun _ => kitAny_cons (b := true) (kit_ty (by decide +kernel)) (fun z => nomatch z) fun _ => rfl) (fun z => nomatch z), true, rfl, iteF ?_⟩
    refine ⟨_, rfl, p, rfl, ⟨_, SqT.of (e1 _ _ hp)⟩, fun D nD => ?_⟩
    refine lc_tup (xs := ns.map V.int) (fun i H' => Ext H H' ∧ H' D = some (.lst ((ns.take i).map V.int))) ⟨e1.up nD, by rw [upd_same]; rfl⟩ (fun i H' _ e => SqT.of (e.1 _ _ hp)) (fun i x H' hi e => ?_) (fun H' e => ?_)
    · obtain ⟨n, hn, rfl⟩ := map_at hi
      have hl : i < ns.length := (List.getElem?_eq_some_iff.mp hn).1
      refine ⟨rfl, _, rfl, n, rfl, fun H2 e2 => ⟨_, e2 _ _ e.2, small48 (by simp; omega), ?_, ?_⟩⟩
      · have hD : H D = none := e1.free nD
        exact (e.1.trans e2).wr hD
      · rw [upd_same, List.take_add_one, hn, List.map_append]
        rfl
    · refine ⟨D, _, rfl, .inl ⟨SqL.of e.2, fun t nt => ?_⟩⟩
      refine q _ t (e.1.up nt) ?_
      rw [upd_same, List.length_map, List.take_length]
theorem scPaperI : FnScope ["self", "word", "parts"] ((["self", "word"] : List Str) ++ (["parts"] : List Str)) (defScope sPaperI) := ⟨rfl, rfl, rfl, by decide +kernel, rfl, by decide +kernel, by decide +kernel⟩
theorem ok_paperI (F : FD K "__init__" "Paper.__init__" sPaperI f fd) (T : Txt K mg) (c : Cal P w K mg base CX0 2 "fixed" ["value"] spFixT) : FnR P w K mg base CX0 3 f (spPaperR K) := by
  obtain ⟨oc, od, dV, kV, doc, pm, an, cdv, ct, osl, rfl, lk, hcd, hD, hK⟩ := F.ex
  rcases hD with ⟨_, rfl⟩ | ⟨e, _⟩
  · refine StX.fn_star (ps := ["self", "word"]) (pv := "parts") (sp := spPaperI K) (N := ["self", "word", "parts"]) lk hcd scPaperI StX.cxUp_none (StX.bind_star2 (B := fun us => bindArgs (PySem.W.fnOf "__init__" "Paper.__init__" (defArgs sPaperI) (defBody sPaperI) (defScope sPaperI) .none kV doc pm an cdv ct) ⟨us, []⟩) (fun a b => rfl) (fun a b r rs => rfl)) fun A outer s H vs Q E hr h => ?_
    obtain ⟨x, t, dx, z, ns, rfl, hx, ht, hz, q⟩ := h
    refine ⟨_, PSs.nox (pss_cons (ps_fld (pv 0) (pv 1) rfl) (pss_one (ps_fld (pv 0) (pe_cal c hr rfl pass0 (pa_cons (pv 2) pa_nil)) rfl))), ?_⟩
    refine ⟨_, rfl, _, rfl, x, cE K, dx, [], rfl, hx, T.iE.cl, T.eWord, (by show 0 < 1000; decide), ?_⟩
    have nt : t ≠ x := ne_of ht hx (by intro z; cases z)
    refine ⟨_, rfl, t, ns, rfl, by rw [upd_ne nt]; exact ht, hz, fun H1 u e1 hu => ?_⟩
    refine ⟨_, rfl, x, cE K, dx, _, rfl, e1 _ _ upd_same, T.iE.cl, T.eParts, (by show 1 < 1000; decide), ?_⟩
    have nu : u ≠ x := ne_of hu (e1 _ _ upd_same) (by intro z; cases z)
    refine q _ u ((ExtB.upd.thn e1).trans ExtB.upd) ?_ (by rw [upd_ne nu]; exact hu)
    rw [upd_same, putN, putB (by decide +kernel), putN]
  · exact absurd rfl e
theorem scDenialB : FnScope ["self"] ["self"] (defScope sDenialB) := ⟨rfl, rfl, rfl, by decide +kernel, rfl, by decide +kernel, by decide +kernel⟩
theorem ok_denialB (F : FD K "__bool__" "Denial.__bool__" sDenialB f fd) : FnOk P w K mg base CX0 1 f fd ["self"] spFalse := by
  refine ok0 F scDenialB (fun vs H Q E h => ?_) (fun cdv A outer s H vs Q E hr h => ?_)
  · obtain ⟨a, rfl, _⟩ := h
    rfl
  · obtain ⟨a, rfl, q⟩ := h
    exact ⟨_, pss_one (ps_ret pe_bl), q⟩
theorem dp_ints {H : Hp} : ∀ ns : List Int, DpAll K H (ns.map V.int) (ns.map PyData.int)
  | [] => .nil
  | n :: r => .cons (.int n) (dp_ints r)
theorem scPaperE : FnScope ["self", "other"] ["self", "other"] (defScope sPaperE) := ⟨rfl, rfl, rfl, by decide +kernel, rfl, by decide +kernel, by decide +kernel⟩
theorem ok_paperE (F : FD K "__eq__" "Paper.__eq__" sPaperE f fd) (T : Txt K mg) (TP : TxtP K) : FnOk P w K mg base CX0 1 f fd ["self", "other"] (spEq (rPaper K)) := by
  refine ok0 F scPaperE (fun vs H Q E h => ?_) (fun cdv A outer s H vs Q E hr h => ?_)
  · obtain ⟨a, b, rfl, _⟩ := h
    rfl
  · obtain ⟨a, b, rfl, ⟨i, j, ⟨da, ta, ha, hta⟩, ⟨db, tb, hb, htb⟩⟩, q⟩ := h
    obtain ⟨n, hn⟩ := TP.nm
    refine ⟨_, pss_cons (ps_if (PW.pt (pw_or (pt_not (pt_val (pe_callB call_isi (by rfl) T.isi bIsi (pa_cons (pv 1) (pa_cons (pe_glob (v := .ref (cP K)) rfl T.mP rfl) pa_nil))))) (pw_or1 (pt_cmpR op_ne (pe_cn (pv 1)) (pe_cn (pv 0)) (nomark _))))) pss_never pss_nil)
      (pss_one (ps_ret (pe_callTy call_bool1 (by rfl) T.bool bBool (pa_cons (pe_and (pe_cmpR op_eq (pe_fld (pv 0) rfl) (pe_fld (pv 1) rfl) (nomark _)) (pe_one (pe_cmpR (op_eqD hr.units) (pe_fld (pv 0) rfl) (pe_fld (pv 1) rfl) (nomark _)))) pa_nil)))), ?_⟩
    refine ⟨_, rfl, .ref b, .ref (cP K), .ref (cE K), .ref (cP K), true, rfl, .own _, T.ty T.iE hb, T.kEP, true, rfl, iteF ?_⟩
    refine ⟨_, rfl, b, cE K, db, _, n, rfl, hb, T.iE.cl, T.iE.ha, T.hn, T.htk, T.iE.hm, TP.rd, TP.fc, hn, _, rfl, a, cE K, da, _, n, rfl, ha, T.iE.cl, T.iE.ha, T.hn, T.htk, T.iE.hm, TP.rd, TP.fc, hn, rfl, _, rfl, ?_⟩
    rw [show (!decide (V.str n = V.str n)) = false by simp]
    refine iteF ?_
    refine ⟨_, rfl, a, cE K, da, _, _, rfl, ha, T.iE.cl, T.eWord, pp_word _ _ _, _, rfl, b, cE K, db, _, _, rfl, hb, T.iE.cl, T.eWord, pp_word _ _ _, rfl, true, by simp, iteT ?_⟩
    refine ⟨_, rfl, a, cE K, da, _, _, rfl, ha, T.iE.cl, T.eParts, pp_parts _ _ _, _, rfl, b, cE K, db, _, _, rfl, hb, T.iE.cl, T.eParts, pp_parts _ _ _, ?_⟩
    refine ⟨.tuple ([i, j].map PyData.int), .tuple ([i, j].map PyData.int), .tup (SqT.of hta) (dp_ints [i, j]), .tup (SqT.of htb) (dp_ints [i, j]), rfl, rfl, .inr ⟨true, ?_, q _ Ext.rfl'⟩⟩
    rw [PySem.SeqAt.eqv_refl _ rfl]
theorem scImpI : FnScope ["self", "paper"] ["self", "paper"] (defScope sImpI) := ⟨rfl, rfl, rfl, by decide +kernel, rfl, by decide +kernel, by decide +kernel⟩
theorem ok_impI (F : FD K "__init__" "Impossible.__init__" sImpI f fd) (TP : TxtP K) : FnOk P w K mg base CX0 1 f fd ["self", "paper"] (spImpI K) := by
  refine ok0 F scImpI (fun vs H Q E h => ?_) (fun cdv A outer s H vs Q E hr h => ?_)
  · obtain ⟨a, e, rfl, _⟩ := h
    rfl
  · obtain ⟨a, e, rfl, ha, q⟩ := h
    refine ⟨_, pss_one (ps_ost (pv 0) (pv 1)), ?_⟩
    exact ⟨_, rfl, _, rfl, a, cI K, rfl, TP.ox, TP.np, .inl ⟨ha, fun dx n ne => q dx n ne⟩⟩
theorem scEmptyI : SupScope ["self", "one", "other"] ["self", "one", "other"] (defScope sEmptyI) := ⟨rfl, rfl, rfl, by decide +kernel, rfl, by decide +kernel, by decide +kernel, by decide +kernel, by decide +kernel, by decide +kernel⟩
theorem ok_emptyI {f2 : Addr} (F : SupFn P K "__init__" "Empty.__init__" sEmptyI (cE K) f fd) (T : Txt K mg) (TP : TxtP K) (hP : (P.main.scope.names.lookup ("super" : Str)).isSome = false) (F2 : FnR P w K mg base CX0 3 f2 (spPaperR K)) (t2 : PySem.W.typeIn K (.ref f2) = some (.type "function")) (i2 : PySem.W.fnIn K f2 = true)
    (hs : PySem.W.ks_superIn K (cE K) (cE K) "__init__" = some (some (.ref f2))) : FnOk P w K mg base CX0 4 f fd ["self", "one", "other"] (spEmptyI K) := by
  refine sup_ok (sp2 := spPaperR K) (ta := tCons (tC (.str "empty")) (tCons (tVar 1) (tCons (tVar 2) tNil))) (tr := tAsg (tFld K (tVar 0) "parts") (gTup K 2 (gCons (gFld K (tVar 0) "one") (gCons (gFld K (tVar 0) "other") gNil)))) F scEmptyI (fun vs H Q E h => ?_) rfl rfl rfl T.super hP TP.th F2 t2 i2 (fun env => rfl) (fun env => rfl) (fun env => rfl) (fun X => rfl)
    (fun cda cc A outer s H => ?_) (fun vs H Q E h => ?_)
  · obtain ⟨x, dx, i, j, rfl, _⟩ := h
    rfl
  · exact ⟨pa_cons pe_str (pa_cons (pv 1) (pa_cons (pv 2) pa_nil)), pss_one (ps_asg (pe_fld (pv 0) rfl) (pg_tup rfl (pgs_cons (pg_fld (pv 0)) (pgs_cons (pg_fld (pv 0)) pgs_nil))))⟩
  · obtain ⟨x, dx, i, j, rfl, hx, q⟩ := h
    refine ⟨x, cE K, dx, [], _, rfl, hx, TP.ms, hs, fun qm nq => ?_⟩
    refine ⟨_, rfl, _, rfl, rfl, [.ref x, .str "empty"], [.int i, .int j], rfl, rfl, by show 2 ≤ sizeLine; decide, fun p np => ?_⟩
    have nxq : x ≠ qm := ne_of_none hx nq
    have hx1 : upd H qm (.met f2 x) x = some (.ins (cE K) dx []) := by rw [upd_ne nxq]; exact hx
    have nxp : x ≠ p := ne_of_none hx1 np
    refine ⟨x, p, dx, "empty", [i, j], rfl, by rw [upd_ne nxp]; exact hx1, upd_same, by show 2 ≤ 900; decide, fun H1 u e1 h1 hu => ?_⟩
    have b0 : ExtB x H (upd (upd H qm (.met f2 x)) p (.tup [.int i, .int j])) := ((Ext.new nq).up np).b
    have b1 := b0.trans e1
    refine ⟨_, rfl, x, cE K, dx, _, _, rfl, h1, T.iE.cl, T.eParts, (lookB (by decide +kernel)).trans lookA, u, _, rfl, SqT.of hu, rfl, ?_⟩
    have nu : u ≠ x := ne_of hu h1 (by intro z; cases z)
    refine ⟨_, _, rfl, _, rfl, x, cE K, dx, _, rfl, h1, T.iE.cl, T.eOne, (by show 2 < 1000; decide), ?_⟩
    refine ⟨_, _, rfl, _, rfl, x, cE K, dx, _, rfl, upd_same, T.iE.cl, T.eOther, (by rw [putB (by decide +kernel), putB (by decide +kernel), putN]; show 3 < 1000; decide), rfl, ?_⟩
    rw [upd_upd, pp_put]
    exact q _ (b1.trans ExtB.upd) ⟨dx, u, upd_same, by rw [upd_ne nu]; exact hu⟩
end
end K15

/-! K15P4: books. -/
namespace K15
open PySem PySem.Spec PyProof.Rows L2
/-! ### a comprehension that drops or gives, over a heap that grows -/
theorem range_fm {α β : Type} (g : α → Option β) : ∀ l : List α, (List.range l.length).filterMap (fun i => (l[i]?).bind g) = l.filterMap g
  | [] => rfl
  | a :: r => by
    rw [List.length_cons, List.range_succ_eq_map, List.filterMap_cons, List.filterMap_map]
    have e : (List.range r.length).filterMap ((fun i => ((a :: r)[i]?).bind g) ∘ Nat.succ) = r.filterMap g := by
      rw [← range_fm g r]
      rfl
    rw [e, List.filterMap_cons]
    rfl
theorem lc_fm {J : It} {n : Nat} {G : Hp → Prop} {Y : Nat → Hp → V → Hp → Prop} (wk : Walk J n G Y) {g : TG} {tt : TT} {te : TE} {vs : List Nat} {σ : L2.St} {H1 : Hp} {D : Addr} {Qd : Hp → Prop} (nD : H1 D = none) (hz : n ≤ 1000) (f : Nat → Option V) (hG : ∀ H, Ext H1 H → G H)
    (hs : ∀ i x H H' (K1 : V → Hp → Prop) (K2 : Hp → Prop), i < n → Ext H1 H → Y i H x H' → (∀ y H4, f i = some y → Ext H H4 → K1 y H4) → (∀ H3, f i = none → Ext H H3 → K2 H3) →
      g x (wipe σ vs) H' fun σ2 H2 => wipe σ2 vs = wipe σ vs ∧ tt σ2 H2 fun b H3 => if b = true then te σ2 H3 K1 else K2 H3)
    (hd : ∀ H, Ext H1 H → H D = some (.lst ((List.range n).filterMap f)) → Qd H) :
    ∃ W : Nat → Nat → Hp → Prop, (∃ m, W 0 m (upd H1 D (.lst []))) ∧ ∀ i m H, W i m H →
      (J.stop i H ∧ Qd H) ∨ (J.go i H ∧ ∃ Nx : Hp → Prop, (∀ H', Nx H' → ∃ m', m' < m ∧ W (i + 1) m' H') ∧ ∀ x H', J.yld i H x H' → g x (wipe σ vs) H' fun σ2 H2 => wipe σ2 vs = wipe σ vs ∧ tt σ2 H2 fun b H3 =>
        if b = true then te σ2 H3 fun y H4 => ∃ acc, H4 D = some (.lst acc) ∧ acc.length < sizeLine ∧ Nx (upd H4 D (.lst (acc ++ [y]))) else Nx H3) := by
  refine lc_it wk (fun i H => Ext H1 H ∧ H D = some (.lst ((List.range i).filterMap f))) ⟨Ext.new nD, upd_same⟩ (fun i H _ p => hG H p.1) (fun i x H H' hi p y => ?_) (fun H p => hd H p.1 p.2)
  refine hs i x H H' _ _ hi p.1 y (fun y H4 e1 e2 => ⟨_, e2 _ _ p.2, small48 ?_, (p.1.trans e2).wr nD, ?_⟩) (fun H3 e1 e2 => ⟨p.1.trans e2, ?_⟩)
  · have := List.length_filterMap_le f (List.range i)
    rw [List.length_range] at this
    omega
  · rw [upd_same, List.range_succ, List.filterMap_append]
    simp [e1]
  · rw [e2 _ _ p.2, List.range_succ, List.filterMap_append]
    simp [e1]
theorem gPair {K : PySem.W.Frag} {i j : Nat} {T : Addr} {x y : V} {σ : L2.St} {H : Hp} {Q : L2.St → Hp → Prop} (h : SqT K H T [x, y]) (q : Q ((σ.set i (some x)).set j (some y)) H) : gTup K 2 (gCons (gName i) (gCons (gName j) gNil)) (.ref T) σ H Q :=
  ⟨T, [x, y], rfl, h, rfl, x, [y], rfl, y, [], rfl, rfl, q⟩
/-! ### what stands -/
abbrev PR : Type := Addr × Rl
def refs (prs : List PR) : List V := prs.map fun p => V.ref p.1
def RulesAt (K : PySem.W.Frag) (H : Hp) (prs : List PR) : Prop := ∀ p ∈ prs, RuleAt K H p.1 p.2
theorem RulesAt.ext {K : PySem.W.Frag} {H H' : Hp} {prs : List PR} (h : RulesAt K H prs) (e : Ext H H') : RulesAt K H' prs := fun p hp => (h p hp).ext e
def bkF (d : Nat) (t : Addr) : List (Str × V) := [("days", .int (d : Int)), ("rules", .ref t)]
def BookAt (K : PySem.W.Frag) (H : Hp) (b : Addr) (d : Nat) (rs : List Rl) : Prop := ∃ dx t prs, H b = some (.ins (cB K) dx (bkF d t)) ∧ H t = some (.tup (refs prs)) ∧ RulesAt K H prs ∧ prs.map (·.2) = rs
theorem BookAt.ext {K : PySem.W.Frag} {H H' : Hp} {b : Addr} {d : Nat} {rs : List Rl} (h : BookAt K H b d rs) (e : Ext H H') : BookAt K H' b d rs := by
  obtain ⟨dx, t, prs, h1, h2, h3, h4⟩ := h
  exact ⟨dx, t, prs, e _ _ h1, e _ _ h2, h3.ext e, h4⟩
theorem bk_days (d : Nat) (t : Addr) : (bkF d t).lookup ("days" : Str) = some (V.int (d : Int)) := lookA
theorem bk_rules (d : Nat) (t : Addr) : (bkF d t).lookup ("rules" : Str) = some (V.ref t) := (lookB (by decide +kernel)).trans lookA
theorem refs_at {prs : List PR} {i : Nat} {x : V} (h : (refs prs)[i]? = some x) : ∃ p, prs[i]? = some p ∧ x = .ref p.1 := map_at h
theorem refs_len (prs : List PR) : (refs prs).length = prs.length := List.length_map ..
/-! ### promises -/
def spAreRules (K : PySem.W.Frag) : Sp := fun vs H Q _ => ∃ (a : Addr) (prs : List PR), vs = [.ref a] ∧ H a = some (.lst (refs prs)) ∧ prs.length ≤ 1000 ∧ RulesAt K H prs ∧ ∀ H', Ext H H' → Q (.bl true) H'
def spAreEmpty (K : PySem.W.Frag) : Sp := fun vs H Q _ => ∃ (p q : Addr) (r s : Rl), vs = [.ref p, .ref q] ∧ RuleAt K H p r ∧ RuleAt K H q s ∧ Q (.bl (decide (r.len = s.len) && gap r.lo s.hi)) H
def spPair (K : PySem.W.Frag) : Sp := fun vs H Q _ => ∃ (b : Addr) (d : Nat) (rs : List Rl), vs = [.ref b] ∧ BookAt K H b d rs ∧ (NoHit (d : Int) rs → ∀ H', Ext H H' → Q .non H') ∧
  ∀ i j : Nat, First (d : Int) rs i j → ∀ H' t, Ext H H' → H' t = some (.tup [.int (i : Int), .int (j : Int)]) → Q (.ref t) H'
def spDrawn (K : PySem.W.Frag) : Sp := fun vs H Q _ => ∃ (t : Addr) (l : Int) (prs : List PR), vs = [.ref t, .int l] ∧ H t = some (.tup (refs prs)) ∧ RulesAt K H prs ∧ prs.length ≤ 1000 ∧ (join (prs.map (·.2)) l).Ok ∧
  ∀ H' p, Ext H H' → RuleAt K H' p (join (prs.map (·.2)) l) → Q (.ref p) H'
def spBookI (K : PySem.W.Frag) : Sp := fun vs H Q _ => ∃ (x a dx : Addr) (d : Nat) (prs : List PR), vs = [.ref x, .int (d : Int), .ref a] ∧ H x = some (.ins (cB K) dx []) ∧ 1 ≤ d ∧ d ≤ 48 ∧ H a = some (.lst (refs prs)) ∧ RulesAt K H prs ∧ prs.length ≤ 8 ∧
  ∀ H', ExtB x H H' → BookAt K H' x d (prs.map (·.2)) → Q .non H'
def spBookF (K : PySem.W.Frag) : Sp := fun vs H Q _ => ∃ (b q : Addr) (rs : List Rl) (g : List Int), vs = [.ref b, .ref q] ∧ BookAt K H b g.length rs ∧ (∀ r ∈ rs, r.Ok) ∧ RowAt K H q g ∧ g.length ≤ 1000 ∧ (KeepsAll rs g → ∀ H', Ext H H' → Q .non H') ∧ (¬ KeepsAll rs g → ∀ H' t, Ext H H' → Q (.ref t) H')
def spBookK (K : PySem.W.Frag) : Sp := fun vs H Q _ => ∃ (b q : Addr) (rs : List Rl) (g : List Int), vs = [.ref b, .ref q] ∧ BookAt K H b g.length rs ∧ (∀ r ∈ rs, r.Ok) ∧ RowAt K H q g ∧ g.length ≤ 1000 ∧ (KeepsAll rs g → ∀ H', Ext H H' → Q (.bl true) H') ∧ (¬ KeepsAll rs g → ∀ H', Ext H H' → Q (.bl false) H')
def rBook (K : PySem.W.Frag) (a b : Addr) (H : Hp) : Prop := ∃ d rs, BookAt K H a d rs ∧ BookAt K H b d rs
section
variable {P : Program} {w : World} {K : PySem.W.Frag} {mg : Str → Option Value} {base : Heap} {f : Addr} {fd : FuncData}
theorem scAreRules : FnScope ["value", "rule"] ["value"] (defScope sAreRules) := ⟨rfl, rfl, rfl, by decide +kernel, rfl, by decide +kernel, by decide +kernel⟩
theorem ok_areRules (F : FN K "are_rules" sAreRules f fd) (T : Txt K mg) : FnOk P w K mg base CX0 1 f fd ["value"] (spAreRules K) := by
  refine ok0 F scAreRules (fun vs H Q E h => ?_) (fun cdv A outer s H vs Q E hr h => ?_)
  · obtain ⟨a, prs, rfl, _⟩ := h
    rfl
  · obtain ⟨a, prs, rfl, ha, hz, hR, q⟩ := h
    refine ⟨_, pss_one (ps_ret (pe_and (pe_callB call_isiT (by rfl) T.isi bIsi (pa_cons (pv 0) (pa_cons (pe_tup (pa_cons (pe_bltn rfl T.list bList (v := .ty "list") rfl) (pa_cons (pe_bltn rfl T.tuple bTuple (v := .ty "tuple") rfl) pa_nil))) pa_nil)))
      (pe_one (pe_callB (cr_all rfl) (by rfl) T.all bAll (pa_cons (pe_lc (own := [("rule", 1)]) (g := gName 1) (tt := tYes) rfl scAreRules.nd (pi_list (pv 0)) (blkOk_by (N := ["value", "rule"]) (sc := defScope sAreRules) (by decide +kernel))
        (fun _ _ _ _ _ => pg_name (i := 1) scAreRules.nd rfl (Or.inl rfl)) (fun _ _ _ _ _ => pts_nil) (fun _ _ _ _ _ => pe_callB (r := rIsi K) call_isi (by rfl) T.isi bIsi (pa_cons (pv 1) (pa_cons (pe_glob (v := .ref (cR K)) rfl T.mR rfl) pa_nil)))) pa_nil))))), ?_⟩
    refine ⟨_, rfl, by show 2 ≤ sizeLine; decide, fun tp ntp => ?_⟩
    have e1 : Ext H (upd H tp (.tup [.ty "list", .ty "tuple"])) := Ext.new ntp
    refine ⟨.ref a, tp, _, .type "list", [.type "list", .type "tuple"], true, rfl, upd_same, .cons (.ty _) (.cons (.ty _) .nil), .base (.lst (e1 _ _ ha)), kitAny_cons (b := true) (kit_ty (by decide +kernel)) (fun z => nomatch z) (fun _ => rfl), true, rfl, ?_⟩
    refine ⟨_, rfl, a, rfl, ⟨_, SqL.of (e1 _ _ ha)⟩, fun D nD => ?_⟩
    refine lc_fm (walk_list (xs := refs prs)) nD (by rw [refs_len]; exact hz) (fun _ => some (V.bl true)) (fun H' e => SqL.of (e _ _ (e1 _ _ ha))) (fun i x H1 H2 K1 K2 hi e y k1 k2 => ?_) (fun H' e hD => ?_)
    · obtain ⟨rfl, hx⟩ := y
      obtain ⟨p, hp, rfl⟩ := refs_at hx
      obtain ⟨dx, hr'⟩ := hR p (List.mem_of_getElem? hp)
      exact ⟨rfl, _, rfl, .ref p.1, .ref (cR K), .ref (cR K), .ref (cR K), true, rfl, .own _, T.ty T.iR (e _ _ (e1 _ _ hr')), T.kRR, k1 _ _ rfl Ext.rfl'⟩
    · refine ⟨D, List.replicate (refs prs).length true, rfl, SqL.of ?_, ?_⟩
      · rw [hD]
        congr 2
        rw [List.map_replicate]
        generalize (refs prs).length = n
        induction n with
        | zero => rfl
        | succ n ih =>
          rw [List.range_succ, List.filterMap_append, ih, List.replicate_succ']
          rfl
      · rw [show (List.replicate (refs prs).length true).all id = true by simp]
        exact q _ (e1.trans e)
theorem scAreEmpty : FnScope ["one", "other"] ["one", "other"] (defScope sAreEmpty) := ⟨rfl, rfl, rfl, by decide +kernel, rfl, by decide +kernel, by decide +kernel⟩
theorem ok_areEmpty (F : FN K "are_empty" sAreEmpty f fd) (T : Txt K mg) : FnOk P w K mg base CX0 1 f fd ["one", "other"] (spAreEmpty K) := by
  refine ok0 F scAreEmpty (fun vs H Q E h => ?_) (fun cdv A outer s H vs Q E hr h => ?_)
  · obtain ⟨p, q, r, s, rfl, _⟩ := h
    rfl
  · obtain ⟨p, q, r, s', rfl, ⟨da, ha⟩, ⟨db, hb⟩, k⟩ := h
    refine ⟨_, pss_cons (ps_if (PW.pt (pw_or (pt_cmpR op_ne (pe_fld (pv 0) rfl) (pe_fld (pv 1) rfl) (nomark _)) (pw_or (pt_cmp (pc_isN (pe_fld (pv 0) rfl))) (pw_or1 (pt_cmp (pc_isN (pe_fld (pv 1) rfl))))))) (pss_one (ps_ret pe_bl)) pss_nil)
      (pss_one (ps_ret (pe_cmpR op_gt (pe_fld (pv 0) rfl) (pe_fld (pv 1) rfl) (nomark _)))), ?_⟩
    refine ⟨_, rfl, p, cR K, da, _, _, rfl, ha, T.iR.cl, T.rLength, rl_len r, _, rfl, q, cR K, db, _, _, rfl, hb, T.iR.cl, T.rLength, rl_len s', rfl, _, rfl, ?_⟩
    by_cases el : r.len = s'.len
    · rw [show (!decide (V.int r.len = V.int s'.len)) = false by simp [el]]
      refine iteF ⟨_, rfl, p, cR K, da, _, _, rfl, ha, T.iR.cl, T.rLow, rl_low r, _, rfl, ?_⟩
      rw [el, decide_eq_true rfl, Bool.true_and] at k
      cases e1 : r.lo with
      | none =>
        rw [e1] at k
        exact iteT (iteT k)
      | some x =>
        refine iteF ⟨_, rfl, q, cR K, db, _, _, rfl, hb, T.iR.cl, T.rHigh, rl_high s', _, rfl, ?_⟩
        cases e2 : s'.hi with
        | none =>
          rw [e1, e2] at k
          exact iteT k
        | some y =>
          rw [e1, e2] at k
          have l1 : (rlF r).lookup ("low" : Str) = some (V.int x) := (rl_low r).trans (congrArg (fun o => some (oV o)) e1)
          have l2 : (rlF s').lookup ("high" : Str) = some (V.int y) := (rl_high s').trans (congrArg (fun o => some (oV o)) e2)
          exact iteF ⟨_, rfl, p, cR K, da, _, _, rfl, ha, T.iR.cl, T.rLow, l1, _, rfl, q, cR K, db, _, _, rfl, hb, T.iR.cl, T.rHigh, l2, x, y, rfl, rfl, k⟩
    · rw [show (!decide (V.int r.len = V.int s'.len)) = true by simp [el]]
      rw [decide_eq_false el, Bool.false_and] at k
      exact iteT (iteT k)
theorem scEmptyPair : FnScope ["book", "one", "rule", "other", "its"] ["book"] (defScope sEmptyPair) := ⟨rfl, rfl, rfl, by decide +kernel, rfl, by decide +kernel, by decide +kernel⟩
theorem ok_emptyPair (F : FN K "empty_pair" sEmptyPair f fd) (T : Txt K mg) (c : Cal P w K mg base CX0 1 "are_empty" ["one", "other"] (spAreEmpty K)) : FnOk P w K mg base CX0 2 f fd ["book"] (spPair K) := by
  refine ok0 F scEmptyPair (fun vs H Q E h => ?_) (fun cdv A outer s H vs Q E hr h => ?_)
  · obtain ⟨b, d, rs, rfl, _⟩ := h
    rfl
  · obtain ⟨b, d, rs, rfl, ⟨dx, t, prs, hb, ht, hR, ers⟩, k1, k2⟩ := h
    refine ⟨_, pss_cons (ps_for PassesOwn.never rfl (pi_enumT rfl T.enumerate (pa_cons (pe_fld (pv 0) rfl) pa_nil)) (pg_tup rfl (pgs_cons (pg_name (i := 1) scEmptyPair.nd rfl (Or.inl rfl)) (pgs_cons (pg_name (i := 2) scEmptyPair.nd rfl (Or.inl rfl)) pgs_nil)))
      (pss_one (ps_for PassesOwn.never rfl (pi_enumT rfl T.enumerate (pa_cons (pe_fld (pv 0) rfl) pa_nil)) (pg_tup rfl (pgs_cons (pg_name (i := 3) scEmptyPair.nd rfl (Or.inl rfl)) (pgs_cons (pg_name (i := 4) scEmptyPair.nd rfl (Or.inl rfl)) pgs_nil)))
        (pss_one (ps_if (PW.pt (pw_and (pt_cmpR op_le (pe_fld (pv 2) rfl) (pe_fld (pv 0) rfl) (nomark _)) (pw_and1 (pt_val (pe_cal c hr rfl pass0 (pa_cons (pv 2) (pa_cons (pv 4) pa_nil))))))) (pss_one (ps_ret (pe_tup (pa_cons (pv 1) (pa_cons (pv 3) pa_nil))))) pss_nil)))))
      (pss_one (ps_ret pe_non)), ?_⟩
    have rsAt : ∀ {i : Nat} {p : PR}, prs[i]? = some p → rs[i]? = some p.2 := fun {i p} e => by rw [← ers, List.getElem?_map, e]; rfl
    have ofRs : ∀ {i : Nat} {r : Rl}, rs[i]? = some r → i < prs.length := fun {i r} e => by
      have := (List.getElem?_eq_some_iff.mp e).1
      rw [← ers, List.length_map] at this
      exact this
    refine ⟨_, rfl, b, cB K, dx, _, _, rfl, hb, T.iB.cl, T.bRules, bk_rules d t, t, _, rfl, SqT.of ht, ?_⟩
    refine for_it (walkEnumT (xs := refs prs)) (fun i σ H' => ∃ v1 v2 v3 v4 : Option V, σ = [some (.ref b), v1, v2, v3, v4] ∧ Ext H H' ∧ ∀ (i' j : Nat) (r s : Rl), i' < i → rs[i']? = some r → rs[j]? = some s → hit (d : Int) r s = false)
      ⟨none, none, none, none, rfl, Ext.rfl', fun i' _ _ _ h => absurd h (Nat.not_lt_zero _)⟩ (fun i σ H' _ hP => ?_) (fun i x σ H1 H2 hi hP y => ?_) (fun σ H' hP => ?_)
    · obtain ⟨_, _, _, _, _, e, _⟩ := hP
      exact SqT.of (e _ _ ht)
    · obtain ⟨v1, v2, v3, v4, rfl, e, hno⟩ := hP
      obtain ⟨T1, x1, y1, rfl, n1, rfl, ex, ey⟩ := y
      cases ex
      obtain ⟨p, hp, rfl⟩ := refs_at ey
      have e2 := e.up (o := .tup [.int (i : Nat), .ref p.1]) n1
      refine gPair (SqT.of upd_same) ?_
      refine ⟨_, rfl, b, cB K, dx, _, _, rfl, e2 _ _ hb, T.iB.cl, T.bRules, bk_rules d t, t, _, rfl, SqT.of (e2 _ _ ht), ?_⟩
      refine for_it (walkEnumT (xs := refs prs)) (fun j σ H' => ∃ v3 v4 : Option V, σ = [some (.ref b), some (.int (i : Nat)), some (.ref p.1), v3, v4] ∧ Ext H H' ∧ ∀ (j' : Nat) (s : Rl), j' < j → rs[j']? = some s → hit (d : Int) p.2 s = false)
        ⟨v3, v4, rfl, e2, fun j' _ h => absurd h (Nat.not_lt_zero _)⟩ (fun j σ H' _ hP => ?_) (fun j x σ H1 H3 hj hP y => ?_) (fun σ H' hP => ?_)
      · obtain ⟨_, _, _, e, _⟩ := hP
        exact SqT.of (e _ _ ht)
      · obtain ⟨v3, v4, rfl, e3, hnj⟩ := hP
        obtain ⟨T2, x2, y2, rfl, n2, rfl, ex, ey⟩ := y
        cases ex
        obtain ⟨q, hq, rfl⟩ := refs_at ey
        have e4 := e3.up (o := .tup [.int (j : Nat), .ref q.1]) n2
        refine gPair (SqT.of upd_same) ?_
        obtain ⟨dp, hdp⟩ := (hR p (List.mem_of_getElem? hp)).ext e4
        refine ⟨_, rfl, p.1, cR K, dp, _, _, rfl, hdp, T.iR.cl, T.rLength, rl_len p.2, _, rfl, b, cB K, dx, _, _, rfl, e4 _ _ hb, T.iB.cl, T.bDays, bk_days d t, _, _, rfl, rfl, _, rfl, ?_⟩
        have go : hit (d : Int) p.2 q.2 = false → ∃ v3 v4 : Option V, [some (V.ref b), some (V.int (i : Nat)), some (V.ref p.1), some (V.int (j : Nat)), some (V.ref q.1)] = [some (.ref b), some (.int (i : Nat)), some (.ref p.1), v3, v4] ∧ Ext H (upd H1 T2 (.tup [.int (j : Nat), .ref q.1])) ∧ ∀ (j' : Nat) (s : Rl), j' < j + 1 → rs[j']? = some s → hit (d : Int) p.2 s = false := fun hf => by
          refine ⟨_, _, rfl, e4, fun j' s hj' es => ?_⟩
          rcases Nat.lt_succ_iff_lt_or_eq.mp hj' with z | z
          · exact hnj j' s z es
          · subst z
            rw [rsAt hq] at es
            cases es
            exact hf
        by_cases hd : p.2.len ≤ (d : Int)
        · rw [decide_eq_true hd]
          refine iteT ⟨_, rfl, _, rfl, p.1, q.1, p.2, q.2, rfl, ⟨dp, hdp⟩, (hR q (List.mem_of_getElem? hq)).ext e4, _, rfl, ?_⟩
          cases eg : (decide (p.2.len = q.2.len) && gap p.2.lo q.2.hi) with
          | false => exact iteF (go (by unfold hit; rw [eg, Bool.and_false]))
          | true =>
            have hh : hit (d : Int) p.2 q.2 = true := by unfold hit; rw [eg, decide_eq_true hd]; rfl
            refine iteT ⟨_, rfl, _, rfl, by show 2 ≤ sizeLine; decide, fun tt ntt => ?_⟩
            refine k2 i j ⟨⟨_, _, rsAt hp, rsAt hq, hh⟩, fun i' j' r s er es hrs => ?_⟩ _ tt (e4.up ntt) upd_same
            rcases Nat.lt_trichotomy i' i with z | z | z
            · rw [hno i' j' r s z er es] at hrs
              cases hrs
            · subst z
              rw [rsAt hp] at er
              cases er
              refine .inr ⟨rfl, Nat.le_of_not_lt fun z => ?_⟩
              rw [hnj j' s z es] at hrs
              cases hrs
            · exact .inl z
        · rw [decide_eq_false hd]
          exact iteF (iteF (go (by unfold hit; rw [decide_eq_false hd]; rfl)))
      · obtain ⟨v3, v4, rfl, e3, hnj⟩ := hP
        refine ⟨_, _, _, _, rfl, e3, fun i' j r s hi' er es => ?_⟩
        rcases Nat.lt_succ_iff_lt_or_eq.mp hi' with z | z
        · exact hno i' j r s z er es
        · subst z
          rw [rsAt hp] at er
          cases er
          exact hnj j s (by rw [refs_len]; exact ofRs es) es
    · obtain ⟨v1, v2, v3, v4, rfl, e, hno⟩ := hP
      refine k1 (fun r hr' s hs' => ?_) _ e
      obtain ⟨i, hi⟩ := List.getElem?_of_mem hr'
      obtain ⟨j, hj⟩ := List.getElem?_of_mem hs'
      exact hno i j r s (by rw [refs_len]; exact ofRs hi) hi hj
end
end K15

/-! K15P5: books, further. -/
namespace K15
open PySem PySem.Spec PyProof.Rows L2
theorem sel_refs (l : Int) : ∀ prs : List PR, (prs.filterMap fun p => if p.2.len = l then some (V.ref p.1) else none) = refs (prs.filter fun p => decide (p.2.len = l))
  | [] => rfl
  | p :: r => by
    rw [List.filterMap_cons, List.filter_cons]
    by_cases h : p.2.len = l
    · simp only [h, if_true, decide_true]
      rw [sel_refs l r]
      rfl
    · simp only [h, if_false, decide_false]
      rw [sel_refs l r]
      rfl
theorem low_ints (prs : List PR) : (prs.filterMap fun p => p.2.lo.map V.int) = (prs.filterMap fun p => p.2.lo).map V.int := (List.map_filterMap ..).symm
theorem high_ints (prs : List PR) : (prs.filterMap fun p => p.2.hi.map V.int) = (prs.filterMap fun p => p.2.hi).map V.int := (List.map_filterMap ..).symm
theorem lows_eq (prs : List PR) (l : Int) : ((prs.filter fun p => decide (p.2.len = l)).filterMap fun p => p.2.lo) = lows (prs.map (·.2)) l := by
  unfold lows atLen
  rw [List.filter_map, List.filterMap_map]
  rfl
theorem highs_eq (prs : List PR) (l : Int) : ((prs.filter fun p => decide (p.2.len = l)).filterMap fun p => p.2.hi) = highs (prs.map (·.2)) l := by
  unfold highs atLen
  rw [List.filter_map, List.filterMap_map]
  rfl
theorem notNon_oV (o : Option Int) : (!decide (oV o = V.non)) = o.isSome := by
  cases o <;> simp [oV]
theorem rl_no {r : Rl} {m : Str} (h1 : (m == ("length" : Str)) = false) (h2 : (m == ("low" : Str)) = false) (h3 : (m == ("high" : Str)) = false) : (rlF r).lookup m = none := (lookB h1).trans ((lookB h2).trans ((lookB h3).trans lookN))
theorem bk_no {d : Nat} {t : Addr} {m : Str} (h1 : (m == ("days" : Str)) = false) (h2 : (m == ("rules" : Str)) = false) : (bkF d t).lookup m = none := (lookB h1).trans ((lookB h2).trans lookN)
section
variable {P : Program} {w : World} {K : PySem.W.Frag} {mg : Str → Option Value} {base : Heap} {f : Addr} {fd : FuncData}
theorem scDrawn : FnScope ["rules", "length", "some", "low", "rule"] ["rules", "length"] (defScope sDrawn) := ⟨rfl, rfl, rfl, by decide +kernel, rfl, by decide +kernel, by decide +kernel⟩
theorem ok_drawn (F : FN K "drawn_together" sDrawn f fd) (T : Txt K mg) (c : CalC P w K mg base CX0 4 (cR K) "Rule" ["self", "length", "low", "high"] (spRuleI K)) : FnOk P w K mg base CX0 6 f fd ["rules", "length"] (spDrawn K) := by
  refine ok0 F scDrawn (fun vs H Q E h => ?_) (fun cdv A outer s H vs Q E hr h => ?_)
  · obtain ⟨t, l, prs, rfl, _⟩ := h
    rfl
  · obtain ⟨t, l, prs, rfl, ht, hR, hz, hj, q⟩ := h
    refine ⟨_, pss_cons (ps_setLc (i := 2) (own := [("rule", 4)]) (g := gName 4) (tt := tTest (tOp rEq (tFld K (tVar 4) "length") (tVar 1))) (te := tVar 4) rfl scDrawn.nd rfl rfl (sw_true rfl rfl rfl (by decide +kernel)) (pi_tup (pv 0))
        (blkOk_by (N := ["rules", "length", "some", "low", "rule"]) (sc := defScope sDrawn) (by decide +kernel)) (fun _ _ _ _ _ => pg_name (i := 4) scDrawn.nd rfl (Or.inl rfl)) (fun _ _ _ _ _ => pts_one (pt_cmpR op_eq (pe_fld (pv 4) rfl) (pv 1) (nomark _))) (fun _ _ _ _ _ => pv 4))
      (pss_cons (ps_set (i := 3) scDrawn.nd rfl (Or.inl rfl) (pe_callBK (call_maxD rfl hr.units) (by rfl) T.max bMax (pa_cons (pe_lc (own := [("rule", 4)]) (g := gName 4) (tt := tB (tNotN (tFld K (tVar 4) "low"))) (te := tFld K (tVar 4) "low") rfl scDrawn.nd (pi_list (pv 2))
        (blkOk_by (N := ["rules", "length", "some", "low", "rule"]) (sc := defScope sDrawn) (by decide +kernel)) (fun _ _ _ _ _ => pg_name (i := 4) scDrawn.nd rfl (Or.inl rfl)) (fun _ _ _ _ _ => pts_one (pt_cmp (pc_notN (pe_fld (pv 4) rfl)))) (fun _ _ _ _ _ => pe_fld (pv 4) rfl)) pa_nil) (pk_cons pe_non pk_nil)))
      (pss_one (ps_ret (pe_calC c (hr.mono (by decide)) rfl pass0 (pa_cons (pv 1) (pa_cons (pv 3) (pa_cons (pe_callBK (call_minD rfl hr.units) (by rfl) T.min bMin (pa_cons (pe_lc (own := [("rule", 4)]) (g := gName 4) (tt := tB (tNotN (tFld K (tVar 4) "high"))) (te := tFld K (tVar 4) "high") rfl scDrawn.nd (pi_list (pv 2))
        (blkOk_by (N := ["rules", "length", "some", "low", "rule"]) (sc := defScope sDrawn) (by decide +kernel)) (fun _ _ _ _ _ => pg_name (i := 4) scDrawn.nd rfl (Or.inl rfl)) (fun _ _ _ _ _ => pts_one (pt_cmp (pc_notN (pe_fld (pv 4) rfl)))) (fun _ _ _ _ _ => pe_fld (pv 4) rfl)) pa_nil) (pk_cons pe_non pk_nil)) pa_nil))))))), ?_⟩
    refine ⟨_, rfl, t, rfl, ⟨_, SqT.of ht⟩, fun D1 n1 => ?_⟩
    refine lc_fm (walk_tup (xs := refs prs)) n1 (by rw [refs_len]; exact hz) (fun i => (prs[i]?).bind fun p => if p.2.len = l then some (V.ref p.1) else none) (fun H' e => SqT.of (e _ _ ht)) (fun i x H1 H2 K1 K2 hi e y k1 k2 => ?_) (fun H1 e1 hD => ?_)
    · obtain ⟨rfl, hx⟩ := y
      obtain ⟨p, hp, rfl⟩ := refs_at hx
      obtain ⟨dp, hdp⟩ := (hR p (List.mem_of_getElem? hp)).ext e
      refine ⟨rfl, _, rfl, p.1, cR K, dp, _, _, rfl, hdp, T.iR.cl, T.rLength, rl_len p.2, _, rfl, rfl, _, rfl, ?_⟩
      by_cases hl : p.2.len = l
      · rw [show decide (V.int p.2.len = V.int l) = true by simp [hl]]
        exact iteT ⟨_, rfl, k1 _ _ (by simp [hp, hl]) Ext.rfl'⟩
      · rw [show decide (V.int p.2.len = V.int l) = false by simp [hl]]
        exact iteF (k2 _ (by simp [hp, hl]) Ext.rfl')
    · rw [refs_len, range_fm, sel_refs] at hD
      have selR : RulesAt K H1 (prs.filter fun p => decide (p.2.len = l)) := fun p hp => (hR p (List.mem_filter.mp hp).1).ext e1
      have selL : (prs.filter fun p => decide (p.2.len = l)).length ≤ 1000 := Nat.le_trans (List.length_filter_le ..) hz
      generalize hsel : (prs.filter fun p => decide (p.2.len = l)) = sel at hD selR selL
      refine ⟨_, rfl, D1, rfl, ⟨_, SqL.of hD⟩, fun D2 n2 => ?_⟩
      refine lc_fm (walk_list (xs := refs sel)) n2 (by rw [refs_len]; exact selL) (fun i => (sel[i]?).bind fun p => p.2.lo.map V.int) (fun H' e => SqL.of (e _ _ hD)) (fun i x H2 H3 K1 K2 hi e y k1 k2 => ?_) (fun H2 e2 hD2 => ?_)
      · obtain ⟨rfl, hx⟩ := y
        obtain ⟨p, hp, rfl⟩ := refs_at hx
        obtain ⟨dp, hdp⟩ := (selR p (List.mem_of_getElem? hp)).ext e
        refine ⟨rfl, _, rfl, p.1, cR K, dp, _, _, rfl, hdp, T.iR.cl, T.rLow, rl_low p.2, _, rfl, ?_⟩
        rw [notNon_oV]
        cases hlo : p.2.lo with
        | none => exact iteF (k2 _ (by simp [hp, hlo]) Ext.rfl')
        | some a => exact iteT ⟨_, rfl, p.1, cR K, dp, _, _, rfl, hdp, T.iR.cl, T.rLow, (rl_low p.2).trans (congrArg (fun o => some (oV o)) hlo), k1 _ _ (by simp [hp, hlo]; rfl) Ext.rfl'⟩
      · rw [refs_len, range_fm, low_ints, ← hsel, lows_eq] at hD2
        refine ⟨D2, lows (prs.map (·.2)) l, rfl, rfl, SqL.of hD2, ?_⟩
        have hD' := e2 _ _ hD
        refine ⟨_, rfl, _, rfl, _, rfl, D1, rfl, ⟨_, SqL.of hD'⟩, fun D3 n3 => ?_⟩
        refine lc_fm (walk_list (xs := refs sel)) n3 (by rw [refs_len]; exact selL) (fun i => (sel[i]?).bind fun p => p.2.hi.map V.int) (fun H' e => SqL.of (e _ _ hD')) (fun i x H3 H4 K1 K2 hi e y k1 k2 => ?_) (fun H3 e3 hD3 => ?_)
        · obtain ⟨rfl, hx⟩ := y
          obtain ⟨p, hp, rfl⟩ := refs_at hx
          obtain ⟨dp, hdp⟩ := (selR p (List.mem_of_getElem? hp)).ext (e2.trans e)
          refine ⟨rfl, _, rfl, p.1, cR K, dp, _, _, rfl, hdp, T.iR.cl, T.rHigh, rl_high p.2, _, rfl, ?_⟩
          rw [notNon_oV]
          cases hhi : p.2.hi with
          | none => exact iteF (k2 _ (by simp [hp, hhi]) Ext.rfl')
          | some a => exact iteT ⟨_, rfl, p.1, cR K, dp, _, _, rfl, hdp, T.iR.cl, T.rHigh, (rl_high p.2).trans (congrArg (fun o => some (oV o)) hhi), k1 _ _ (by simp [hp, hhi]; rfl) Ext.rfl'⟩
        · rw [refs_len, range_fm, high_ints, ← hsel, highs_eq] at hD3
          refine ⟨D3, highs (prs.map (·.2)) l, rfl, rfl, SqL.of hD3, fun x dx nx ndx nex => ?_⟩
          refine ⟨x, dx, join (prs.map (·.2)) l, rfl, upd_same, hj, fun H4 e4 r4 => ⟨rfl, ?_⟩⟩
          exact q _ x ((e1.trans (e2.trans e3)).trans (ExtB.made nx ndx e4)) r4
theorem scBookI : FnScope ["self", "days", "rules"] ["self", "days", "rules"] (defScope sBookI) := ⟨rfl, rfl, rfl, by decide +kernel, rfl, by decide +kernel, by decide +kernel⟩
theorem ok_bookI (F : FD K "__init__" "Book.__init__" sBookI f fd) (T : Txt K mg) (c1 : Cal P w K mg base CX0 3 "need_number" ["value", "part", "least", "most"] spNeed) (c2 : Cal P w K mg base CX0 1 "are_rules" ["value"] (spAreRules K)) : FnOk P w K mg base CX0 4 f fd ["self", "days", "rules"] (spBookI K) := by
  refine ok0 F scBookI (fun vs H Q E h => ?_) (fun cdv A outer s H vs Q E hr h => ?_)
  · obtain ⟨x, a, dx, d, prs, rfl, _⟩ := h
    rfl
  · obtain ⟨x, a, dx, d, prs, rfl, hx, d1, d2, ha, hR, hz, q⟩ := h
    obtain ⟨tk, cD⟩ := T.cDaysB
    obtain ⟨tk2, cM⟩ := T.cRules
    refine ⟨_, pss_cons (ps_expr (pe_cal c1 hr rfl pass0 (pa_cons (pv 1) (pa_cons pe_str (pa_cons pe_int (pa_cons (pe_glob (v := .int 48) rfl cD ⟨_, rfl⟩) pa_nil))))))
      (pss_cons (ps_if (pt_not (pt_val (pe_cal c2 (hr.mono (by decide)) rfl pass0 (pa_cons (pv 2) pa_nil)))) pss_never pss_nil)
      (pss_cons (ps_if (pt_cmpR op_gt (pe_callB call_len_seq (by rfl) T.len bLen (pa_cons (pv 2) pa_nil)) (pe_glob (v := .int 8) rfl cM ⟨_, rfl⟩) (nomark _)) pss_never pss_nil)
      (pss_cons (ps_fld (pv 0) (pv 1) rfl) (pss_one (ps_fld (pv 0) (pe_callTy call_tuple_of (by rfl) T.tuple bTuple (pa_cons (pv 2) pa_nil)) rfl))))), ?_⟩
    have nax : a ≠ x := ne_of ha hx (by intro z; cases z)
    refine ⟨_, rfl, (d : Int), 1, 48, _, rfl, by omega, by omega, ?_⟩
    refine ⟨_, rfl, a, prs, rfl, ha, by omega, hR, fun H1 e1 => ⟨true, rfl, iteF ?_⟩⟩
    refine ⟨_, rfl, a, _, rfl, .inl (SqL.of (e1 _ _ ha)), _, _, rfl, rfl, _, rfl, ?_⟩
    rw [show decide ((8 : Int) < ((refs prs).length : Int)) = false from decide_eq_false (by rw [refs_len]; omega)]
    refine iteF ⟨_, rfl, _, rfl, x, cB K, dx, [], rfl, e1 _ _ hx, T.iB.cl, T.bDays, (by show 0 < 1000; decide), ?_⟩
    have b1 : ExtB x H (upd H1 x (.ins (cB K) dx (putF "days" (.int (d : Int)) []))) := e1.b.trans ExtB.upd
    refine ⟨_, rfl, a, _, rfl, .inl ⟨SqL.of (b1 _ _ nax ha), fun t nt => ?_⟩⟩
    have nxt : x ≠ t := fun z => by
      rw [← z, upd_same] at nt
      cases nt
    refine ⟨_, rfl, x, cB K, dx, _, rfl, by rw [upd_ne nxt, upd_same], T.iB.cl, T.bRules, (by show 1 < 1000; decide), ?_⟩
    rw [putN, putB (by decide +kernel), putN]
    refine q _ ((b1.thn (Ext.new nt)).trans ExtB.upd) ⟨dx, t, prs, upd_same, by rw [upd_ne nxt.symm, upd_same], fun p hp => ?_, rfl⟩
    obtain ⟨dp, h⟩ := hR p hp
    have npx : p.1 ≠ x := fun z => by
      rw [z, hx] at h
      injection h with h
      injection h with _ _ h
      cases h
    exact ⟨dp, ((b1.thn (Ext.new nt)).trans ExtB.upd) _ _ npx h⟩
theorem scBookF : FnScope ["self", "row", "number", "rule", "begin"] ["self", "row"] (defScope sBookF) := ⟨rfl, rfl, rfl, by decide +kernel, rfl, by decide +kernel, by decide +kernel⟩
theorem ok_bookF (F : FD K "first_broken" "Book.first_broken" sBookF f fd) (T : Txt K mg) (c1 : Cal P w K mg base CX0 1 "need_row" ["value", "part"] (spNeedRow K)) (c2 : CalM P w K mg base CX0 3 (cR K) "first_broken" ["self", "row"] (spRuleF K)) : FnOk P w K mg base CX0 4 f fd ["self", "row"] (spBookF K) := by
  refine ok0 F scBookF (fun vs H Q E h => ?_) (fun cdv A outer s H vs Q E hr h => ?_)
  · obtain ⟨b, q, rs, g, rfl, _⟩ := h
    rfl
  · obtain ⟨b, q, rs, g, rfl, ⟨dx, t, prs, hb, ht, hR, ers⟩, hok, hq, hz, k1, k2⟩ := h
    refine ⟨_, pss_cons (ps_expr (pe_cal c1 (hr.mono (by decide)) rfl pass0 (pa_cons (pv 1) (pa_cons pe_str pa_nil))))
      (pss_cons (ps_if (pt_cmpR op_ne (pe_fld (pv 1) rfl) (pe_fld (pv 0) rfl) (nomark _)) pss_never pss_nil)
      (pss_cons (ps_for PassesOwn.never rfl (pi_enumT rfl T.enumerate (pa_cons (pe_fld (pv 0) rfl) pa_nil)) (pg_tup rfl (pgs_cons (pg_name (i := 2) scBookF.nd rfl (Or.inl rfl)) (pgs_cons (pg_name (i := 3) scBookF.nd rfl (Or.inl rfl)) pgs_nil)))
        (pss_cons (ps_set (i := 4) scBookF.nd rfl (Or.inl rfl) (pe_calM (pv 3) T.iR.cl c2 hr pass0 (pa_cons (pv 1) pa_nil))) (pss_one (ps_if (pt_cmp (pc_notN (pv 4))) (pss_one (ps_ret (pe_tup (pa_cons (pv 2) (pa_cons (pv 4) pa_nil))))) pss_nil))))
      (pss_one (ps_ret pe_non)))), ?_⟩
    obtain ⟨dw, t1, t2, h1, h2, h3⟩ := id hq
    refine ⟨_, rfl, q, g, _, rfl, hq, ?_⟩
    refine ⟨_, rfl, q, cW K, dw, _, _, rfl, h1, T.iW.cl, T.wDays, row_days, _, rfl, b, cB K, dx, _, _, rfl, hb, T.iB.cl, T.bDays, bk_days _ t, rfl, _, rfl, ?_⟩
    rw [show (!decide (V.int (g.length : Int) = V.int (g.length : Int))) = false by simp]
    refine iteF ⟨_, rfl, b, cB K, dx, _, _, rfl, hb, T.iB.cl, T.bRules, bk_rules _ t, t, _, rfl, SqT.of ht, ?_⟩
    refine for_it (walkEnumT (xs := refs prs)) (fun i σ H' => ∃ v2 v3 v4 : Option V, σ = [some (.ref b), some (.ref q), v2, v3, v4] ∧ Ext H H' ∧ ∀ (i' : Nat) (p : PR), i' < i → prs[i']? = some p → Keeps p.2 g)
      ⟨none, none, none, rfl, Ext.rfl', fun i' _ h => absurd h (Nat.not_lt_zero _)⟩ (fun i σ H' _ hP => ?_) (fun i x σ H1 H2 hi hP y => ?_) (fun σ H' hP => ?_)
    · obtain ⟨_, _, _, _, e, _⟩ := hP
      exact SqT.of (e _ _ ht)
    · obtain ⟨v2, v3, v4, rfl, e, hk⟩ := hP
      obtain ⟨T1, x1, y1, rfl, n1, rfl, ex, ey⟩ := y
      cases ex
      obtain ⟨p, hp, rfl⟩ := refs_at ey
      have e2 := e.up (o := .tup [.int (i : Nat), .ref p.1]) n1
      refine gPair (SqT.of upd_same) ?_
      have hrp := (hR p (List.mem_of_getElem? hp)).ext e2
      obtain ⟨dp, hdp⟩ := id hrp
      have hpo : p.2.Ok := hok _ (by rw [← ers]; exact List.mem_map.mpr ⟨p, List.mem_of_getElem? hp, rfl⟩)
      refine ⟨_, rfl, p.1, dp, _, rfl, hdp, rl_no (by decide +kernel) (by decide +kernel) (by decide +kernel), _, rfl, p.1, q, p.2, g, rfl, hrp, hpo, hq.ext e2, hz, fun kk => ?_, fun nk z => ?_⟩
      · refine ⟨_, rfl, false, rfl, iteF ⟨_, _, _, rfl, e2, fun i' p' hi' ep => ?_⟩⟩
        rcases Nat.lt_succ_iff_lt_or_eq.mp hi' with z | z
        · exact hk i' p' z ep
        · subst z
          rw [hp] at ep
          cases ep
          exact kk
      · refine ⟨_, rfl, true, rfl, iteT ⟨_, rfl, _, rfl, by show 2 ≤ sizeLine; decide, fun tt ntt => ?_⟩⟩
        refine k2 (fun ka => nk (ka _ ?_)) _ tt (e2.up ntt)
        rw [← ers]
        exact List.mem_map.mpr ⟨p, List.mem_of_getElem? hp, rfl⟩
    · obtain ⟨v2, v3, v4, rfl, e, hk⟩ := hP
      refine k1 (fun r hr' => ?_) _ e
      rw [← ers] at hr'
      obtain ⟨p, hp, rfl⟩ := List.mem_map.mp hr'
      obtain ⟨i, hi⟩ := List.getElem?_of_mem hp
      exact hk i p (by rw [refs_len]; exact (List.getElem?_eq_some_iff.mp hi).1) hi
theorem scBookK : FnScope ["self", "row"] ["self", "row"] (defScope sBookK) := ⟨rfl, rfl, rfl, by decide +kernel, rfl, by decide +kernel, by decide +kernel⟩
theorem ok_bookK (F : FD K "keeps" "Book.keeps" sBookK f fd) (T : Txt K mg) (c : CalM P w K mg base CX0 4 (cB K) "first_broken" ["self", "row"] (spBookF K)) : FnOk P w K mg base CX0 5 f fd ["self", "row"] (spBookK K) := by
  refine ok0 F scBookK (fun vs H Q E h => ?_) (fun cdv A outer s H vs Q E hr h => ?_)
  · obtain ⟨b, q, rs, g, rfl, _⟩ := h
    rfl
  · obtain ⟨b, q, rs, g, rfl, hb, hok, hq, hz, k1, k2⟩ := h
    obtain ⟨dx, t, prs, hb', _⟩ := id hb
    refine ⟨_, pss_one (ps_ret (pe_cmp (pc_isN (pe_calM (pv 0) T.iB.cl c hr pass0 (pa_cons (pv 1) pa_nil))))), ?_⟩
    exact ⟨_, rfl, b, dx, _, rfl, hb', bk_no (by decide +kernel) (by decide +kernel), _, rfl, b, q, rs, g, rfl, hb, hok, hq, hz, fun kk H' e => k1 kk H' e, fun nk H' t e => k2 nk H' e⟩
theorem scBookE : FnScope ["self", "other"] ["self", "other"] (defScope sBookE) := ⟨rfl, rfl, rfl, by decide +kernel, rfl, by decide +kernel, by decide +kernel⟩
theorem ok_bookE (F : FD K "__eq__" "Book.__eq__" sBookE f fd) (T : Txt K mg) (c : CalM P w K mg base CX0 1 (cR K) "__eq__" ["self", "other"] (spEq (rRule K))) : FnOk P w K mg base CX0 3 f fd ["self", "other"] (spEq (rBook K)) := by
  obtain ⟨fe, fde, Fe, me, be⟩ := c.ex
  refine ok0 F scBookE (fun vs H Q E h => ?_) (fun cdv A outer s H vs Q E hr h => ?_)
  · obtain ⟨a, b, rfl, _⟩ := h
    rfl
  · obtain ⟨a, b, rfl, ⟨d, rs, ⟨da, ta, pa, ha, hta, hRa, ea⟩, ⟨db, tb, pb, hb, htb, hRb, eb⟩⟩, q⟩ := h
    have mon : Mon (DIns (cR K) (rRule K)) := mon_ins fun a b H H' e z => z.imp fun r z => ⟨z.1.ext e, z.2.ext e⟩
    refine ⟨_, pss_one (ps_ret (pe_and (pe_callB call_isi (by rfl) T.isi bIsi (pa_cons (pv 1) (pa_cons (pe_glob (v := .ref (cB K)) rfl T.mB rfl) pa_nil))) (pe_and (pe_cmpR op_eq (pe_fld (pv 0) rfl) (pe_fld (pv 1) rfl) (nomark _))
      (pe_one (pe_cmpR (op_eqG (rcG_tup mon (eqG_ins (E := E0) Fe me.at_ me.fn be pass0)) hr) (pe_fld (pv 0) rfl) (pe_fld (pv 1) rfl) (nomark _)))))), ?_⟩
    refine ⟨_, rfl, .ref b, .ref (cB K), .ref (cB K), .ref (cB K), true, rfl, .own _, T.ty T.iB hb, T.kBB, true, rfl, ?_⟩
    refine ⟨_, rfl, a, cB K, da, _, _, rfl, ha, T.iB.cl, T.bDays, bk_days d ta, _, rfl, b, cB K, db, _, _, rfl, hb, T.iB.cl, T.bDays, bk_days d tb, rfl, true, by simp, iteT ?_⟩
    refine ⟨_, rfl, a, cB K, da, _, _, rfl, ha, T.iB.cl, T.bRules, bk_rules d ta, _, rfl, b, cB K, db, _, _, rfl, hb, T.iB.cl, T.bRules, bk_rules d tb, ⟨ta, tb, refs pa, refs pb, rfl, rfl, SqT.of hta, SqT.of htb, ?_, fun i x y hx hy => ?_⟩, fun H' e => q _ e⟩
    · rw [refs_len, refs_len, ← List.length_map (f := fun p : PR => p.2) (as := pa), ← List.length_map (f := fun p : PR => p.2) (as := pb), ea, eb]
    · obtain ⟨p, hp, rfl⟩ := refs_at hx
      obtain ⟨p', hp', rfl⟩ := refs_at hy
      obtain ⟨d1, h1⟩ := hRa p (List.mem_of_getElem? hp)
      obtain ⟨d2, h2⟩ := hRb p' (List.mem_of_getElem? hp')
      have e : p.2 = p'.2 := by
        have h3 : (pa.map (·.2))[i]? = some p.2 := by rw [List.getElem?_map, hp]; rfl
        have h4 : (pb.map (·.2))[i]? = some p'.2 := by rw [List.getElem?_map, hp']; rfl
        rw [ea, ← eb, h4] at h3
        exact (Option.some.inj h3).symm
      refine ⟨p.1, p'.1, d1, d2, _, _, rfl, rfl, h1, h2, p.2, ⟨d1, h1⟩, ?_⟩
      rw [e]
      exact ⟨d2, h2⟩
end
end K15

/-! K15P6: Book.together. -/
namespace K15
open PySem PySem.Spec PyProof.Rows L2
def spTog (K : PySem.W.Frag) : Sp := fun vs H Q _ => ∃ (b : Addr) (d : Nat) (rs : List Rl), vs = [.ref b] ∧ BookAt K H b d rs ∧ (∀ r ∈ rs, r.Ok) ∧ rs.length ≤ 8 ∧ 1 ≤ d ∧ d ≤ 48 ∧ NoHit (d : Int) rs ∧ ∀ H' p, Ext H H' → BookAt K H' p d (due d rs) → Q (.ref p) H'
def spTogX (K : PySem.W.Frag) : Sp := fun vs H _ E => ∃ (b : Addr) (d : Nat) (rs : List Rl) (i j : Nat), vs = [.ref b] ∧ BookAt K H b d rs ∧ First (d : Int) rs i j ∧ ∀ H' e dd, Ext H H' → PaperAt K H' e i j → H' dd = some (.xd [("paper", .ref e)]) → E (.ref (cI K)) (some dd) H'
section
variable {P : Program} {w : World} {K : PySem.W.Frag} {mg : Str → Option Value} {base : Heap} {f : Addr} {fd : FuncData}
theorem scBookT : FnScope ["self", "pair", "lengths", "rule", "length"] ["self"] (defScope sBookT) := ⟨rfl, rfl, rfl, by decide +kernel, rfl, by decide +kernel, by decide +kernel⟩
theorem ok_bookT (F : FD K "together" "Book.together" sBookT f fd) (T : Txt K mg) (c1 : Cal P w K mg base CX0 2 "empty_pair" ["book"] (spPair K)) (c2 : Cal P w K mg base CX0 6 "drawn_together" ["rules", "length"] (spDrawn K)) (c3 : CalC P w K mg base CX0 4 (cB K) "Book" ["self", "days", "rules"] (spBookI K)) : FnOk P w K mg base CX0 7 f fd ["self"] (spTog K) := by
  refine ok0 F scBookT (fun vs H Q E h => ?_) (fun cdv A outer s H vs Q E hr h => ?_)
  · obtain ⟨b, d, rs, rfl, _⟩ := h
    rfl
  · obtain ⟨b, d, rs, rfl, hB, hok, hz, d1, d2, hno, q⟩ := h
    obtain ⟨dx, t, prs, hb, ht, hR, ers⟩ := id hB
    have hlen : prs.length ≤ 8 := by rw [← ers, List.length_map] at hz; exact hz
    refine ⟨_, pss_cons (ps_set (i := 1) scBookT.nd rfl (Or.inl rfl) (pe_cal c1 (hr.mono (by decide)) rfl pass0 (pa_cons (pv 0) pa_nil)))
      (pss_cons (ps_if (pt_cmp (pc_notN (pv 1))) pss_never pss_nil)
      (pss_cons (ps_set (i := 2) scBookT.nd rfl (Or.inl rfl) (pe_callB (cr_sortedSet rfl) (by rfl) T.sorted bSorted (pa_cons (pe_scI (own := [("rule", 3)]) (g := gName 3) (tt := tTest (tOp (rI0 fun i j => .bl (decide (i ≤ j))) (tFld K (tVar 3) "length") (tFld K (tVar 0) "days"))) (te := tFld K (tVar 3) "length") rfl scBookT.nd (pi_tup (pe_fld (pv 0) rfl))
        (blkOk_by (N := ["self", "pair", "lengths", "rule", "length"]) (sc := defScope sBookT) (by decide +kernel)) (fun _ _ _ _ _ => pg_name (i := 3) scBookT.nd rfl (Or.inl rfl)) (fun _ _ _ _ _ => pts_one (pt_cmpR op_le (pe_fld (pv 3) rfl) (pe_fld (pv 0) rfl) (nomark _))) (fun _ _ _ _ _ => pe_fld (pv 3) rfl)) pa_nil)))
      (pss_one (ps_ret (pe_calC c3 (hr.mono (by decide)) rfl pass0 (pa_cons (pe_fld (pv 0) rfl) (pa_cons (pe_lc (own := [("length", 4)]) (g := gName 4) (tt := tYes) (te := tCall (spDrawn K) [] E0 (tCons (tFld K (tVar 0) "rules") (tCons (tVar 4) tNil))) rfl scBookT.nd (pi_list (pv 2))
        (blkOk_by (N := ["self", "pair", "lengths", "rule", "length"]) (sc := defScope sBookT) (by decide +kernel)) (fun _ _ _ _ _ => pg_name (i := 4) scBookT.nd rfl (Or.inl rfl)) (fun _ _ _ _ _ => pts_nil) (fun _ _ _ _ _ => pe_cal c2 hr rfl pass0 (pa_cons (pe_fld (pv 0) rfl) (pa_cons (pv 4) pa_nil)))) pa_nil))))))), ?_⟩
    refine ⟨_, rfl, b, d, rs, rfl, hB, fun _ H0 e0 => ?_, fun i j hf => (hf.no hno).elim⟩
    refine ⟨_, rfl, false, rfl, iteF ?_⟩
    refine ⟨_, rfl, b, cB K, dx, _, _, rfl, e0 _ _ hb, T.iB.cl, T.bRules, bk_rules d t, t, rfl, ⟨_, SqT.of (e0 _ _ ht)⟩, fun D nD => ?_⟩
    refine sc_it (walk_tup (xs := refs prs)) (fun i H' => Ext H0 H' ∧ ∃ (S : Int → Bool) (n : Nat), H' D = some (SetO w D S n) ∧ n ≤ i ∧ ∀ k, S k = true ↔ ∃ p ∈ prs.take i, p.2.len = k ∧ p.2.len ≤ (d : Int))
      ⟨Ext.new nD, _, 0, upd_same, Nat.le_refl _, fun k => ⟨fun z => absurd z (by decide), fun ⟨p, h, _⟩ => absurd h (by rw [List.take_zero]; exact List.not_mem_nil)⟩⟩ (fun i H' _ p => SqT.of ((e0.trans p.1) _ _ ht)) (fun i x H1 H2 hi hP y => ?_) (fun H1 hP => ?_)
    · obtain ⟨e, S, n, hD, hn, hS⟩ := hP
      obtain ⟨rfl, hx⟩ := y
      obtain ⟨p, hp, rfl⟩ := refs_at hx
      have e' := e0.trans e
      obtain ⟨dp, hdp⟩ := (hR p (List.mem_of_getElem? hp)).ext e'
      have tk : prs.take (i + 1) = prs.take i ++ [p] := by rw [List.take_add_one, hp]; rfl
      refine ⟨rfl, _, rfl, p.1, cR K, dp, _, _, rfl, hdp, T.iR.cl, T.rLength, rl_len p.2, _, rfl, b, cB K, dx, _, _, rfl, e' _ _ hb, T.iB.cl, T.bDays, bk_days d t, _, _, rfl, rfl, _, rfl, ?_⟩
      by_cases hd : p.2.len ≤ (d : Int)
      · rw [decide_eq_true hd]
        refine iteT ⟨_, rfl, p.1, cR K, dp, _, _, rfl, hdp, T.iR.cl, T.rLength, rl_len p.2, p.2.len, S, n, rfl, hD, ?_, e.wr nD, _, _, upd_same, ?_, fun k => ?_⟩
        · have : i < (refs prs).length := hi
          rw [refs_len] at this
          show n + 1 < 4096
          omega
        · split <;> omega
        · rw [Bool.or_eq_true, hS, tk, decide_eq_true_eq]
          constructor
          · rintro (⟨p', h1, h2⟩ | rfl)
            · exact ⟨p', List.mem_append_left _ h1, h2⟩
            · exact ⟨p, by simp, rfl, hd⟩
          · rintro ⟨p', h1, h2⟩
            rcases List.mem_append.mp h1 with h1 | h1
            · exact .inl ⟨p', h1, h2⟩
            · rw [List.mem_singleton.mp h1] at h2
              exact .inr h2.1.symm
      · rw [decide_eq_false hd]
        refine iteF ⟨e, S, n, hD, Nat.le_succ_of_le hn, fun k => ?_⟩
        rw [hS, tk]
        constructor
        · rintro ⟨p', h1, h2⟩
          exact ⟨p', List.mem_append_left _ h1, h2⟩
        · rintro ⟨p', h1, h2⟩
          rcases List.mem_append.mp h1 with h1 | h1
          · exact ⟨p', h1, h2⟩
          · rw [List.mem_singleton.mp h1] at h2
            exact absurd h2.2 hd
    · obtain ⟨e1, S, n, hD, hn, hS⟩ := hP
      rw [refs_len] at hn
      refine ⟨D, S, n, rfl, hD, by omega, fun ns p asc mem ln np => ?_⟩
      have e2 : Ext H (upd H1 p (.lst (ns.map V.int))) := (e0.trans e1).up np
      have hdue : ns.map (join rs) = due d rs := due_eq hok asc fun k => by
        rw [mem, hS, List.take_of_length_le (by rw [refs_len]; exact Nat.le_refl _)]
        constructor
        · rintro ⟨p', h1, h2, h3⟩
          exact ⟨p'.2, by rw [← ers]; exact List.mem_map.mpr ⟨p', h1, rfl⟩, h2, h3⟩
        · rintro ⟨r, h1, h2, h3⟩
          rw [← ers] at h1
          obtain ⟨p', h4, rfl⟩ := List.mem_map.mp h1
          exact ⟨p', h4, h2, h3⟩
      refine ⟨_, rfl, b, cB K, dx, _, _, rfl, e2 _ _ hb, T.iB.cl, T.bDays, bk_days d t, ?_⟩
      refine ⟨_, rfl, p, rfl, ⟨_, SqL.of upd_same⟩, fun D2 nD2 => ?_⟩
      refine lc_list (xs := ns.map V.int) (fun i H' => Ext (upd H1 p (.lst (ns.map V.int))) H' ∧ ∃ made : List PR, H' D2 = some (.lst (refs made)) ∧ RulesAt K H' made ∧ made.map (·.2) = (ns.take i).map (join rs))
        ⟨Ext.new nD2, [], upd_same, (fun _ h => absurd h List.not_mem_nil), rfl⟩ (fun i H' _ e => SqL.of (e.1 _ _ upd_same)) (fun i x H' hi e => ?_) (fun H' e => ?_)
      · obtain ⟨k, hk, rfl⟩ := map_at hi
        have hil : i < ns.length := (List.getElem?_eq_some_iff.mp hk).1
        obtain ⟨e3, made, hD3, hm, em⟩ := e
        have e4 := e2.trans e3
        obtain ⟨r0, hr0, hk1, hk2⟩ : ∃ r ∈ rs, r.len = k ∧ r.len ≤ (d : Int) := by
          obtain ⟨p', h1, h2, h3⟩ := (hS k).mp ((mem k).mp (List.mem_of_getElem? hk))
          exact ⟨p'.2, by rw [← ers]; exact List.mem_map.mpr ⟨p', List.mem_of_mem_take h1, rfl⟩, h2, h3⟩
        refine ⟨rfl, _, rfl, b, cB K, dx, _, _, rfl, e4 _ _ hb, T.iB.cl, T.bRules, bk_rules d t, _, rfl, t, k, prs, rfl, e4 _ _ ht, hR.ext e4, by omega, ?_, fun H5 y e5 hy => ?_⟩
        · rw [ers, ← hk1]
          exact join_ok hok hno hr0 hk2
        · rw [ers] at hy
          have hlm : made.length = i := by
            have z := congrArg List.length em
            rw [List.length_map, List.length_map, List.length_take] at z
            omega
          refine ⟨_, e5 _ _ hD3, small48 (by rw [refs_len]; omega), ?_, made ++ [(y, join rs k)], ?_, ?_, ?_⟩
          · exact (e3.trans e5).wr nD2
          · rw [upd_same]
            show some (HO.lst (refs made ++ [V.ref y])) = some (HO.lst (refs (made ++ [(y, join rs k)])))
            unfold refs
            rw [List.map_append]
            rfl
          · intro z hz'
            have nD5 : H5 D2 = some (.lst (refs made)) := e5 _ _ hD3
            have at5 : RuleAt K H5 z.1 z.2 := by
              rcases List.mem_append.mp hz' with h | h
              · exact (hm z h).ext e5
              · rw [List.mem_singleton.mp h]
                exact hy
            obtain ⟨dz, hdz⟩ := at5
            exact ⟨dz, by rw [upd_ne (ne_of hdz nD5 (by intro z; cases z))]; exact hdz⟩
          · rw [List.map_append, em, List.take_add_one, hk, List.map_append]
            rfl
      · obtain ⟨e3, made, hD3, hm, em⟩ := e
        rw [List.length_map, List.take_length, hdue] at em
        have hml : made.length ≤ 8 := by
          have z := congrArg List.length em
          rw [List.length_map] at z
          have := due_length (d := d) hok
          omega
        intro x ddx nx ndx nex
        refine ⟨x, D2, ddx, d, made, rfl, upd_same, d1, d2, ?_, ?_, hml, fun H5 e5 h5 => ⟨rfl, ?_⟩⟩
        · rw [upd_ne (ne_of_none hD3 nx), upd_ne (ne_of_none hD3 ndx)]
          exact hD3
        · intro z hz'
          obtain ⟨dz, hdz⟩ := hm z hz'
          exact ⟨dz, by rw [upd_ne (ne_of_none hdz nx), upd_ne (ne_of_none hdz ndx)]; exact hdz⟩
        · rw [em] at h5
          exact q _ x (((e2.trans e3).trans (ExtB.made nx ndx e5))) h5
theorem ok_bookTX {f1 fI fE : Addr} {fd1 : FuncData} (F : FD K "together" "Book.together" sBookT f fd) (T : Txt K mg) (TP : TxtP K) (c1 : Cal P w K mg base CX0 2 "empty_pair" ["book"] (spPair K)) (c2 : CalC P w K mg base CX0 4 (cE K) "Empty" ["self", "one", "other"] (spEmptyI K))
    (iI : PySem.W.findIn K (.ref (cI K)) "__init__" = some (some (.ref fI))) (tI : PySem.W.typeIn K (.ref fI) = some (.type "function")) (F1 : FnOk P w K mg base CX0 1 fI fd1 ["self", "paper"] (spImpI K)) (hb : Binds K fd1 ["self", "paper"] []) : FnOk P w K mg base (L2.CX P w) 6 f fd ["self"] (spTogX K) := by
  refine F.ok scBookT (fun vs H Q E h => ?_) (fun cdv A outer s H vs Q E hr h => ?_)
  · obtain ⟨b, d, rs, i, j, rfl, _⟩ := h
    rfl
  · obtain ⟨b, d, rs, i, j, rfl, hB, hf, q⟩ := h
    refine ⟨_, pss_cons (ps_set (i := 1) scBookT.nd rfl (Or.inl rfl) (pe_cal c1 (hr.mono (by decide)) rfl pass0 (pa_cons (pv 0) pa_nil)))
      (pss_cons (ps_if (pt_cmp (pc_notN (pv 1))) (pss_one (ps_raise rfl (takes_of rfl rfl rfl rfl) (pmk_oex (x := "Impossible") TP.ox iI tI F1 (hr.mono (by decide)) hb .nil pass0 rfl T.mI (pa_cons (pe_calC c2 hr rfl pass0
        (pa_cons (pe_ix ix_tup (pv 1) pe_int (fun _ _ => rfl)) (pa_cons (pe_ix ix_tup (pv 1) pe_int (fun _ _ => rfl)) pa_nil))) pa_nil)))) pss_nil) pss_never), ?_⟩
    refine ⟨_, rfl, b, d, rs, rfl, hB, fun hno => (hf.no hno).elim, fun i' j' hf' H1 t e1 ht => ?_⟩
    obtain ⟨rfl, rfl⟩ := hf.inj hf'
    refine ⟨_, rfl, true, rfl, iteT ?_⟩
    refine ⟨_, rfl, t, _, _, _, rfl, rfl, SqT.of ht, rfl, _, rfl, t, _, _, _, rfl, rfl, SqT.of ht, rfl, fun x dx nx ndx nex => ?_⟩
    refine ⟨x, dx, i, j, rfl, upd_same, fun H2 e2 hp => ⟨rfl, ?_⟩⟩
    have e3 : Ext H H2 := e1.trans (ExtB.made nx ndx e2)
    refine ⟨by show 1 ≤ 1000; decide, fun a na => ⟨a, x, rfl, upd_same, fun dd ndd nea => ⟨rfl, dd, [("paper", .ref x)], ?_, ?_, ?_, ?_⟩⟩⟩
    · exact upd_same
    · rw [upd_ne nea, upd_same]
    · rw [upd_ne nea] at ndd
      exact ndd
    · rw [upd_ne nea] at ndd
      have e4 : Ext H2 (upd (del (upd (upd (upd H2 a (exo a (cI K) none)) dd (exd dd [("paper", .ref x)])) a (exo a (cI K) (some dd))) a) dd (.xd [("paper", .ref x)])) := fun b o h => by
        have n1 : b ≠ a := ne_of_none h na
        have n2 : b ≠ dd := ne_of_none h ndd
        rw [upd_ne n2, del_ne n1, upd_ne n1, upd_ne n2, upd_ne n1]
        exact h
      exact q _ x dd (e3.trans e4) (hp.ext e4) upd_same
end
end K15

/-! K15L1: the law's pen. -/
namespace K15
open PySem PySem.Spec PyProof.Rows L2
/-! ### plain data -/
theorem dat_can {α : Type} {f : α → PyData} (h : ∀ a, (f a).canLay0 = true) : ∀ l : List α, PyData.canLayAll0 (l.map f) = true
  | [] => by simp [PyData.canLayAll0]
  | a :: r => by simp [PyData.canLayAll0, h a, dat_can h r]
theorem dat_depth {α : Type} {f : α → PyData} {k : Nat} (h : ∀ a, (f a).depth ≤ k) : ∀ l : List α, PyData.depthAll (l.map f) ≤ k
  | [] => by simp [PyData.depthAll]
  | a :: r => by
    have h1 := h a
    have h2 := dat_depth h r
    simp only [List.map_cons, PyData.depthAll]
    omega
theorem shaped_ints (ns : List Int) : SeqAt.shaped (.list (ns.map PyData.int)) = true := by
  unfold SeqAt.shaped
  have h1 := dat_can (f := PyData.int) (fun a => by simp [PyData.canLay0]) ns
  have h2 := dat_depth (f := PyData.int) (k := 0) (fun a => by simp [PyData.depth]) ns
  simp only [PyData.canLay0, PyData.depth, h1, Bool.true_and]
  exact decide_eq_true (by omega)
theorem shaped_nil : SeqAt.shaped (.list []) = true := shaped_ints []
theorem eqv_nil (ds : List PyData) : PyData.eqv (.list ds) (.list []) = ds.isEmpty := by
  cases ds <;> simp [PyData.eqv, PyData.eqvAll]
/-! ### the pen -/
def PenAt (H : Hp) (p : Addr) (n : Nat) : Prop := ∃ (c : Addr) (cs : List Int) (t r : Int), H p = some (.lst [.ref c, .int t, .int r]) ∧ H c = some (.lst (cs.map V.int)) ∧ 0 ≤ t ∧ t ≤ (n : Int)
theorem PenAt.ext {H H' : Hp} {p : Addr} {n : Nat} (h : PenAt H p n) (e : Ext H H') : PenAt H' p n := by
  obtain ⟨c, cs, t, r, h1, h2, h3⟩ := h
  exact ⟨c, cs, t, r, e _ _ h1, e _ _ h2, h3⟩
theorem PenAt.mono {H : Hp} {p : Addr} {n m : Nat} (h : PenAt H p n) (e : n ≤ m) : PenAt H p m := by
  obtain ⟨c, cs, t, r, h1, h2, h3, h4⟩ := h
  exact ⟨c, cs, t, r, h1, h2, h3, by omega⟩
/-- a list of ints that has a member is no pen -/
theorem PenAt.ne {H : Hp} {p l : Addr} {n : Nat} {ns : List Int} (h : PenAt H p n) (e : H l = some (.lst (ns.map V.int))) : l ≠ p := by
  obtain ⟨c, cs, t, r, h1, _⟩ := h
  rintro rfl
  rw [e] at h1
  injection h1 with h1
  injection h1 with h1
  cases ns with
  | nil => cases h1
  | cons a r => cases h1
/-- all but the pen stays, and the pen's list is the same -/
structure ExtP (p : Addr) (H H' : Hp) : Prop where
  b : ExtB p H H'
  c : ∀ c xs, H p = some (.lst (.ref c :: xs)) → ∃ ys, H' p = some (.lst (.ref c :: ys))
theorem ExtP.trans {p : Addr} {H H1 H2 : Hp} (a : ExtP p H H1) (b : ExtP p H1 H2) : ExtP p H H2 := ⟨a.b.trans b.b, fun c xs h => by
  obtain ⟨ys, h1⟩ := a.c c xs h
  exact b.c c ys h1⟩
theorem ExtP.thn {p : Addr} {H H1 H2 : Hp} (a : ExtP p H H1) (b : Ext H1 H2) : ExtP p H H2 := ⟨a.b.thn b, fun c xs h => by
  obtain ⟨ys, h1⟩ := a.c c xs h
  exact ⟨ys, b _ _ h1⟩⟩
theorem _root_.L2.Ext.p {p : Addr} {H H' : Hp} (e : Ext H H') : ExtP p H H' := ⟨e.b, fun c xs h => ⟨xs, e _ _ h⟩⟩
theorem extP_of {p c : Addr} {H H' : Hp} {xs ys : List V} (h : H p = some (.lst (.ref c :: xs))) (b : ExtB p H H') (h' : H' p = some (.lst (.ref c :: ys))) : ExtP p H H' := ⟨b, fun c2 zs e => by
  rw [h] at e
  injection e with e
  injection e with e
  injection e with e1 e2
  injection e1 with e1
  subst e1
  exact ⟨ys, h'⟩⟩
def spPen (K : PySem.W.Frag) : Sp := fun vs H Q _ => ∃ (a : Addr) (ns : List Int), vs = [.ref a] ∧ SqL K H a (ns.map V.int) ∧ ns.length ≤ 1000 ∧ ∀ H' p, Ext H H' → PenAt H' p 0 → Q (.ref p) H'
def spDrawL : Sp := fun vs H Q _ => ∃ (p : Addr) (m : Int) (n : Nat), vs = [.ref p, .int m] ∧ PenAt H p n ∧ 0 < m ∧ m < 1073741824 ∧ n ≤ 1048576 ∧ ∀ H' r, 0 ≤ r → r < m → ExtP p H H' → PenAt H' p (n + 1) → Q (.int r) H'
def spOf : Sp := fun vs H Q _ => ∃ (p l : Addr) (n : Nat) (ns : List Int), vs = [.ref p, .ref l] ∧ PenAt H p n ∧ H l = some (.lst (ns.map V.int)) ∧ 0 < ns.length ∧ ns.length ≤ 1000 ∧ n ≤ 1048576 ∧ ∀ H' x, x ∈ ns → ExtP p H H' → PenAt H' p (n + 1) → Q (.int x) H'
def spNumber : Sp := fun vs H Q _ => ∃ (p : Addr) (n : Nat), vs = [.ref p] ∧ PenAt H p n ∧ n ≤ 1048570 ∧ ∀ H' x, ExtP p H H' → PenAt H' p (n + 4) → Q (.int x) H'
theorem po61 {X : Cx} {p : Pos} : PO X (some (.Constant (.int 61) 0 p)) (tPart (tC (.int 61))) := po_some pe_int
section
variable {P : Program} {w : World} {K : PySem.W.Frag} {mg : Str → Option Value} {base : Heap} {f : Addr} {fd : FuncData}
theorem scPen : FnScope ["_law_script", "_law_cell"] ["_law_script"] (defScope sPen) := ⟨rfl, rfl, rfl, by decide +kernel, rfl, by decide +kernel, by decide +kernel⟩
theorem cut_ints (ns : List Int) (lo hi : Option Int) : ∃ cs : List Int, cutV (ns.map V.int) lo hi = cs.map V.int ∧ cs.length ≤ ns.length := by
  refine ⟨(ns.drop (HT.sIx (ns.map V.int).length 0 lo)).take (HT.sIx (ns.map V.int).length (ns.map V.int).length hi - HT.sIx (ns.map V.int).length 0 lo), ?_, ?_⟩
  · unfold cutV
    rw [List.map_take, List.map_drop]
  · rw [List.length_take, List.length_drop]
    omega
theorem ok_pen (F : FN K "_law_pen" sPen f fd) (T : Txt K mg) : FnOk P w K mg base CX0 1 f fd ["_law_script"] (spPen K) := by
  refine ok0 F scPen (fun vs H Q E h => ?_) (fun cdv A outer s H vs Q E hr h => ?_)
  · obtain ⟨a, ns, rfl, _⟩ := h
    rfl
  · obtain ⟨a, ns, rfl, ha, hz, q⟩ := h
    refine ⟨_, pss_one (ps_ret (pe_lst (pa_cons (pe_lc (own := [("_law_cell", 1)]) (g := gName 1) (tt := tYes) rfl scPen.nd (pi_list (pe_slice sl_list (pv 0) po_none (po_some pe_int)))
      (blkOk_by (N := ["_law_script", "_law_cell"]) (sc := defScope sPen) (by decide +kernel)) (fun _ _ _ _ _ => pg_name (i := 1) scPen.nd rfl (Or.inl rfl)) (fun _ _ _ _ _ => pts_nil) (fun _ _ _ _ _ => pe_callTy call_int1 (by rfl) T.int bInt (pa_cons (pv 1) pa_nil)))
      (pa_cons pe_int (pa_cons pe_int pa_nil))))), ?_⟩
    refine ⟨_, rfl, 61, rfl, a, _, rfl, ha, fun p np => ?_⟩
    obtain ⟨cs, ec, lc⟩ := cut_ints ns none (some 61)
    rw [ec]
    refine ⟨p, rfl, ⟨_, SqL.of upd_same⟩, fun D nD => ?_⟩
    refine lc_list (xs := cs.map V.int) (fun i H' => Ext (upd H p (.lst (cs.map V.int))) H' ∧ H' D = some (.lst ((cs.take i).map V.int))) ⟨Ext.new nD, upd_same⟩ (fun i H' _ e => SqL.of (e.1 _ _ upd_same)) (fun i x H' hi e => ?_) (fun H' e => ?_)
    · obtain ⟨n, hn, rfl⟩ := map_at hi
      refine ⟨rfl, _, rfl, .inl ⟨n, rfl, _, e.2, small48 (by rw [List.length_map, List.length_take]; omega), e.1.wr nD, ?_⟩⟩
      rw [upd_same, List.take_add_one, hn, List.map_append]
      rfl
    · refine ⟨by show 3 ≤ sizeLine; decide, fun q' nq => q _ q' (((Ext.new np).trans e.1).trans (Ext.new nq)) ⟨D, cs, 0, 0, upd_same, ?_, Int.le_refl _, Int.le_refl _⟩⟩
      rw [upd_ne (ne_of_none e.2 nq), e.2, List.length_map, List.take_length]
end
end K15

/-! K15L2: drawing. -/
namespace K15
open PySem PySem.Spec PyProof.Rows L2
theorem draw_end {H H1 : Hp} {p c : Addr} {cs : List Int} {n : Nat} {t r : Int} (h : H1 p = some (.lst [.ref c, .int t, .int r])) (hc : H c = some (.lst (cs.map V.int))) (hp : ∃ xs, H p = some (.lst (.ref c :: xs))) (e : ExtB p H H1) (t0 : 0 ≤ t) (t1 : t ≤ (n : Int)) : PenAt H1 p n := by
  refine ⟨c, cs, t, r, h, e _ _ ?_ hc, t0, t1⟩
  rintro rfl
  obtain ⟨xs, hp⟩ := hp
  rw [hc] at hp
  injection hp with hp
  injection hp with hp
  cases cs with
  | nil => cases hp
  | cons a r => cases hp
section
variable {P : Program} {w : World} {K : PySem.W.Frag} {mg : Str → Option Value} {base : Heap} {f : Addr} {fd : FuncData}
theorem scDrawL : FnScope ["_law_pen_here", "_law_many", "_law_rest", "_law_turn", "_law_cell", "_law_mixed"] ["_law_pen_here", "_law_many"] (defScope sDraw) := ⟨rfl, rfl, rfl, by decide +kernel, rfl, by decide +kernel, by decide +kernel⟩
theorem ok_draw (F : FN K "_law_draw" sDraw f fd) (T : Txt K mg) : FnOk P w K mg base CX0 1 f fd ["_law_pen_here", "_law_many"] spDrawL := by
  refine ok0 F scDrawL (fun vs H Q E h => ?_) (fun cdv A outer s H vs Q E hr h => ?_)
  · obtain ⟨p, m, n, rfl, _⟩ := h
    rfl
  · obtain ⟨p, m, n, rfl, ⟨c, cs, t, r, hp, hc, t0, t1⟩, m0, m1, hn, q⟩ := h
    refine ⟨_, pss_cons (ps_if (pt_cmpR op_gt (pe_ix ix_list (pv 0) pe_int (fun _ _ => rfl)) pe_int (nomark _))
        (pss_cons (ps_set (i := 2) scDrawL.nd rfl (Or.inl rfl) (pe_ix ix_list (pv 0) pe_int (fun _ _ => rfl))) <|
          pss_cons (ps_asg (pe_op op_fdiv (pe_callTy call_int1 (by rfl) T.int bInt (pa_cons (pv 2) pa_nil)) (pv 1)) (pg_sub (pv 0) pe_int set_list)) <|
            pss_one (ps_ret (pe_op op_mod (pe_callTy call_int1 (by rfl) T.int bInt (pa_cons (pv 2) pa_nil)) (pv 1)))) pss_nil) <|
      pss_cons (ps_set (i := 3) scDrawL.nd rfl (Or.inl rfl) (pe_ix ix_list (pv 0) pe_int (fun _ _ => rfl))) <|
      pss_cons (ps_asg (pe_op op_add (pv 3) pe_int) (pg_sub (pv 0) pe_int set_list)) <|
      pss_cons (ps_set (i := 4) scDrawL.nd rfl (Or.inl rfl) (pe_op op_add (pe_op op_mul pe_int (pv 3)) pe_int)) <|
      pss_cons (ps_if (pt_cmpR (op_neD hr.units) (pe_ix ix_list (pv 0) pe_int (fun _ _ => rfl)) (pe_lst pa_nil) (nomark _))
        (pss_one (ps_set (i := 4) scDrawL.nd rfl (Or.inl rfl) (pe_ix ix_list (pe_ix ix_list (pv 0) pe_int (fun _ _ => rfl)) (pe_op op_mod (pe_callTy call_int1 (by rfl) T.int bInt (pa_cons (pv 3) pa_nil)) (pe_callB call_len_seq (by rfl) T.len bLen (pa_cons (pe_ix ix_list (pv 0) pe_int (fun _ _ => rfl)) pa_nil))) (fun _ _ => rfl)))) pss_nil) <|
      pss_cons (ps_if (PW.pt (pw_and (pt_cmpR op_lt (pv 3) (pe_callB call_len_seq (by rfl) T.len bLen (pa_cons (pe_ix ix_list (pv 0) pe_int (fun _ _ => rfl)) pa_nil)) (nomark _)) (pw_and1 (pt_cmpR op_ge (pe_callB call_abs (by rfl) T.abs bAbs (pa_cons (pv 4) pa_nil)) (pe_op op_pow pe_int pe_int) (nomark _)))))
        (pss_cons (ps_set (i := 2) scDrawL.nd rfl (Or.inl rfl) (pe_op op_add (pe_op op_mul pe_int (pe_op op_sub (pe_callB call_abs (by rfl) T.abs bAbs (pa_cons (pv 4) pa_nil)) (pe_op op_pow pe_int pe_int))) (pe_callTy call_int1 (by rfl) T.int bInt (pa_cons (pe_cmpR op_lt (pv 4) pe_int (nomark _)) pa_nil)))) <|
          pss_cons (ps_asg (pe_op op_fdiv (pe_callTy call_int1 (by rfl) T.int bInt (pa_cons (pv 2) pa_nil)) (pv 1)) (pg_sub (pv 0) pe_int set_list)) <|
            pss_one (ps_ret (pe_op op_mod (pe_callTy call_int1 (by rfl) T.int bInt (pa_cons (pv 2) pa_nil)) (pv 1)))) pss_nil) <|
      pss_cons (ps_set (i := 5) scDrawL.nd rfl (Or.inl rfl) (pe_op op_mod (pe_callTy call_int1 (by rfl) T.int bInt (pa_cons (pe_op op_pow (pe_op op_add (pe_op op_add (pe_op op_mod (pe_callTy call_int1 (by rfl) T.int bInt (pa_cons (pv 4) pa_nil)) pe_int) (pe_op op_mul pe_int (pv 3))) pe_int) pe_int) pa_nil)) pe_int)) <|
      pss_cons (ps_set (i := 5) scDrawL.nd rfl (Or.inl rfl) (pe_op op_mod (pe_callTy call_int1 (by rfl) T.int bInt (pa_cons (pe_op op_pow (pe_op op_add (pe_op op_add (pe_op op_mul (pv 5) (pe_op op_add (pe_op op_mul pe_int (pv 3)) pe_int)) (pe_op op_mul (pe_op op_mul pe_int (pv 3)) (pv 3))) pe_int) pe_int) pa_nil)) pe_int)) <|
      pss_one (ps_ret (pe_op op_mod (pe_callTy call_int1 (by rfl) T.int bInt (pa_cons (pe_op op_fdiv (pv 5) pe_int) pa_nil)) (pv 1))), ?_⟩
    have hlp : ∃ xs, H p = some (.lst (.ref c :: xs)) := ⟨_, hp⟩
    have mpos : (0 : Int) < m := m0
    refine ⟨_, rfl, p, _, 2, .int r, rfl, rfl, SqL.of hp, rfl, _, _, rfl, rfl, _, rfl, ?_⟩
    by_cases hr0 : 0 < r
    · rw [decide_eq_true hr0]
      refine iteT ?_
      refine ⟨_, rfl, p, _, 2, .int r, rfl, rfl, SqL.of hp, rfl, ?_⟩
      refine ⟨_, rfl, .inl ⟨r, rfl, _, rfl, r, m, rfl, rfl, ⟨m0, m1⟩, ?_⟩⟩
      refine ⟨_, rfl, p, _, 2, 2, rfl, rfl, hp, rfl, ?_⟩
      refine ⟨_, rfl, .inl ⟨r, rfl, _, rfl, r, m, rfl, rfl, m0, ?_⟩⟩
      exact q _ _ (Int.emod_nonneg _ (by omega)) (Int.emod_lt_of_pos _ m0) (extP_of hp ExtB.upd upd_same) (draw_end (c := c) (t := t) (r := r / m) (by rw [upd_same]; rfl) hc hlp ExtB.upd t0 (by omega))
    · rw [decide_eq_false hr0]
      refine iteF ?_
      refine ⟨_, rfl, p, _, 1, .int t, rfl, rfl, SqL.of hp, rfl, ?_⟩
      refine ⟨_, rfl, t, 1, rfl, rfl, _, rfl, p, _, 1, 1, rfl, rfl, hp, rfl, ?_⟩
      have hp1 : upd H p (.lst (([.ref c, .int t, .int r] : List V).set 1 (.int (t + 1)))) p = some (.lst [.ref c, .int (t + 1), .int r]) := upd_same
      have b1 : ExtB p H (upd H p (.lst (([.ref c, .int t, .int r] : List V).set 1 (.int (t + 1))))) := ExtB.upd
      generalize upd H p (.lst (([.ref c, .int t, .int r] : List V).set 1 (.int (t + 1)))) = H1 at hp1 b1
      have ncp : c ≠ p := by
        rintro rfl
        rw [hc] at hp
        injection hp with hp
        injection hp with hp
        cases cs with
        | nil => cases hp
        | cons a r => cases hp
      have hc1 : H1 c = some (.lst (cs.map V.int)) := b1 _ _ ncp hc
      refine ⟨_, rfl, 61043, t, rfl, rfl, .inl ⟨by decide, by decide⟩, _, _, rfl, rfl, ?_⟩
      refine ⟨_, rfl, p, _, 0, .ref c, rfl, rfl, SqL.of hp1, rfl, by show 0 ≤ sizeLine; decide, fun e ne => ?_⟩
      have e2 : Ext H1 (upd H1 e (.lst [])) := Ext.new ne
      refine ⟨.list (cs.map PyData.int), .list [], .lst (SqL.of (e2 _ _ hc1)) (dp_ints cs), .lst (SqL.of upd_same) .nil, shaped_ints cs, shaped_nil, _, rfl, ?_⟩
      have hp2 := e2 _ _ hp1
      have hc2 := e2 _ _ hc1
      have b2 := b1.thn e2
      generalize upd H1 e (.lst []) = H2 at hp2 hc2 b2 e2
      have fin : PenAt H2 p (n + 1) := draw_end (c := c) hp2 hc hlp b2 (by omega) (by omega)
      rw [eqv_nil]
      by_cases hcs : cs = []
      case' pos =>
        rw [show (!(cs.map PyData.int).isEmpty) = false by simp [hcs]]
        refine iteF ?_
        dsimp only
        generalize 61043 * t + 4241 = cell
      case' neg =>
        rw [show (!(cs.map PyData.int).isEmpty) = true by simp [hcs]]
        have lp : 0 < cs.length := List.length_pos_iff.mpr hcs
        have hj : (t % (cs.length : Int)).toNat < cs.length := by
          have := Int.emod_nonneg t (b := (cs.length : Int)) (by omega)
          have := Int.emod_lt_of_pos t (b := (cs.length : Int)) (by omega)
          omega
        have hat : atI (cs.map V.int) (t % ((cs.map V.int).length : Int)) = some (.int (cs[(t % (cs.length : Int)).toNat])) := by
          rw [List.length_map]
          have e : t % (cs.length : Int) = ((t % (cs.length : Int)).toNat : Int) := by
            have := Int.emod_nonneg t (b := (cs.length : Int)) (by omega)
            omega
          have z := atI_nat (xs := cs.map V.int) (j := (t % (cs.length : Int)).toNat) (v := .int (cs[(t % (cs.length : Int)).toNat])) (by
            rw [List.getElem?_map, List.getElem?_eq_getElem hj]
            rfl)
          rw [← e] at z
          exact z
        refine iteT ⟨_, rfl, p, _, 0, .ref c, rfl, rfl, SqL.of hp2, rfl, _, rfl, .inl ⟨t, rfl, _, rfl, p, _, 0, .ref c, rfl, rfl, SqL.of hp2, rfl, c, _, rfl, .inl (SqL.of hc2), t, _, rfl, rfl, ?_, c, _, _, _, rfl, rfl, SqL.of hc2, hat, ?_⟩⟩
        · rw [List.length_map]
          omega
        generalize cs[(t % (cs.length : Int)).toNat] = cell
      all_goals
        refine ⟨_, rfl, _, rfl, p, _, 0, .ref c, rfl, rfl, SqL.of hp2, rfl, c, _, rfl, .inl (SqL.of hc2), _, _, rfl, rfl, _, rfl, ?_⟩
        by_cases h1 : t < ((cs.map V.int).length : Int)
        case' neg =>
          rw [decide_eq_false h1]
          refine iteF (iteF ?_)
        case' pos =>
          rw [decide_eq_true h1]
          refine iteT ⟨_, rfl, cell, rfl, 10, 18, rfl, rfl, ⟨by decide, by decide, by decide⟩, _, _, rfl, rfl, _, rfl, ?_⟩
          by_cases h2 : (10 : Int) ^ (18 : Int).toNat ≤ (if cell < 0 then -cell else cell)
          case' pos =>
            rw [decide_eq_true h2]
            refine iteT ⟨_, rfl, cell, rfl, 10, 18, rfl, rfl, ⟨by decide, by decide, by decide⟩, _, _, rfl, rfl, 2, _, rfl, rfl, .inl ⟨by decide, by decide⟩, _, rfl, _, _, rfl, rfl, .inr ⟨_, rfl, _, _, rfl, rfl, ?_⟩⟩
            refine ⟨_, rfl, .inl ⟨_, rfl, _, rfl, _, m, rfl, rfl, ⟨m0, m1⟩, ?_⟩⟩
            refine ⟨_, rfl, p, _, 2, 2, rfl, rfl, hp2, rfl, ?_⟩
            refine ⟨_, rfl, .inl ⟨_, rfl, _, rfl, _, m, rfl, rfl, m0, ?_⟩⟩
            exact q _ _ (Int.emod_nonneg _ (by omega)) (Int.emod_lt_of_pos _ m0) (extP_of hp (b2.trans ExtB.upd) upd_same) (draw_end (c := c) (t := t + 1) (by rw [upd_same]; rfl) hc hlp (b2.trans ExtB.upd) (by omega) (by omega))
          case' neg =>
            rw [decide_eq_false h2]
            refine iteF ?_
        all_goals
          have g0 := Int.emod_nonneg cell (b := 2147483549) (by decide)
          have g1 := Int.emod_lt_of_pos cell (b := 2147483549) (by decide)
          refine ⟨_, rfl, .inl ⟨cell, rfl, cell, 2147483549, rfl, rfl, (show (0 : Int) < 2147483549 by decide), _, rfl, 73039, t, rfl, rfl, .inl ⟨by decide, by decide⟩, _, _, rfl, rfl, _, _, rfl, rfl, _, 5, rfl, rfl, ⟨by decide, by decide, ?_⟩, .inl ⟨_, rfl, _, 2147483579, rfl, rfl, (show (0 : Int) < 2147483579 by decide), ?_⟩⟩⟩
          · show _ < 18446744073709551616
            omega
          have k0 := Int.emod_nonneg ((cell % 2147483549 + 73039 * t + 4241) ^ (5 : Int).toNat) (b := 2147483579) (by decide)
          have k1 := Int.emod_lt_of_pos ((cell % 2147483549 + 73039 * t + 4241) ^ (5 : Int).toNat) (b := 2147483579) (by decide)
          dsimp only
          generalize (cell % 2147483549 + 73039 * t + 4241) ^ (5 : Int).toNat % 2147483579 = mx at k0 k1
          refine ⟨_, rfl, _, rfl, 2, t, rfl, rfl, .inl ⟨by decide, by decide⟩, _, _, rfl, rfl, mx, _, rfl, rfl, .inl ⟨by omega, by omega⟩, _, rfl, 61043, t, rfl, rfl, .inl ⟨by decide, by decide⟩, _, rfl, _, t, rfl, rfl, .inl ⟨by omega, by omega⟩, _, _, rfl, rfl, _, _, rfl, rfl, _, 3, rfl, rfl, ⟨by decide, by decide, ?_⟩, .inl ⟨_, rfl, _, 2147483629, rfl, rfl, (show (0 : Int) < 2147483629 by decide), ?_⟩⟩
          · show _ < 18446744073709551616
            have a1 : mx * (2 * t + 2237) ≤ 2147483579 * 2099389 := Int.mul_le_mul (by omega) (by omega) (by omega) (by omega)
            have a2 : 0 ≤ mx * (2 * t + 2237) := Int.mul_nonneg k0 (by omega)
            have a3 : 61043 * t * t ≤ 64008224768 * 1048576 := Int.mul_le_mul (by omega) (by omega) (by omega) (by omega)
            have a4 : 0 ≤ 61043 * t * t := Int.mul_nonneg (by omega) (by omega)
            generalize mx * (2 * t + 2237) = u1 at a1 a2
            generalize 61043 * t * t = u2 at a3 a4
            omega
          refine ⟨_, rfl, _, 64, rfl, rfl, ⟨by decide, by decide⟩, .inl ⟨_, rfl, _, rfl, _, m, rfl, rfl, m0, ?_⟩⟩
          exact q _ _ (Int.emod_nonneg _ (by omega)) (Int.emod_lt_of_pos _ m0) (extP_of hp b2 hp2) fin
end
end K15

/-! K15L3: drawn rules, made rules, rules told. -/
namespace K15
open PySem PySem.Spec PyProof.Rows L2
theorem at_ints {ns : List Int} {r : Int} (h0 : 0 ≤ r) (h1 : r < (ns.length : Int)) : ∃ x, x ∈ ns ∧ atI (ns.map V.int) r = some (.int x) := by
  have hj : r.toNat < ns.length := by omega
  refine ⟨ns[r.toNat], List.getElem_mem hj, ?_⟩
  have z := atI_nat (xs := ns.map V.int) (j := r.toNat) (v := .int ns[r.toNat]) (by rw [List.getElem?_map, List.getElem?_eq_getElem hj]; rfl)
  rw [Int.toNat_of_nonneg h0] at z
  exact z
/-! ### plain rules: tuples -/
def tpl (r : Rl) : List V := [.int r.len, oV r.lo, oV r.hi]
def TupsAt (H : Hp) (prs : List PR) : Prop := ∀ p ∈ prs, H p.1 = some (.tup (tpl p.2))
theorem TupsAt.ext {H H' : Hp} {prs : List PR} (h : TupsAt H prs) (e : Ext H H') : TupsAt H' prs := fun p hp => e _ _ (h p hp)
def RlsAt (H : Hp) (l : Addr) (rs : List Rl) : Prop := ∃ prs : List PR, H l = some (.lst (refs prs)) ∧ TupsAt H prs ∧ prs.map (·.2) = rs
theorem RlsAt.ext {H H' : Hp} {l : Addr} {rs : List Rl} (h : RlsAt H l rs) (e : Ext H H') : RlsAt H' l rs := by
  obtain ⟨prs, h1, h2, h3⟩ := h
  exact ⟨prs, e _ _ h1, h2.ext e, h3⟩
theorem tpl_at0 (r : Rl) : atI (tpl r) 0 = some (.int r.len) := rfl
theorem tpl_at1 (r : Rl) : atI (tpl r) 1 = some (oV r.lo) := rfl
theorem tpl_at2 (r : Rl) : atI (tpl r) 2 = some (oV r.hi) := rfl
def spRuleD : Sp := fun vs H Q _ => ∃ (p l : Addr) (n : Nat) (ns : List Int), vs = [.ref p, .ref l] ∧ PenAt H p n ∧ H l = some (.lst (ns.map V.int)) ∧ 0 < ns.length ∧ ns.length ≤ 1000 ∧ (∀ x ∈ ns, 1 ≤ x ∧ x ≤ 48) ∧ n ≤ 1048000 ∧
  ∀ H' t r, Rl.Ok r → ExtP p H H' → PenAt H' p (n + 8) → H' t = some (.tup (tpl r)) → Q (.ref t) H'
def spMade (K : PySem.W.Frag) : Sp := fun vs H Q _ => ∃ (l : Addr) (rs : List Rl), vs = [.ref l] ∧ RlsAt H l rs ∧ (∀ r ∈ rs, r.Ok) ∧ rs.length ≤ 1000 ∧ ∀ H' D prs, Ext H H' → H' D = some (.lst (refs prs)) → RulesAt K H' prs → prs.map (·.2) = rs → Q (.ref D) H'
def spPlain (K : PySem.W.Frag) : Sp := fun vs H Q _ => ∃ (b : Addr) (d : Nat) (rs : List Rl), vs = [.ref b] ∧ BookAt K H b d rs ∧ rs.length ≤ 1000 ∧ ∀ H' D, Ext H H' → RlsAt H' D rs → Q (.ref D) H'
section
variable {P : Program} {w : World} {K : PySem.W.Frag} {mg : Str → Option Value} {base : Heap} {f : Addr} {fd : FuncData}
abbrev CDraw (P : Program) (w : World) (K : PySem.W.Frag) (mg : Str → Option Value) (base : Heap) : Prop := Cal P w K mg base CX0 1 "_law_draw" ["_law_pen_here", "_law_many"] spDrawL
theorem scOf : FnScope ["_law_pen_here", "_law_some"] ["_law_pen_here", "_law_some"] (defScope sOf) := ⟨rfl, rfl, rfl, by decide +kernel, rfl, by decide +kernel, by decide +kernel⟩
theorem ok_of (F : FN K "_law_of" sOf f fd) (T : Txt K mg) (c : CDraw P w K mg base) : FnOk P w K mg base CX0 2 f fd ["_law_pen_here", "_law_some"] spOf := by
  refine ok0 F scOf (fun vs H Q E h => ?_) (fun cdv A outer s H vs Q E hr h => ?_)
  · obtain ⟨p, l, n, ns, rfl, _⟩ := h
    rfl
  · obtain ⟨p, l, n, ns, rfl, hp, hl, z0, z1, hn, q⟩ := h
    refine ⟨_, pss_one (ps_ret (pe_ix ix_list (pv 1) (pe_cal c hr rfl pass0 (pa_cons (pv 0) (pa_cons (pe_callB call_len_seq (by rfl) T.len bLen (pa_cons (pv 1) pa_nil)) pa_nil))) (fun _ _ => rfl))), ?_⟩
    refine ⟨_, rfl, _, rfl, _, rfl, l, _, rfl, .inl (SqL.of hl), p, _, n, rfl, hp, ?_, ?_, hn, fun H' r r0 r1 e h' => ?_⟩
    · rw [List.length_map]
      omega
    · rw [List.length_map]
      omega
    · rw [List.length_map] at r1
      obtain ⟨x, hx, e1⟩ := at_ints r0 r1
      exact ⟨l, _, r, _, rfl, rfl, SqL.of (e.b _ _ (hp.ne hl) hl), e1, q _ _ hx e h'⟩
theorem scNumber : FnScope ["_law_pen_here", "_law_way"] ["_law_pen_here"] (defScope sNumber) := ⟨rfl, rfl, rfl, by decide +kernel, rfl, by decide +kernel, by decide +kernel⟩
theorem ok_number (F : FN K "_law_number" sNumber f fd) (c : CDraw P w K mg base) : FnOk P w K mg base CX0 2 f fd ["_law_pen_here"] spNumber := by
  refine ok0 F scNumber (fun vs H Q E h => ?_) (fun cdv A outer s H vs Q E hr h => ?_)
  · obtain ⟨p, n, rfl, _⟩ := h
    rfl
  · obtain ⟨p, n, rfl, hp, hn, q⟩ := h
    refine ⟨_, pss_cons (ps_set (i := 1) scNumber.nd rfl (Or.inl rfl) (pe_cal c hr rfl pass0 (pa_cons (pv 0) (pa_cons pe_int pa_nil)))) <|
      pss_cons (ps_if (pt_cmpR op_lt (pv 1) pe_int (nomark _)) (pss_one (ps_ret (pe_op op_sub (pe_cal c hr rfl pass0 (pa_cons (pv 0) (pa_cons pe_int pa_nil))) pe_int))) pss_nil) <|
      pss_cons (ps_if (pt_cmpR op_lt (pv 1) pe_int (nomark _)) (pss_one (ps_ret (pe_op op_sub (pe_cal c hr rfl pass0 (pa_cons (pv 0) (pa_cons pe_int pa_nil))) pe_int))) pss_nil) <|
      pss_one (ps_ret (pe_op op_mul (pe_op op_sub pe_int (pe_op op_mul pe_int (pe_cal c hr rfl pass0 (pa_cons (pv 0) (pa_cons pe_int pa_nil))))) (pe_op op_add (pe_op op_pow pe_int pe_int) (pe_cal c hr rfl pass0 (pa_cons (pv 0) (pa_cons pe_int pa_nil)))))), ?_⟩
    refine ⟨_, rfl, p, 12, n, rfl, hp, by decide, by decide, by omega, fun H1 r r0 r1 e1 p1 => ?_⟩
    refine ⟨_, rfl, _, _, rfl, rfl, _, rfl, ite2 (fun _ => ?_) fun _ => ?_⟩
    · exact ⟨_, rfl, p, 9, n + 1, rfl, p1, by decide, by decide, by omega, fun H2 x _ _ e2 p2 => ⟨x, 4, rfl, rfl, q _ _ (e1.trans e2) (p2.mono (by omega))⟩⟩
    refine ⟨_, rfl, _, _, rfl, rfl, _, rfl, ite2 (fun _ => ?_) fun _ => ?_⟩
    · exact ⟨_, rfl, p, 1999, n + 1, rfl, p1, by decide, by decide, by omega, fun H2 x _ _ e2 p2 => ⟨x, 999, rfl, rfl, q _ _ (e1.trans e2) (p2.mono (by omega))⟩⟩
    refine ⟨_, rfl, p, 2, n + 1, rfl, p1, by decide, by decide, by omega, fun H2 x x0 x1 e2 p2 => ⟨2, x, rfl, rfl, .inl ⟨by decide, by decide⟩, 1, _, rfl, rfl, 10, 24, rfl, rfl, ⟨by decide, by decide, by decide⟩, _, rfl, p, 1000003, n + 2, rfl, p2, by decide, by decide, by omega, fun H3 y _ _ e3 p3 => ?_⟩⟩
    exact ⟨_, y, rfl, rfl, _, _, rfl, rfl, .inl ⟨by omega, by omega⟩, q _ _ ((e1.trans e2).trans e3) (p3.mono (by omega))⟩
end
end K15

/-! K15L4: drawn rules, made rules, rules told. -/
namespace K15
open PySem PySem.Spec PyProof.Rows L2
theorem gTri {K : PySem.W.Frag} {i j k : Nat} {T : Addr} {x y z : V} {σ : L2.St} {H : Hp} {Q : L2.St → Hp → Prop} (h : SqT K H T [x, y, z]) (q : Q (((σ.set i (some x)).set j (some y)).set k (some z)) H) : gTup K 3 (gCons (gName i) (gCons (gName j) (gCons (gName k) gNil))) (.ref T) σ H Q :=
  ⟨T, [x, y, z], rfl, h, rfl, x, [y, z], rfl, y, [z], rfl, z, [], rfl, rfl, q⟩
section
variable {P : Program} {w : World} {K : PySem.W.Frag} {mg : Str → Option Value} {base : Heap} {f : Addr} {fd : FuncData}
theorem scRuleD : FnScope ["_law_pen_here", "_law_lengths", "_law_length", "_law_way", "_law_low"] ["_law_pen_here", "_law_lengths"] (defScope sRuleD) := ⟨rfl, rfl, rfl, by decide +kernel, rfl, by decide +kernel, by decide +kernel⟩
theorem ok_ruleD (F : FN K "_law_rule" sRuleD f fd) (c : CDraw P w K mg base) (c1 : Cal P w K mg base CX0 2 "_law_of" ["_law_pen_here", "_law_some"] spOf) (c2 : Cal P w K mg base CX0 2 "_law_number" ["_law_pen_here"] spNumber) : FnOk P w K mg base CX0 3 f fd ["_law_pen_here", "_law_lengths"] spRuleD := by
  refine ok0 F scRuleD (fun vs H Q E h => ?_) (fun cdv A outer s H vs Q E hr h => ?_)
  · obtain ⟨p, l, n, ns, rfl, _⟩ := h
    rfl
  · obtain ⟨p, l, n, ns, rfl, hp, hl, z0, z1, hb, hn, q⟩ := h
    have hr1 := hr.mono (show 1 ≤ 2 by decide)
    refine ⟨_, pss_cons (ps_par3 (i := 2) (j := 3) (l := 4) rfl scRuleD.nd rfl rfl rfl (by decide) (by decide) (by decide) rfl rfl rfl (pa_cons (pe_cal c1 hr rfl pass0 (pa_cons (pv 0) (pa_cons (pv 1) pa_nil))) (pa_cons (pe_cal c hr1 rfl pass0 (pa_cons (pv 0) (pa_cons pe_int pa_nil))) (pa_cons (pe_cal c2 hr rfl pass0 (pa_cons (pv 0) pa_nil)) pa_nil))) (by rfl)) <|
      pss_cons (ps_if (pt_cmpR op_lt (pv 3) pe_int (nomark _)) (pss_one (ps_ret (pe_ifExp (pt_cmpR op_eq (pv 3) pe_int (nomark _)) (pe_tup (pa_cons (pv 2) (pa_cons (pv 4) (pa_cons pe_non pa_nil)))) (pe_tup (pa_cons (pv 2) (pa_cons pe_non (pa_cons (pv 4) pa_nil))))))) pss_nil) <|
      pss_cons (ps_if (pt_cmpR op_lt (pv 3) pe_int (nomark _)) (pss_one (ps_ret (pe_tup (pa_cons (pv 2) (pa_cons (pe_un un_neg (pe_cal c hr1 rfl pass0 (pa_cons (pv 0) (pa_cons pe_int pa_nil)))) (pa_cons (pe_cal c hr1 rfl pass0 (pa_cons (pv 0) (pa_cons pe_int pa_nil))) pa_nil)))))) pss_nil) <|
      pss_one (ps_ret (pe_tup (pa_cons (pv 2) (pa_cons (pv 4) (pa_cons (pe_op op_add (pv 4) (pe_cal c hr1 rfl pass0 (pa_cons (pv 0) (pa_cons pe_int pa_nil)))) pa_nil))))), ?_⟩
    refine ⟨_, rfl, _, rfl, p, l, n, ns, rfl, hp, hl, z0, z1, by omega, fun H1 x hx e1 p1 => ?_⟩
    refine ⟨_, rfl, p, 7, n + 1, rfl, p1, by decide, by decide, by omega, fun H2 y y0 y1 e2 p2 => ?_⟩
    refine ⟨_, rfl, p, n + 2, rfl, p2, by omega, fun H3 lo e3 p3 => ⟨_, _, _, rfl, ?_⟩⟩
    have e4 := (e1.trans e2).trans e3
    obtain ⟨b1, b2⟩ := hb x hx
    refine ⟨_, rfl, _, _, rfl, rfl, _, rfl, ite2 (fun _ => ?_) fun _ => ?_⟩
    · refine ⟨_, rfl, rfl, _, rfl, ite2 (fun _ => ?_) fun _ => ?_⟩
      · exact ⟨_, rfl, _, rfl, by show 3 ≤ sizeLine; decide, fun t nt => q _ t ⟨x, some lo, none⟩ ⟨b1, b2, rfl⟩ (e4.thn (Ext.new nt)) ((p3.ext (Ext.new nt)).mono (by omega)) upd_same⟩
      · exact ⟨_, rfl, _, rfl, by show 3 ≤ sizeLine; decide, fun t nt => q _ t ⟨x, none, some lo⟩ ⟨b1, b2, rfl⟩ (e4.thn (Ext.new nt)) ((p3.ext (Ext.new nt)).mono (by omega)) upd_same⟩
    refine ⟨_, rfl, _, _, rfl, rfl, _, rfl, ite2 (fun _ => ?_) fun _ => ?_⟩
    · refine ⟨_, rfl, _, rfl, p, 5, n + 6, rfl, p3, by decide, by decide, by omega, fun H5 a a0 a1 e5 p5 => ⟨a, rfl, _, rfl, p, 5, n + 7, rfl, p5, by decide, by decide, by omega, fun H6 b c0 c1 e6 p6 => ⟨by show 3 ≤ sizeLine; decide, fun t nt => ?_⟩⟩⟩
      exact q _ t ⟨x, some (-a), some b⟩ ⟨b1, b2, decide_eq_true (by show -a ≤ b; omega)⟩ (((e4.trans e5).trans e6).thn (Ext.new nt)) ((p6.ext (Ext.new nt)).mono (by omega)) upd_same
    · refine ⟨_, rfl, _, rfl, _, rfl, _, rfl, p, 12, n + 6, rfl, p3, by decide, by decide, by omega, fun H5 a a0 a1 e5 p5 => ⟨_, _, rfl, rfl, by show 3 ≤ sizeLine; decide, fun t nt => ?_⟩⟩
      exact q _ t ⟨x, some lo, some (lo + a)⟩ ⟨b1, b2, decide_eq_true (by show lo ≤ lo + a; omega)⟩ ((e4.trans e5).thn (Ext.new nt)) ((p5.ext (Ext.new nt)).mono (by omega)) upd_same
theorem scMade : FnScope ["_law_rules", "_law_length", "_law_low", "_law_high"] ["_law_rules"] (defScope sMade) := ⟨rfl, rfl, rfl, by decide +kernel, rfl, by decide +kernel, by decide +kernel⟩
theorem ok_made (F : FN K "_law_made" sMade f fd) (T : Txt K mg) (c : CalC P w K mg base CX0 4 (cR K) "Rule" ["self", "length", "low", "high"] (spRuleI K)) : FnOk P w K mg base CX0 6 f fd ["_law_rules"] (spMade K) := by
  refine ok0 F scMade (fun vs H Q E h => ?_) (fun cdv A outer s H vs Q E hr h => ?_)
  · obtain ⟨l, rs, rfl, _⟩ := h
    rfl
  · obtain ⟨l, rs, rfl, ⟨prs, hl, ht, ers⟩, hok, hz, q⟩ := h
    have hlen : prs.length ≤ 1000 := by rw [← ers, List.length_map] at hz; exact hz
    refine ⟨_, pss_one (ps_ret (pe_lc (own := [("_law_length", 1), ("_law_low", 2), ("_law_high", 3)]) (g := gTup K 3 (gCons (gName 1) (gCons (gName 2) (gCons (gName 3) gNil)))) (tt := tYes) (te := tMake (cR K) (spRuleI K) [] E0 (tCons (tVar 1) (tCons (tVar 2) (tCons (tVar 3) tNil)))) rfl scMade.nd (pi_list (pv 0))
      (blkOk_by (N := ["_law_rules", "_law_length", "_law_low", "_law_high"]) (sc := defScope sMade) (by decide +kernel)) (fun _ _ _ _ _ => pg_tup rfl (pgs_cons (pg_name (i := 1) scMade.nd rfl (Or.inl rfl)) (pgs_cons (pg_name (i := 2) scMade.nd rfl (Or.inl rfl)) (pgs_cons (pg_name (i := 3) scMade.nd rfl (Or.inl rfl)) pgs_nil))))
      (fun _ _ _ _ _ => pts_nil) (fun _ _ _ _ _ => pe_calC c (hr.mono (by decide)) rfl pass0 (pa_cons (pv 1) (pa_cons (pv 2) (pa_cons (pv 3) pa_nil)))))), ?_⟩
    refine ⟨_, rfl, l, rfl, ⟨_, SqL.of hl⟩, fun D nD => ?_⟩
    refine lc_list (xs := refs prs) (fun i H' => Ext H H' ∧ ∃ made : List PR, H' D = some (.lst (refs made)) ∧ RulesAt K H' made ∧ made.map (·.2) = (prs.take i).map (·.2))
      ⟨Ext.new nD, [], upd_same, (fun _ h => absurd h List.not_mem_nil), rfl⟩ (fun i H' _ e => SqL.of (e.1 _ _ hl)) (fun i x H' hi e => ?_) (fun H' e => ?_)
    · obtain ⟨p, hp, rfl⟩ := refs_at hi
      obtain ⟨e3, made, hD3, hm, em⟩ := e
      have il : i < prs.length := (List.getElem?_eq_some_iff.mp hp).1
      have hmem := List.mem_of_getElem? hp
      refine gTri (SqT.of (e3 _ _ (ht p hmem))) ⟨rfl, _, rfl, _, rfl, _, rfl, fun x dx nx ndx nex => ?_⟩
      refine ⟨x, dx, p.2, rfl, upd_same, hok _ (by rw [← ers]; exact List.mem_map.mpr ⟨p, hmem, rfl⟩), fun H5 e5 hy => ⟨rfl, ?_⟩⟩
      have e6 : Ext H' H5 := ExtB.made nx ndx e5
      have hlm : made.length = i := by
        have z := congrArg List.length em
        rw [List.length_map, List.length_map, List.length_take] at z
        omega
      refine ⟨_, e6 _ _ hD3, small48 (by rw [refs_len]; omega), (e3.trans e6).wr nD, made ++ [(x, p.2)], ?_, ?_, ?_⟩
      · rw [upd_same]
        show some (HO.lst (refs made ++ [V.ref x])) = some (HO.lst (refs (made ++ [(x, p.2)])))
        unfold refs
        rw [List.map_append]
        rfl
      · intro z hz'
        have nD5 : H5 D = some (.lst (refs made)) := e6 _ _ hD3
        have at5 : RuleAt K H5 z.1 z.2 := by
          rcases List.mem_append.mp hz' with h | h
          · exact (hm z h).ext e6
          · rw [List.mem_singleton.mp h]
            exact hy
        obtain ⟨dz, hdz⟩ := at5
        exact ⟨dz, by rw [upd_ne (ne_of hdz nD5 (by intro z; cases z))]; exact hdz⟩
      · rw [List.map_append, em, List.take_add_one, hp, List.map_append]
        rfl
    · obtain ⟨e3, made, hD3, hm, em⟩ := e
      refine q _ D made e3 hD3 hm ?_
      rw [em, refs_len, List.take_length, ers]
theorem scPlain : FnScope ["_law_book", "_law_rule_here"] ["_law_book"] (defScope sPlain) := ⟨rfl, rfl, rfl, by decide +kernel, rfl, by decide +kernel, by decide +kernel⟩
theorem ok_plain (F : FN K "_law_plain" sPlain f fd) (T : Txt K mg) : FnOk P w K mg base CX0 1 f fd ["_law_book"] (spPlain K) := by
  refine ok0 F scPlain (fun vs H Q E h => ?_) (fun cdv A outer s H vs Q E hr h => ?_)
  · obtain ⟨b, d, rs, rfl, _⟩ := h
    rfl
  · obtain ⟨b, d, rs, rfl, ⟨dx, t, prs, hb, ht, hR, ers⟩, hz, q⟩ := h
    have hlen : prs.length ≤ 1000 := by rw [← ers, List.length_map] at hz; exact hz
    refine ⟨_, pss_one (ps_ret (pe_lc (own := [("_law_rule_here", 1)]) (g := gName 1) (tt := tYes) (te := tTup (tCons (tFld K (tVar 1) "length") (tCons (tFld K (tVar 1) "low") (tCons (tFld K (tVar 1) "high") tNil)))) rfl scPlain.nd (pi_tup (pe_fld (pv 0) rfl))
      (blkOk_by (N := ["_law_book", "_law_rule_here"]) (sc := defScope sPlain) (by decide +kernel)) (fun _ _ _ _ _ => pg_name (i := 1) scPlain.nd rfl (Or.inl rfl))
      (fun _ _ _ _ _ => pts_nil) (fun _ _ _ _ _ => pe_tup (pa_cons (pe_fld (pv 1) rfl) (pa_cons (pe_fld (pv 1) rfl) (pa_cons (pe_fld (pv 1) rfl) pa_nil)))))), ?_⟩
    refine ⟨_, rfl, b, cB K, dx, _, _, rfl, hb, T.iB.cl, T.bRules, bk_rules d t, t, rfl, ⟨_, SqT.of ht⟩, fun D nD => ?_⟩
    refine lc_tup (xs := refs prs) (fun i H' => Ext H H' ∧ ∃ made : List PR, H' D = some (.lst (refs made)) ∧ TupsAt H' made ∧ made.map (·.2) = (prs.take i).map (·.2))
      ⟨Ext.new nD, [], upd_same, (fun _ h => absurd h List.not_mem_nil), rfl⟩ (fun i H' _ e => SqT.of (e.1 _ _ ht)) (fun i x H' hi e => ?_) (fun H' e => ?_)
    · obtain ⟨p, hp, rfl⟩ := refs_at hi
      obtain ⟨e3, made, hD3, hm, em⟩ := e
      have il : i < prs.length := (List.getElem?_eq_some_iff.mp hp).1
      have hmem := List.mem_of_getElem? hp
      obtain ⟨dp, hdp⟩ := (hR p hmem).ext e3
      have hlm : made.length = i := by
        have z := congrArg List.length em
        rw [List.length_map, List.length_map, List.length_take] at z
        omega
      refine ⟨rfl, _, rfl, p.1, cR K, dp, _, _, rfl, hdp, T.iR.cl, T.rLength, rl_len p.2, _, rfl, p.1, cR K, dp, _, _, rfl, hdp, T.iR.cl, T.rLow, rl_low p.2, _, rfl, p.1, cR K, dp, _, _, rfl, hdp, T.iR.cl, T.rHigh, rl_high p.2, by show 3 ≤ sizeLine; decide, fun x nx => ?_⟩
      have e6 : Ext H' (upd H' x (.tup [.int p.2.len, oV p.2.lo, oV p.2.hi])) := Ext.new nx
      refine ⟨_, e6 _ _ hD3, small48 (by rw [refs_len]; omega), (e3.trans e6).wr nD, made ++ [(x, p.2)], ?_, ?_, ?_⟩
      · rw [upd_same]
        show some (HO.lst (refs made ++ [V.ref x])) = some (HO.lst (refs (made ++ [(x, p.2)])))
        unfold refs
        rw [List.map_append]
        rfl
      · intro z hz'
        have nD5 := e6 _ _ hD3
        have at5 : upd H' x (.tup [.int p.2.len, oV p.2.lo, oV p.2.hi]) z.1 = some (.tup (tpl z.2)) := by
          rcases List.mem_append.mp hz' with h | h
          · exact e6 _ _ (hm z h)
          · rw [List.mem_singleton.mp h]
            exact upd_same
        rw [upd_ne (ne_of at5 nD5 (by intro z; cases z))]
        exact at5
      · rw [List.map_append, em, List.take_add_one, hp, List.map_append]
        rfl
    · obtain ⟨e3, made, hD3, hm, em⟩ := e
      refine q _ D e3 ⟨made, hD3, hm, ?_⟩
      rw [em, refs_len, List.take_length, ers]
end
end K15

/-! K15L5: the pair that is due, the rules that are due. -/
namespace K15
open PySem PySem.Spec PyProof.Rows L2
def spPairL : Sp := fun vs H Q _ => ∃ (l : Addr) (d : Nat) (rs : List Rl), vs = [.int (d : Int), .ref l] ∧ RlsAt H l rs ∧ (NoHit (d : Int) rs → ∀ H', Ext H H' → Q .non H') ∧
  ∀ i j : Nat, First (d : Int) rs i j → ∀ H' t, Ext H H' → H' t = some (.tup [.int (i : Int), .int (j : Int)]) → Q (.ref t) H'
def spDue : Sp := fun vs H Q _ => ∃ (l : Addr) (d : Nat) (rs : List Rl), vs = [.int (d : Int), .ref l] ∧ RlsAt H l rs ∧ rs.length ≤ 900 ∧ d ≤ 900 ∧ ∀ H' D, Ext H H' → RlsAt H' D (due d rs) → Q (.ref D) H'
theorem neNil {K : PySem.W.Frag} {l : Addr} {ns : List Int} {σ : L2.St} {H : Hp} {Q : VK} (h : H l = some (.lst (ns.map V.int))) (q : ∀ H', Ext H H' → Q (.bl (!ns.isEmpty)) H') : tLst tNil σ H fun y H2 => rNeD K (.ref l) y H2 Q := by
  refine ⟨by show 0 ≤ sizeLine; decide, fun e ne => ?_⟩
  refine ⟨.list (ns.map PyData.int), .list [], .lst (SqL.of ((Ext.new ne) _ _ h)) (dp_ints ns), .lst (SqL.of upd_same) .nil, shaped_ints ns, shaped_nil, ?_⟩
  rw [eqv_nil, show (ns.map PyData.int).isEmpty = ns.isEmpty by cases ns <;> rfl]
  exact q _ (Ext.new ne)
theorem selLo (l : Int) : ∀ prs : List PR, (prs.filterMap fun p => if p.2.len = l then p.2.lo.map V.int else none) = (lows (prs.map (·.2)) l).map V.int
  | [] => rfl
  | p :: r => by
    have ih := selLo l r
    unfold lows atLen at ih ⊢
    rw [List.filterMap_cons, List.map_cons, List.filter_cons]
    by_cases h : p.2.len = l
    · simp only [h, if_true, decide_true]
      cases e : p.2.lo with
      | none => simp only [Option.map_none, ih, List.filterMap_cons, e]
      | some a => simp only [Option.map_some, ih, List.filterMap_cons, e, List.map_cons]
    · simp only [h, if_false, decide_false, ih]
      rfl
theorem selHi (l : Int) : ∀ prs : List PR, (prs.filterMap fun p => if p.2.len = l then p.2.hi.map V.int else none) = (highs (prs.map (·.2)) l).map V.int
  | [] => rfl
  | p :: r => by
    have ih := selHi l r
    unfold highs atLen at ih ⊢
    rw [List.filterMap_cons, List.map_cons, List.filter_cons]
    by_cases h : p.2.len = l
    · simp only [h, if_true, decide_true]
      cases e : p.2.hi with
      | none => simp only [Option.map_none, ih, List.filterMap_cons, e]
      | some a => simp only [Option.map_some, ih, List.filterMap_cons, e, List.map_cons]
    · simp only [h, if_false, decide_false, ih]
      rfl
section
variable {P : Program} {w : World} {K : PySem.W.Frag} {mg : Str → Option Value} {base : Heap} {f : Addr} {fd : FuncData}
theorem scPairL : FnScope ["_law_days", "_law_rules", "_law_one", "_law_told", "_law_other", "_law_its"] ["_law_days", "_law_rules"] (defScope sPair) := ⟨rfl, rfl, rfl, by decide +kernel, rfl, by decide +kernel, by decide +kernel⟩
theorem ok_pair (F : FN K "_law_pair" sPair f fd) (T : Txt K mg) : FnOk P w K mg base CX0 1 f fd ["_law_days", "_law_rules"] spPairL := by
  refine ok0 F scPairL (fun vs H Q E h => ?_) (fun cdv A outer s H vs Q E hr h => ?_)
  · obtain ⟨l, d, rs, rfl, _⟩ := h
    rfl
  · obtain ⟨l, d, rs, rfl, ⟨prs, hl, hT, ers⟩, k1, k2⟩ := h
    refine ⟨_, pss_cons (ps_for PassesOwn.never rfl (pi_enum rfl T.enumerate (pa_cons (pv 1) pa_nil)) (pg_tup rfl (pgs_cons (pg_name (i := 2) scPairL.nd rfl (Or.inl rfl)) (pgs_cons (pg_name (i := 3) scPairL.nd rfl (Or.inl rfl)) pgs_nil)))
      (pss_one (ps_for PassesOwn.never rfl (pi_enum rfl T.enumerate (pa_cons (pv 1) pa_nil)) (pg_tup rfl (pgs_cons (pg_name (i := 4) scPairL.nd rfl (Or.inl rfl)) (pgs_cons (pg_name (i := 5) scPairL.nd rfl (Or.inl rfl)) pgs_nil)))
        (pss_one (ps_if (PW.pt (pw_and (pt_cmpR op_eq (pe_ix ix_tup (pv 3) pe_int (fun _ _ => rfl)) (pe_ix ix_tup (pv 5) pe_int (fun _ _ => rfl)) (nomark _)) <| pw_and (pt_cmpR op_le (pe_ix ix_tup (pv 3) pe_int (fun _ _ => rfl)) (pv 0) (nomark _)) <|
          pw_and (pt_cmp (pc_notN (pe_ix ix_tup (pv 3) pe_int (fun _ _ => rfl)))) <| pw_and (pt_cmp (pc_notN (pe_ix ix_tup (pv 5) pe_int (fun _ _ => rfl)))) <| pw_and1 (pt_cmpR op_gt (pe_ix ix_tup (pv 3) pe_int (fun _ _ => rfl)) (pe_ix ix_tup (pv 5) pe_int (fun _ _ => rfl)) (nomark _))))
          (pss_one (ps_ret (pe_tup (pa_cons (pv 2) (pa_cons (pv 4) pa_nil))))) pss_nil))))) <|
      pss_one (ps_ret pe_non), ?_⟩
    have rsAt : ∀ {i : Nat} {p : PR}, prs[i]? = some p → rs[i]? = some p.2 := fun {i p} e => by rw [← ers, List.getElem?_map, e]; rfl
    have ofRs : ∀ {i : Nat} {r : Rl}, rs[i]? = some r → i < prs.length := fun {i r} e => by
      have := (List.getElem?_eq_some_iff.mp e).1
      rw [← ers, List.length_map] at this
      exact this
    refine ⟨_, rfl, l, _, rfl, SqL.of hl, ?_⟩
    refine for_it (walk_enum (xs := refs prs)) (fun i σ H' => ∃ v1 v2 v3 v4 : Option V, σ = [some (.int (d : Int)), some (.ref l), v1, v2, v3, v4] ∧ Ext H H' ∧ ∀ (i' j : Nat) (r s : Rl), i' < i → rs[i']? = some r → rs[j]? = some s → hit (d : Int) r s = false)
      ⟨none, none, none, none, rfl, Ext.rfl', fun i' _ _ _ h => absurd h (Nat.not_lt_zero _)⟩ (fun i σ H' _ hP => ?_) (fun i x σ H1 H2 hi hP y => ?_) (fun σ H' hP => ?_)
    · obtain ⟨_, _, _, _, _, e, _⟩ := hP
      exact SqL.of (e _ _ hl)
    · obtain ⟨v1, v2, v3, v4, rfl, e, hno⟩ := hP
      obtain ⟨T1, x1, y1, rfl, n1, rfl, ex, ey⟩ := y
      cases ex
      obtain ⟨p, hp, rfl⟩ := refs_at ey
      have e2 := e.up (o := .tup [.int (i : Nat), .ref p.1]) n1
      refine gPair (SqT.of upd_same) ?_
      refine ⟨_, rfl, l, _, rfl, SqL.of (e2 _ _ hl), ?_⟩
      refine for_it (walk_enum (xs := refs prs)) (fun j σ H' => ∃ v3 v4 : Option V, σ = [some (.int (d : Int)), some (.ref l), some (.int (i : Nat)), some (.ref p.1), v3, v4] ∧ Ext H H' ∧ ∀ (j' : Nat) (s : Rl), j' < j → rs[j']? = some s → hit (d : Int) p.2 s = false)
        ⟨v3, v4, rfl, e2, fun j' _ h => absurd h (Nat.not_lt_zero _)⟩ (fun j σ H' _ hP => ?_) (fun j x σ H1 H3 hj hP y => ?_) (fun σ H' hP => ?_)
      · obtain ⟨_, _, _, e, _⟩ := hP
        exact SqL.of (e _ _ hl)
      · obtain ⟨v3, v4, rfl, e3, hnj⟩ := hP
        obtain ⟨T2, x2, y2, rfl, n2, rfl, ex, ey⟩ := y
        cases ex
        obtain ⟨q, hq, rfl⟩ := refs_at ey
        have e4 := e3.up (o := .tup [.int (j : Nat), .ref q.1]) n2
        refine gPair (SqT.of upd_same) ?_
        have tp := SqT.of (K := K) (e4 _ _ (hT p (List.mem_of_getElem? hp)))
        have tq := SqT.of (K := K) (e4 _ _ (hT q (List.mem_of_getElem? hq)))
        have go : hit (d : Int) p.2 q.2 = false → ∃ v3 v4 : Option V, [some (V.int (d : Int)), some (V.ref l), some (V.int (i : Nat)), some (V.ref p.1), some (V.int (j : Nat)), some (V.ref q.1)] = [some (.int (d : Int)), some (.ref l), some (.int (i : Nat)), some (.ref p.1), v3, v4] ∧ Ext H (upd H1 T2 (.tup [.int (j : Nat), .ref q.1])) ∧ ∀ (j' : Nat) (s : Rl), j' < j + 1 → rs[j']? = some s → hit (d : Int) p.2 s = false := fun hf => by
          refine ⟨_, _, rfl, e4, fun j' s hj' es => ?_⟩
          rcases Nat.lt_succ_iff_lt_or_eq.mp hj' with z | z
          · exact hnj j' s z es
          · subst z
            rw [rsAt hq] at es
            cases es
            exact hf
        refine ⟨_, rfl, p.1, _, 0, _, rfl, rfl, tp, tpl_at0 _, _, rfl, q.1, _, 0, _, rfl, rfl, tq, tpl_at0 _, rfl, _, rfl, ?_⟩
        by_cases hs : p.2.len = q.2.len
        case neg =>
          rw [show decide (V.int p.2.len = V.int q.2.len) = false by simp [hs]]
          exact iteF (iteF (go (by unfold hit; simp [hs])))
        rw [show decide (V.int p.2.len = V.int q.2.len) = true by simp [hs]]
        refine iteT ⟨_, rfl, p.1, _, 0, _, rfl, rfl, tp, tpl_at0 _, _, rfl, _, _, rfl, rfl, _, rfl, ?_⟩
        by_cases hd : p.2.len ≤ (d : Int)
        case neg =>
          rw [decide_eq_false hd]
          exact iteF (iteF (go (by unfold hit; rw [decide_eq_false hd]; rfl)))
        rw [decide_eq_true hd]
        refine iteT ⟨_, rfl, p.1, _, 1, _, rfl, rfl, tp, tpl_at1 _, _, rfl, ?_⟩
        rw [notNon_oV]
        cases e1 : p.2.lo with
        | none => exact iteF (iteF (go (by unfold hit; rw [e1]; simp [gap])))
        | some a =>
          refine iteT ⟨_, rfl, q.1, _, 2, _, rfl, rfl, tq, tpl_at2 _, _, rfl, ?_⟩
          rw [notNon_oV]
          cases e2 : q.2.hi with
          | none => exact iteF (iteF (go (by unfold hit; rw [e2, e1]; simp [gap])))
          | some b =>
            refine iteT ⟨_, rfl, p.1, _, 1, .int a, rfl, rfl, tp, (tpl_at1 _).trans (congrArg (fun o => some (oV o)) e1), _, rfl, q.1, _, 2, .int b, rfl, rfl, tq, (tpl_at2 _).trans (congrArg (fun o => some (oV o)) e2), _, _, rfl, rfl, _, rfl, ?_⟩
            have hh : hit (d : Int) p.2 q.2 = decide (b < a) := by
              unfold hit
              rw [decide_eq_true hd, decide_eq_true hs, e1, e2]
              rfl
            by_cases hg : b < a
            · rw [decide_eq_true hg]
              rw [decide_eq_true hg] at hh
              refine iteT ⟨_, rfl, _, rfl, by show 2 ≤ sizeLine; decide, fun tt ntt => ?_⟩
              refine k2 i j ⟨⟨_, _, rsAt hp, rsAt hq, hh⟩, fun i' j' r s er es hrs => ?_⟩ _ tt (e4.up ntt) upd_same
              rcases Nat.lt_trichotomy i' i with z | z | z
              · rw [hno i' j' r s z er es] at hrs
                cases hrs
              · subst z
                rw [rsAt hp] at er
                cases er
                refine .inr ⟨rfl, Nat.le_of_not_lt fun z => ?_⟩
                rw [hnj j' s z es] at hrs
                cases hrs
              · exact .inl z
            · rw [decide_eq_false hg]
              rw [decide_eq_false hg] at hh
              exact iteF (go hh)
      · obtain ⟨v3, v4, rfl, e3, hnj⟩ := hP
        refine ⟨_, _, _, _, rfl, e3, fun i' j' r s hi' er es => ?_⟩
        rcases Nat.lt_succ_iff_lt_or_eq.mp hi' with z | z
        · exact hno i' j' r s z er es
        · subst z
          rw [rsAt hp] at er
          cases er
          exact hnj j' s (by rw [refs_len]; exact ofRs es) es
    · obtain ⟨v1, v2, v3, v4, rfl, e, hno⟩ := hP
      refine k1 (fun r hr' s hs' => ?_) _ e
      obtain ⟨i, hi⟩ := List.getElem?_of_mem hr'
      obtain ⟨j, hj⟩ := List.getElem?_of_mem hs'
      exact hno i j r s (by rw [refs_len]; exact ofRs hi) hi hj
end
end K15

/-! K15L6: the rules that are due. -/
namespace K15
open PySem PySem.Spec PyProof.Rows L2
theorem maxIf {K : PySem.W.Frag} {i : Nat} {σ : L2.St} {H : Hp} {Q : VK} {D : Addr} {ns : List Int} (hσ : σ[i]? = some (some (.ref D))) (hA : ∀ H', Ext H H' → H' D = some (.lst (ns.map V.int))) (q : ∀ H', Ext H H' → Q (oV (mx ns)) H') :
    tIf (tTest (tOp (rNeD K) (tVar i) (tLst tNil))) (tCB (rMax K) (tCons (tVar i) tNil)) (tC .non) σ H Q := by
  refine ⟨_, hσ, neNil (hA _ Ext.rfl') fun H6 e6 => ⟨_, rfl, ?_⟩⟩
  have q' := q _ e6
  cases ns with
  | nil => exact iteF q'
  | cons a r =>
    refine iteT ⟨_, hσ, D, a :: r, rfl, SqL.of (hA _ e6), Nat.succ_pos _, fun m hm hx => ?_⟩
    rw [mx_eq hm hx] at q'
    exact q'
theorem minIf {K : PySem.W.Frag} {i : Nat} {σ : L2.St} {H : Hp} {Q : VK} {D : Addr} {ns : List Int} (hσ : σ[i]? = some (some (.ref D))) (hA : ∀ H', Ext H H' → H' D = some (.lst (ns.map V.int))) (q : ∀ H', Ext H H' → Q (oV (mn ns)) H') :
    tIf (tTest (tOp (rNeD K) (tVar i) (tLst tNil))) (tCB (rMin K) (tCons (tVar i) tNil)) (tC .non) σ H Q := by
  refine ⟨_, hσ, neNil (hA _ Ext.rfl') fun H6 e6 => ⟨_, rfl, ?_⟩⟩
  have q' := q _ e6
  cases ns with
  | nil => exact iteF q'
  | cons a r =>
    refine iteT ⟨_, hσ, D, a :: r, rfl, SqL.of (hA _ e6), Nat.succ_pos _, fun m hm hx => ?_⟩
    rw [mn_eq hm hx] at q'
    exact q'
section
variable {P : Program} {w : World} {K : PySem.W.Frag} {mg : Str → Option Value} {base : Heap} {f : Addr} {fd : FuncData}
theorem scDue : FnScope ["_law_days", "_law_rules", "_law_found", "_law_length", "_law_lows", "_law_told", "_law_highs"] ["_law_days", "_law_rules"] (defScope sDue) := ⟨rfl, rfl, rfl, by decide +kernel, rfl, by decide +kernel, by decide +kernel⟩
theorem ok_due (F : FN K "_law_due" sDue f fd) (T : Txt K mg) : FnOk P w K mg base CX0 1 f fd ["_law_days", "_law_rules"] (spDue) := by
  refine ok0 F scDue (fun vs H Q E h => ?_) (fun cdv A outer s H vs Q E hr h => ?_)
  · obtain ⟨l, d, rs, rfl, _⟩ := h
    rfl
  · obtain ⟨l, d, rs, rfl, ⟨prs, hl, hT, ers⟩, hz, hd, q⟩ := h
    have hlen : prs.length ≤ 900 := by rw [← ers, List.length_map] at hz; exact hz
    refine ⟨_, pss_cons (ps_set (i := 2) scDue.nd rfl (Or.inl rfl) (pe_lst pa_nil)) <|
      pss_cons (ps_for PassesOwn.never rfl (pi_range2 rfl T.range (pa_cons pe_int (pa_cons (pe_op op_add (pv 0) pe_int) pa_nil))) (pg_name (i := 3) scDue.nd rfl (Or.inr rfl)) <|
        pss_cons (ps_setLc (i := 4) (own := [("_law_told", 5)]) (g := gName 5) (tt := tAnd (tTest (tOp rEq (tOp (rIxT K) (tVar 5) (tC (.int 0))) (tVar 3))) (tB (tNotN (tOp (rIxT K) (tVar 5) (tC (.int 1)))))) (te := tOp (rIxT K) (tVar 5) (tC (.int 1))) rfl scDue.nd rfl rfl (sw_true rfl rfl rfl (by decide +kernel)) (pi_list (pv 1))
          (blkOk_by (N := ["_law_days", "_law_rules", "_law_found", "_law_length", "_law_lows", "_law_told", "_law_highs"]) (sc := defScope sDue) (by decide +kernel)) (fun _ _ _ _ _ => pg_name (i := 5) scDue.nd rfl (Or.inl rfl))
          (fun _ _ _ _ _ => pts_one (PW.pt (pw_and (pt_cmpR op_eq (pe_ix ix_tup (pv 5) pe_int (fun _ _ => rfl)) (pv 3) (nomark _)) (pw_and1 (pt_cmp (pc_notN (pe_ix ix_tup (pv 5) pe_int (fun _ _ => rfl)))))))) (fun _ _ _ _ _ => pe_ix ix_tup (pv 5) pe_int (fun _ _ => rfl))) <|
        pss_cons (ps_setLc (i := 6) (own := [("_law_told", 5)]) (g := gName 5) (tt := tAnd (tTest (tOp rEq (tOp (rIxT K) (tVar 5) (tC (.int 0))) (tVar 3))) (tB (tNotN (tOp (rIxT K) (tVar 5) (tC (.int 2)))))) (te := tOp (rIxT K) (tVar 5) (tC (.int 2))) rfl scDue.nd rfl rfl (sw_true rfl rfl rfl (by decide +kernel)) (pi_list (pv 1))
          (blkOk_by (N := ["_law_days", "_law_rules", "_law_found", "_law_length", "_law_lows", "_law_told", "_law_highs"]) (sc := defScope sDue) (by decide +kernel)) (fun _ _ _ _ _ => pg_name (i := 5) scDue.nd rfl (Or.inl rfl))
          (fun _ _ _ _ _ => pts_one (PW.pt (pw_and (pt_cmpR op_eq (pe_ix ix_tup (pv 5) pe_int (fun _ _ => rfl)) (pv 3) (nomark _)) (pw_and1 (pt_cmp (pc_notN (pe_ix ix_tup (pv 5) pe_int (fun _ _ => rfl)))))))) (fun _ _ _ _ _ => pe_ix ix_tup (pv 5) pe_int (fun _ _ => rfl))) <|
        pss_one (ps_if (PW.pt (pw_or (pt_cmpR (op_neD hr.units) (pv 4) (pe_lst pa_nil) (nomark _)) (pw_or1 (pt_cmpR (op_neD hr.units) (pv 6) (pe_lst pa_nil) (nomark _)))))
          (pss_one (ps_expr (pe_bm PySem.F.plainAttrs_list PySem.F.slot_list_append PySem.F.type_list_append mt_append (pv 2) (pa_cons (pe_tup (pa_cons (pv 3)
            (pa_cons (pe_ifExp (pt_cmpR (op_neD hr.units) (pv 4) (pe_lst pa_nil) (nomark _)) (pe_callB (cr_max rfl) (by rfl) T.max bMax (pa_cons (pv 4) pa_nil)) pe_non)
            (pa_cons (pe_ifExp (pt_cmpR (op_neD hr.units) (pv 6) (pe_lst pa_nil) (nomark _)) (pe_callB (cr_min rfl) (by rfl) T.min bMin (pa_cons (pv 6) pa_nil)) pe_non) pa_nil)))) pa_nil)))) pss_nil)) <|
      pss_one (ps_ret (pv 2)), ?_⟩
    refine ⟨by show 0 ≤ sizeLine; decide, fun D nD => ?_⟩
    have p62 : (2 : Int) ^ 62 = 4611686018427387904 := by decide
    refine ⟨_, rfl, _, _, rfl, rfl, _, _, rfl, ⟨by decide, by decide, by omega, by omega⟩, ?_⟩
    rw [show ((d : Int) + 1 - 1).toNat = d by omega]
    refine for_it walk_range (fun i σ H' => ∃ v3 v4 v5 v6 : Option V, σ = [some (.int (d : Int)), some (.ref l), some (.ref D), v3, v4, v5, v6] ∧ Ext H H' ∧ ∃ made : List PR, H' D = some (.lst (refs made)) ∧ TupsAt H' made ∧ made.map (·.2) = due i rs)
      ⟨none, none, none, none, rfl, Ext.new nD, [], upd_same, (fun _ h => absurd h List.not_mem_nil), rfl⟩ (fun _ _ _ _ _ => trivial) (fun i x σ H1 H2 hi hP y => ?_) (fun σ H1 hP => ?_)
    · obtain ⟨v3, v4, v5, v6, rfl, e1, made, hD, hm, em⟩ := hP
      obtain ⟨rfl, rfl⟩ := y
      show gName 3 (V.int ((1 : Int) + (i : Nat))) _ _ _
      rw [show (1 : Int) + (i : Nat) = ((i : Nat) : Int) + 1 by omega]
      generalize hL : ((i : Nat) : Int) + 1 = L
      have hl1 := e1 _ _ hl
      refine ⟨_, rfl, l, rfl, ⟨_, SqL.of hl1⟩, fun D1 n1 => ?_⟩
      refine lc_fm (walk_list (xs := refs prs)) n1 (by rw [refs_len]; omega) (fun i => (prs[i]?).bind fun p => if p.2.len = L then p.2.lo.map V.int else none) (fun H' e => SqL.of (e _ _ hl1)) (fun i' x H2 H3 K1 K2 hi' e y k1 k2 => ?_) (fun H2 e2 hD1 => ?_)
      · obtain ⟨rfl, hx⟩ := y
        obtain ⟨p, hp, rfl⟩ := refs_at hx
        have tp := SqT.of (K := K) ((e1.trans e) _ _ (hT p (List.mem_of_getElem? hp)))
        refine ⟨rfl, _, rfl, p.1, _, 0, _, rfl, rfl, tp, tpl_at0 _, _, rfl, rfl, _, rfl, ?_⟩
        by_cases hs : p.2.len = L
        · rw [show decide (V.int p.2.len = V.int L) = true by simp [hs]]
          refine iteT ⟨_, rfl, p.1, _, 1, _, rfl, rfl, tp, tpl_at1 _, _, rfl, ?_⟩
          rw [notNon_oV]
          cases hlo : p.2.lo with
          | none => exact iteF (k2 _ (by simp [hp, hlo]) Ext.rfl')
          | some a => exact iteT ⟨_, rfl, p.1, _, 1, .int a, rfl, rfl, tp, (tpl_at1 _).trans (congrArg (fun o => some (oV o)) hlo), k1 _ _ (by simp [hp, hlo, hs]) Ext.rfl'⟩
        · rw [show decide (V.int p.2.len = V.int L) = false by simp [hs]]
          exact iteF (iteF (k2 _ (by simp [hp, hs]) Ext.rfl'))
      rw [refs_len, range_fm, selLo, ers] at hD1
      have hl2 := e2 _ _ hl1
      refine ⟨_, rfl, l, rfl, ⟨_, SqL.of hl2⟩, fun D2 n2 => ?_⟩
      refine lc_fm (walk_list (xs := refs prs)) n2 (by rw [refs_len]; omega) (fun i => (prs[i]?).bind fun p => if p.2.len = L then p.2.hi.map V.int else none) (fun H' e => SqL.of (e _ _ hl2)) (fun i' x H3 H4 K1 K2 hi' e y k1 k2 => ?_) (fun H3 e3 hD2 => ?_)
      · obtain ⟨rfl, hx⟩ := y
        obtain ⟨p, hp, rfl⟩ := refs_at hx
        have tp := SqT.of (K := K) (((e1.trans e2).trans e) _ _ (hT p (List.mem_of_getElem? hp)))
        refine ⟨rfl, _, rfl, p.1, _, 0, _, rfl, rfl, tp, tpl_at0 _, _, rfl, rfl, _, rfl, ?_⟩
        by_cases hs : p.2.len = L
        · rw [show decide (V.int p.2.len = V.int L) = true by simp [hs]]
          refine iteT ⟨_, rfl, p.1, _, 2, _, rfl, rfl, tp, tpl_at2 _, _, rfl, ?_⟩
          rw [notNon_oV]
          cases hhi : p.2.hi with
          | none => exact iteF (k2 _ (by simp [hp, hhi]) Ext.rfl')
          | some a => exact iteT ⟨_, rfl, p.1, _, 2, .int a, rfl, rfl, tp, (tpl_at2 _).trans (congrArg (fun o => some (oV o)) hhi), k1 _ _ (by simp [hp, hhi, hs]) Ext.rfl'⟩
        · rw [show decide (V.int p.2.len = V.int L) = false by simp [hs]]
          exact iteF (iteF (k2 _ (by simp [hp, hs]) Ext.rfl'))
      rw [refs_len, range_fm, selHi, ers] at hD2
      have hA : ∀ H', Ext H3 H' → H' D1 = some (.lst ((lows rs L).map V.int)) := fun H' e => e _ _ (e3 _ _ hD1)
      have hB : ∀ H', Ext H3 H' → H' D2 = some (.lst ((highs rs L).map V.int)) := fun H' e => e _ _ hD2
      have e13 := (e1.trans e2).trans e3
      have hDn : H D = none := nD
      have hlm : made.length ≤ 900 := by
        have z := congrArg List.length em
        rw [List.length_map] at z
        have y : (due i rs).length ≤ i := by
          clear z em hm hD hL hA hB
          induction i with
          | zero => simp [due]
          | succ i ih =>
            rw [due_succ, List.length_append]
            have := ih (by omega)
            have : (dueAt rs ((i : Int) + 1)).length ≤ 1 := by
              unfold dueAt
              split <;> simp
            omega
        omega
      refine ⟨_, rfl, neNil (hA _ Ext.rfl') fun H4 e4 => ⟨_, rfl, ?_⟩⟩
      by_cases hlo : lows rs L = []
      case' pos =>
        rw [show (!(lows rs L).isEmpty) = false by simp [hlo]]
        refine iteF ⟨_, rfl, neNil (hB _ e4) fun H5 e5 => ⟨_, rfl, ?_⟩⟩
        have e45 := e4.trans e5
        by_cases hhi : highs rs L = []
        case' pos =>
          rw [show (!(highs rs L).isEmpty) = false by simp [hhi]]
          refine iteF ?_
          refine ⟨_, _, _, _, rfl, e13.trans e45, made, ((e2.trans e3).trans e45) _ _ hD, hm.ext ((e2.trans e3).trans e45), ?_⟩
          rw [em, due_succ, hL]
          unfold dueAt
          rw [if_pos ⟨hlo, hhi⟩, List.append_nil]
        case' neg =>
          have hne : ¬ (lows rs L = [] ∧ highs rs L = []) := fun z => hhi z.2
          rw [show (!(highs rs L).isEmpty) = true by simp [hhi]]
          refine iteT ?_
      case' neg =>
        have hne : ¬ (lows rs L = [] ∧ highs rs L = []) := fun z => hlo z.1
        have e45 := e4
        rw [show (!(lows rs L).isEmpty) = true by simp [hlo]]
        refine iteT (iteT ?_)
      all_goals
        have e25 := (e2.trans e3).trans e45
        refine ⟨_, rfl, .inl ⟨rfl, _, SqL.of (e25 _ _ hD)⟩, _, rfl, maxIf rfl (fun H' e => hA _ (e45.trans e)) fun H6 e6 => ?_⟩
        refine minIf rfl (fun H' e => hB _ ((e45.trans e6).trans e)) fun H7 e7 => ?_
        refine ⟨by show 3 ≤ sizeLine; decide, fun t nt => ?_⟩
        have e27 := (e25.trans e6).trans e7
        have e8 : Ext H7 (upd H7 t (.tup (tpl (join rs L)))) := Ext.new nt
        have e28 := e27.trans e8
        refine ⟨D, _, _, rfl, rfl, e28 _ _ hD, small48 (by rw [refs_len]; omega), ?_⟩
        refine ⟨_, _, _, _, rfl, (e1.trans e28).wr hDn, made ++ [(t, join rs L)], ?_, ?_, ?_⟩
        · rw [upd_same]
          show some (HO.lst (refs made ++ [V.ref t])) = some (HO.lst (refs (made ++ [(t, join rs L)])))
          unfold refs
          rw [List.map_append]
          rfl
        · intro z hz'
          have nD5 := e28 _ _ hD
          have at5 : upd H7 t (.tup (tpl (join rs L))) z.1 = some (.tup (tpl z.2)) := by
            rcases List.mem_append.mp hz' with h | h
            · exact e28 _ _ (hm z h)
            · rw [List.mem_singleton.mp h]
              exact upd_same
          have nez : z.1 ≠ D := ne_of at5 nD5 (by intro z; cases z)
          exact (upd_ne nez).trans at5
        · rw [List.map_append, em, due_succ, hL]
          unfold dueAt
          rw [if_neg hne]
          rfl
    · obtain ⟨v3, v4, v5, v6, rfl, e1, made, hD, hm, em⟩ := hP
      exact ⟨_, rfl, q _ D e1 ⟨made, hD, hm, em⟩⟩
end
end K15

/-! K15L7: all rows of small gains. -/
namespace K15
open PySem PySem.Spec PyProof.Rows L2
abbrev GR : Type := Addr × List Int
def refsG (a : List GR) : List V := a.map fun p => V.ref p.1
def GsAt (H : Hp) (a : List GR) : Prop := ∀ p ∈ a, H p.1 = some (.lst (p.2.map V.int))
theorem GsAt.ext {H H' : Hp} {a : List GR} (h : GsAt H a) (e : Ext H H') : GsAt H' a := fun p hp => e _ _ (h p hp)
theorem refsG_len (a : List GR) : (refsG a).length = a.length := List.length_map ..
theorem refsG_app (a b : List GR) : refsG (a ++ b) = refsG a ++ refsG b := List.map_append
theorem refsG_at {a : List GR} {i : Nat} {x : V} (h : (refsG a)[i]? = some x) : ∃ p, a[i]? = some p ∧ x = .ref p.1 := map_at h
theorem ref_ne {H : Hp} {D y : Addr} {a : List GR} {ns : List Int} (hD : H D = some (.lst (refsG a))) (hy : H y = some (.lst (ns.map V.int))) (z : ns ≠ []) : y ≠ D := by
  rintro rfl
  rw [hD] at hy
  injection hy with hy
  injection hy with hy
  cases ns with
  | nil => exact z rfl
  | cons n r =>
    cases a with
    | nil => cases hy
    | cons p q => cases hy
theorem gs_wr {H : Hp} {D : Addr} {a made : List GR} {o : HO} (hD : H D = some (.lst (refsG a))) (hm : GsAt H made) (hn : ∀ p ∈ made, p.2 ≠ []) : GsAt (upd H D o) made := fun p hp => (upd_ne (ref_ne hD (hm p hp) (hn p hp))).trans (hm p hp)
def RowsAt (H : Hp) (l : Addr) (d : Nat) : Prop := ∃ a : List GR, H l = some (.lst (refsG a)) ∧ GsAt H a ∧ a.length ≤ 1000 ∧ ∀ p ∈ a, p.2.length = d
theorem RowsAt.ext {H H' : Hp} {l : Addr} {d : Nat} (h : RowsAt H l d) (e : Ext H H') : RowsAt H' l d := by
  obtain ⟨a, h1, h2, h3⟩ := h
  exact ⟨a, e _ _ h1, h2.ext e, h3⟩
def spRows : Sp := fun vs H Q _ => ∃ d : Nat, vs = [.int (d : Int)] ∧ d ≤ 4 ∧ ∀ H' l, Ext H H' → RowsAt H' l d → Q (.ref l) H'
section
variable {P : Program} {w : World} {K : PySem.W.Frag} {mg : Str → Option Value} {base : Heap} {f : Addr} {fd : FuncData}
theorem scRows : FnScope ["_law_days", "_law_found", "_law_some", "_law_day", "_law_longer", "_law_gains", "_law_gain"] ["_law_days"] (defScope sRows) := ⟨rfl, rfl, rfl, by decide +kernel, rfl, by decide +kernel, by decide +kernel⟩
theorem ok_rows (F : FN K "_law_rows" sRows f fd) (T : Txt K mg) : FnOk P w K mg base CX0 1 f fd ["_law_days"] spRows := by
  refine ok0 F scRows (fun vs H Q E h => ?_) (fun cdv A outer s H vs Q E hr h => ?_)
  · obtain ⟨d, rfl, _⟩ := h
    rfl
  · obtain ⟨d, rfl, hd, q⟩ := h
    refine ⟨_, pss_cons (ps_par (i := 1) (j := 2) rfl scRows.nd rfl rfl (by decide) rfl rfl (pa_cons (pe_lst (pa_cons (pe_lst pa_nil) pa_nil)) (pa_cons (pe_ifExp (pt_cmpR op_lt (pv 0) pe_int (nomark _))
        (pe_tup (pa_cons (pe_un un_neg pe_int) (pa_cons (pe_un un_neg pe_int) (pa_cons pe_int (pa_cons pe_int (pa_cons pe_int pa_nil)))))) (pe_tup (pa_cons (pe_un un_neg pe_int) (pa_cons pe_int (pa_cons pe_int pa_nil))))) pa_nil)) (by rfl)) <|
      pss_cons (ps_for PassesOwn.never rfl (pi_range1 rfl T.range (pa_cons (pv 0) pa_nil)) (pg_name (i := 3) scRows.nd rfl (Or.inl rfl)) <|
        pss_cons (ps_set (i := 4) scRows.nd rfl (Or.inl rfl) (pe_lst pa_nil)) <|
        pss_cons (ps_for PassesOwn.never rfl (pi_list (pv 1)) (pg_name (i := 5) scRows.nd rfl (Or.inr rfl)) <|
          pss_one (ps_expr (pe_bm PySem.F.plainAttrs_list PySem.F.slot_list_extend PySem.F.type_list_extend mt_extend (pv 4) (pa_cons (pe_lc (own := [("_law_gain", 6)]) (g := gName 6) (tt := tYes) (te := tOp rCat (tVar 5) (tLst (tCons (tVar 6) tNil))) rfl scRows.nd (pi_tup (pv 2))
            (blkOk_by (N := ["_law_days", "_law_found", "_law_some", "_law_day", "_law_longer", "_law_gains", "_law_gain"]) (sc := defScope sRows) (by decide +kernel)) (fun _ _ _ _ _ => pg_name (i := 6) scRows.nd rfl (Or.inl rfl)) (fun _ _ _ _ _ => pts_nil)
            (fun _ _ _ _ _ => pe_op op_cat (pv 5) (pe_lst (pa_cons (pv 6) pa_nil)))) pa_nil)))) <|
        pss_one (ps_set (i := 1) scRows.nd rfl (Or.inl rfl) (pv 4))) <|
      pss_one (ps_ret (pv 1)), ?_⟩
    refine ⟨by show 0 ≤ sizeLine; decide, fun e0 n0 => ⟨by show 1 ≤ sizeLine; decide, fun F nF => ⟨_, rfl, _, _, rfl, rfl, _, rfl, ?_⟩⟩⟩
    have eF : Ext H (upd (upd H e0 (.lst [])) F (.lst [.ref e0])) := (Ext.new n0).up nF
    have hF : upd (upd H e0 (.lst [])) F (.lst [.ref e0]) F = some (.lst (refsG [(e0, [])])) := upd_same
    have he0 : upd (upd H e0 (.lst [])) F (.lst [.ref e0]) e0 = some (.lst (([] : List Int).map V.int)) := (Ext.new nF) _ _ upd_same
    generalize upd (upd H e0 (.lst [])) F (.lst [.ref e0]) = H0 at eF hF he0
    have p62 : (2 : Int) ^ 62 = 4611686018427387904 := by decide
    by_cases h4 : (d : Int) < 4
    case' pos =>
      rw [decide_eq_true h4]
      refine iteT ⟨_, rfl, _, rfl, by show 5 ≤ sizeLine; decide, fun S nS => ⟨_, _, rfl, ?_⟩⟩
      have hS : upd H0 S (.tup [.int (-2), .int (-1), .int 0, .int 1, .int 2]) S = some (.tup (([-2, -1, 0, 1, 2] : List Int).map V.int)) := upd_same
      have eS : Ext H0 (upd H0 S (.tup [.int (-2), .int (-1), .int 0, .int 1, .int 2])) := Ext.new nS
      have hk : ([-2, -1, 0, 1, 2] : List Int).length ≤ 5 ∧ ([-2, -1, 0, 1, 2] : List Int).length ^ d ≤ 125 := by
        refine ⟨by decide, ?_⟩
        have : d = 0 ∨ d = 1 ∨ d = 2 ∨ d = 3 := by omega
        rcases this with rfl | rfl | rfl | rfl <;> decide
      generalize ([-2, -1, 0, 1, 2] : List Int) = ss at hS hk
      generalize upd H0 S (.tup [.int (-2), .int (-1), .int 0, .int 1, .int 2]) = H1 at hS eS
    case' neg =>
      rw [decide_eq_false h4]
      refine iteF ⟨_, rfl, by show 3 ≤ sizeLine; decide, fun S nS => ⟨_, _, rfl, ?_⟩⟩
      have hS : upd H0 S (.tup [.int (-2), .int 0, .int 1]) S = some (.tup (([-2, 0, 1] : List Int).map V.int)) := upd_same
      have eS : Ext H0 (upd H0 S (.tup [.int (-2), .int 0, .int 1])) := Ext.new nS
      have hk : ([-2, 0, 1] : List Int).length ≤ 5 ∧ ([-2, 0, 1] : List Int).length ^ d ≤ 125 := by
        refine ⟨by decide, ?_⟩
        have : d = 4 := by omega
        subst this
        decide
      generalize ([-2, 0, 1] : List Int) = ss at hS hk
      generalize upd H0 S (.tup [.int (-2), .int 0, .int 1]) = H1 at hS eS
    all_goals
      have hk1 : ∀ i : Nat, i ≤ d → ss.length ^ i ≤ 125 := fun i hi => by
        rcases Nat.eq_zero_or_pos ss.length with z | z
        · rw [z]
          cases i with
          | zero => decide
          | succ i => rw [Nat.zero_pow (Nat.succ_pos _)]; decide
        · exact Nat.le_trans (Nat.pow_le_pow_right z hi) hk.2
      refine ⟨_, rfl, _, rfl, by omega, by omega, ?_⟩
      rw [show ((d : Int)).toNat = d by omega]
      refine for_it walk_range (fun i σ H' => ∃ (F' : Addr) (v3 v4 v5 v6 : Option V), σ = [some (.int (d : Int)), some (.ref F'), some (.ref S), v3, v4, v5, v6] ∧ Ext H H' ∧ H' S = some (.tup (ss.map V.int)) ∧ ∃ a : List GR, H' F' = some (.lst (refsG a)) ∧ GsAt H' a ∧ a.length = ss.length ^ i ∧ ∀ p ∈ a, p.2.length = i)
        ⟨F, none, none, none, none, rfl, eF.trans eS, hS, [(e0, [])], eS _ _ hF, fun p hp => by rw [List.mem_singleton.mp hp]; exact eS _ _ he0, rfl, fun p hp => by rw [List.mem_singleton.mp hp]; rfl⟩ (fun _ _ _ _ _ => trivial) (fun i x σ H2 H3 hi hP y => ?_) (fun σ H2 hP => ?_)
      · obtain ⟨F', v3, v4, v5, v6, rfl, e2, hS2, a, hF2, hG2, la, na⟩ := hP
        obtain ⟨rfl, rfl⟩ := y
        refine ⟨by show 0 ≤ sizeLine; decide, fun L nL => ?_⟩
        have e3 : Ext H3 (upd H3 L (.lst [])) := Ext.new nL
        have hL : upd H3 L (.lst []) L = some (.lst (refsG [])) := upd_same
        refine ⟨_, rfl, F', rfl, ⟨_, SqL.of (e3 _ _ hF2)⟩, ?_⟩
        have alen : a.length ≤ 125 := by rw [la]; exact hk1 i (by omega)
        have alen2 : a.length * ss.length ≤ 125 := by rw [la, ← Nat.pow_succ]; exact hk1 (i + 1) (by omega)
        refine for_it (walk_list (xs := refsG a)) (fun j σ H' => ∃ (v3 v5 v6 : Option V), σ = [some (.int (d : Int)), some (.ref F'), some (.ref S), v3, some (.ref L), v5, v6] ∧ Ext H3 H' ∧ ∃ b : List GR, H' L = some (.lst (refsG b)) ∧ GsAt H' b ∧ b.length = j * ss.length ∧ ∀ p ∈ b, p.2.length = i + 1)
          ⟨_, v5, v6, rfl, e3, [], hL, (fun _ h => absurd h List.not_mem_nil), by simp, (fun _ h => absurd h List.not_mem_nil)⟩ (fun j σ H' _ hP => ?_) (fun j x σ H4 H5 hj hP y => ?_) (fun σ H4 hP => ?_)
        · obtain ⟨_, _, _, _, e, _⟩ := hP
          exact SqL.of (e _ _ hF2)
        · obtain ⟨v3', v5', v6', rfl, e4, b, hL4, hG4, lb, nb⟩ := hP
          obtain ⟨rfl, hx⟩ := y
          obtain ⟨p, hp, rfl⟩ := refsG_at hx
          have hpm := List.mem_of_getElem? hp
          have hj' : j < a.length := by rw [refsG_len] at hj; exact hj
          refine ⟨_, rfl, .inl ⟨rfl, _, SqL.of hL4⟩, ?_⟩
          refine ⟨_, rfl, S, rfl, ⟨_, SqT.of (e4 _ _ hS2)⟩, fun D nD => ?_⟩
          refine lc_tup (xs := ss.map V.int) (fun m H' => Ext H5 H' ∧ ∃ c : List GR, H' D = some (.lst (refsG c)) ∧ GsAt H' c ∧ c.length = m ∧ ∀ p ∈ c, p.2.length = i + 1)
            ⟨Ext.new nD, [], upd_same, (fun _ h => absurd h List.not_mem_nil), rfl, (fun _ h => absurd h List.not_mem_nil)⟩ (fun m H' _ e => SqT.of ((e4.trans e.1) _ _ hS2)) (fun m x H6 hm e => ?_) (fun H6 e => ?_)
          · obtain ⟨g, hg, rfl⟩ := map_at hm
            obtain ⟨e6, c, hD6, hG6, lc, nc⟩ := e
            have hml : m < ss.length := (List.getElem?_eq_some_iff.mp hg).1
            refine ⟨rfl, _, rfl, _, rfl, by show 1 ≤ sizeLine; decide, fun t nt => ?_⟩
            have hp6 : H6 p.1 = some (.lst (p.2.map V.int)) := (e4.trans e6) _ _ (hG2 p hpm)
            have e7 : Ext H6 (upd H6 t (.lst [.int g])) := Ext.new nt
            refine ⟨p.1, t, _, _, rfl, rfl, e7 _ _ hp6, upd_same, small48' (by rw [List.length_map, na p hpm]; show i + 1 ≤ 1000; omega), fun u nu => ?_⟩
            have e8 : Ext (upd H6 t (.lst [.int g])) (upd (upd H6 t (.lst [.int g])) u (.lst (p.2.map V.int ++ [.int g]))) := Ext.new nu
            have hu : upd (upd H6 t (.lst [.int g])) u (.lst (p.2.map V.int ++ [.int g])) u = some (.lst ((p.2 ++ [g]).map V.int)) := by
              rw [upd_same, List.map_append]
              rfl
            have e78 := e7.trans e8
            refine ⟨_, e78 _ _ hD6, small48 (by rw [refsG_len]; omega), (e6.trans e78).wr nD, c ++ [(u, p.2 ++ [g])], ?_, ?_, ?_, ?_⟩
            · rw [upd_same, refsG_app]
              rfl
            · refine gs_wr (e78 _ _ hD6) (fun z hz => ?_) fun z hz => ?_
              · rcases List.mem_append.mp hz with h | h
                · exact e78 _ _ (hG6 z h)
                · rw [List.mem_singleton.mp h]
                  exact hu
              · rcases List.mem_append.mp hz with h | h
                · exact fun y => by
                    have := nc z h
                    rw [y] at this
                    cases this
                · rw [List.mem_singleton.mp h]
                  simp
            · rw [List.length_append, lc]
              rfl
            · intro z hz
              rcases List.mem_append.mp hz with h | h
              · exact nc z h
              · rw [List.mem_singleton.mp h, List.length_append, na p hpm]
                rfl
          · obtain ⟨e6, c, hD6, hG6, lc, nc⟩ := e
            rw [List.length_map] at lc
            have hL6 := e6 _ _ hL4
            have ub : (j + 1) * ss.length ≤ a.length * ss.length := Nat.mul_le_mul_right _ (by omega)
            rw [Nat.add_mul, Nat.one_mul] at ub
            refine ⟨L, D, _, _, rfl, rfl, hL6, hD6, small48' (by rw [refsG_len, refsG_len]; omega), ?_⟩
            refine ⟨_, _, _, rfl, (e4.trans e6).wr nL, b ++ c, ?_, ?_, ?_, ?_⟩
            · rw [upd_same, refsG_app]
            · refine gs_wr hL6 (fun z hz => ?_) fun z hz => ?_
              · rcases List.mem_append.mp hz with h | h
                · exact e6 _ _ (hG4 z h)
                · exact hG6 z h
              · have : z.2.length = i + 1 := by
                  rcases List.mem_append.mp hz with h | h
                  · exact nb z h
                  · exact nc z h
                exact fun y => by
                  rw [y] at this
                  cases this
            · rw [List.length_append, lb, lc, Nat.add_mul, Nat.one_mul]
            · intro z hz
              rcases List.mem_append.mp hz with h | h
              · exact nb z h
              · exact nc z h
        · obtain ⟨v3', v5', v6', rfl, e4, b, hL4, hG4, lb, nb⟩ := hP
          refine ⟨_, rfl, L, _, _, _, _, rfl, e2.trans e4, e4 _ _ hS2, b, hL4, hG4, ?_, nb⟩
          rw [lb, refsG_len, la, Nat.pow_succ]
      · obtain ⟨F', v3, v4, v5, v6, rfl, e2, hS2, a, hF2, hG2, la, na⟩ := hP
        exact ⟨_, rfl, q _ F' e2 ⟨a, hF2, hG2, Nat.le_trans (by rw [la]; exact hk1 d (Nat.le_refl _)) (by decide), na⟩⟩
end
end K15

/-! K15L8: a row that keeps rules, told by sums; the refusal that is heard. -/
namespace K15
open PySem PySem.Spec PyProof.Rows L2
def spKeepsL : Sp := fun vs H Q _ => ∃ (a l : Addr) (rs : List Rl) (g : List Int), vs = [.ref a, .ref l] ∧ H a = some (.lst (g.map V.int)) ∧ RlsAt H l rs ∧ (∀ r ∈ rs, r.Ok) ∧ g.length ≤ 1000 ∧ rs.length ≤ 1000 ∧
  (KeepsAll rs g → ∀ H', Ext H H' → Q (.bl true) H') ∧ (¬ KeepsAll rs g → ∀ H', Ext H H' → Q (.bl false) H')
theorem cut_str {g : List Int} {b l : Nat} (h : b + l ≤ g.length) : cutV (g.map V.int) (some (b : Int)) (some ((b : Int) + (l : Int))) = ((g.drop b).take l).map V.int := by
  unfold cutV
  rw [show ((b : Int) + (l : Int)) = ((b + l : Nat) : Int) by omega, HT.sIx_nat, HT.sIx_nat, List.length_map, List.map_take, List.map_drop, Nat.min_eq_left (by omega), Nat.min_eq_left (by omega), show b + l - b = l by omega]
section
variable {P : Program} {w : World} {K : PySem.W.Frag} {mg : Str → Option Value} {base : Heap} {f : Addr} {fd : FuncData}
theorem scKeepsL : FnScope ["_law_gains", "_law_rules", "_law_length", "_law_low", "_law_high", "_law_begin", "_law_many"] ["_law_gains", "_law_rules"] (defScope sKeeps) := ⟨rfl, rfl, rfl, by decide +kernel, rfl, by decide +kernel, by decide +kernel⟩
theorem ok_keeps (F : FN K "_law_keeps" sKeeps f fd) (T : Txt K mg) : FnOk P w K mg base CX0 1 f fd ["_law_gains", "_law_rules"] spKeepsL := by
  refine ok0 F scKeepsL (fun vs H Q E h => ?_) (fun cdv A outer s H vs Q E hr h => ?_)
  · obtain ⟨a, l, rs, g, rfl, _⟩ := h
    rfl
  · obtain ⟨a, l, rs, g, rfl, ha, ⟨prs, hl, hT, ers⟩, hok, gz, rz, k1, k2⟩ := h
    refine ⟨_, pss_cons (ps_for PassesOwn.never rfl (pi_list (pv 1)) (pg_tup rfl (pgs_cons (pg_name (i := 2) scKeepsL.nd rfl (Or.inl rfl)) (pgs_cons (pg_name (i := 3) scKeepsL.nd rfl (Or.inl rfl)) (pgs_cons (pg_name (i := 4) scKeepsL.nd rfl (Or.inl rfl)) pgs_nil)))) <|
      pss_one (ps_for PassesOwn.never rfl (pi_range1 rfl T.range (pa_cons (pe_op op_add (pe_op op_sub (pe_callB call_len_seq (by rfl) T.len bLen (pa_cons (pv 0) pa_nil)) (pv 2)) pe_int) pa_nil)) (pg_name (i := 5) scKeepsL.nd rfl (Or.inl rfl)) <|
        pss_cons (ps_set (i := 6) scKeepsL.nd rfl (Or.inl rfl) (pe_callB (cr_sum rfl) (by rfl) T.sum bSum (pa_cons (pe_slice sl_list (pv 0) (po_some (pv 5)) (po_some (pe_op op_add (pv 5) (pv 2)))) pa_nil))) <|
        pss_one (ps_if (PW.pt (pw_or (PW.pt (pw_and (pt_cmp (pc_notN (pv 3))) (pw_and1 (pt_cmpR op_lt (pv 6) (pv 3) (nomark _))))) (pw_or1 (PW.pt (pw_and (pt_cmp (pc_notN (pv 4))) (pw_and1 (pt_cmpR op_gt (pv 6) (pv 4) (nomark _))))))))
          (pss_one (ps_ret pe_bl)) pss_nil))) <|
      pss_one (ps_ret pe_bl), ?_⟩
    refine ⟨_, rfl, l, rfl, ⟨_, SqL.of hl⟩, ?_⟩
    refine for_it (walk_list (xs := refs prs)) (fun i σ H' => ∃ v2 v3 v4 v5 v6 : Option V, σ = [some (.ref a), some (.ref l), v2, v3, v4, v5, v6] ∧ Ext H H' ∧ ∀ (i' : Nat) (p : PR), i' < i → prs[i']? = some p → Keeps p.2 g)
      ⟨none, none, none, none, none, rfl, Ext.rfl', fun i' _ h => absurd h (Nat.not_lt_zero _)⟩ (fun i σ H' _ hP => ?_) (fun i x σ H1 H2 hi hP y => ?_) (fun σ H' hP => ?_)
    · obtain ⟨_, _, _, _, _, _, e, _⟩ := hP
      exact SqL.of (e _ _ hl)
    · obtain ⟨v2, v3, v4, v5, v6, rfl, e, hk⟩ := hP
      obtain ⟨rfl, hx⟩ := y
      obtain ⟨p, hp, rfl⟩ := refs_at hx
      have hpm := List.mem_of_getElem? hp
      have hpr : p.2 ∈ rs := by rw [← ers]; exact List.mem_map.mpr ⟨p, hpm, rfl⟩
      obtain ⟨l1, l2, _⟩ := hok _ hpr
      refine gTri (SqT.of (e _ _ (hT p hpm))) ?_
      have p62 : (2 : Int) ^ 62 = 4611686018427387904 := by decide
      refine ⟨_, rfl, a, _, rfl, .inl (SqL.of (e _ _ ha)), _, rfl, _, _, rfl, rfl, _, _, rfl, rfl, _, rfl, by rw [List.length_map]; omega, by rw [List.length_map]; omega, ?_⟩
      rw [List.length_map]
      refine for_it walk_range (fun b σ H' => ∃ v5 v6 : Option V, σ = [some (.ref a), some (.ref l), some (.int p.2.len), some (oV p.2.lo), some (oV p.2.hi), v5, v6] ∧ Ext H H' ∧ ∀ b' : Nat, b' < b → within (strSum g b' p.2.len.toNat) p.2.lo p.2.hi = true)
        ⟨v5, v6, rfl, e, fun b hb => absurd hb (Nat.not_lt_zero _)⟩ (fun _ _ _ _ _ => trivial) (fun b x σ H3 H4 hb hP y => ?_) (fun σ H3 hP => ?_)
      · obtain ⟨v5', v6', rfl, e3, hw⟩ := hP
        obtain ⟨rfl, rfl⟩ := y
        show gName 5 (V.int ((0 : Int) + (b : Nat))) _ _ _
        rw [show (0 : Int) + (b : Nat) = ((b : Nat) : Int) by omega]
        have hb2 : b + p.2.len.toNat ≤ g.length := by omega
        refine ⟨_, rfl, _, rfl, _, rfl, _, rfl, _, rfl, _, _, rfl, rfl, _, rfl, a, _, rfl, SqL.of (e3 _ _ ha), fun t nt => ?_⟩
        rw [show p.2.len = ((p.2.len.toNat : Nat) : Int) by omega, cut_str hb2]
        rw [show ((p.2.len.toNat : Nat) : Int) = p.2.len by omega]
        have e4 := e3.up (o := .lst (((g.drop b).take p.2.len.toNat).map V.int)) nt
        refine ⟨t, _, rfl, SqL.of upd_same, ?_⟩
        show gName 6 (V.int (strSum g b p.2.len.toNat)) _ _ _
        have nk : within (strSum g b p.2.len.toNat) p.2.lo p.2.hi = false → ¬ KeepsAll rs g := fun z ka => by
          have := ka _ hpr b (by omega)
          rw [z] at this
          cases this
        have go : within (strSum g b p.2.len.toNat) p.2.lo p.2.hi = true → ∃ v5 v6 : Option V, [some (.ref a), some (.ref l), some (.int p.2.len), some (oV p.2.lo), some (oV p.2.hi), some (.int (b : Nat)), some (.int (strSum g b p.2.len.toNat))] = [some (.ref a), some (.ref l), some (.int p.2.len), some (oV p.2.lo), some (oV p.2.hi), v5, v6] ∧ Ext H (upd H4 t (.lst (((g.drop b).take p.2.len.toNat).map V.int))) ∧ ∀ b' : Nat, b' < b + 1 → within (strSum g b' p.2.len.toNat) p.2.lo p.2.hi = true := fun z => by
          refine ⟨_, _, rfl, e4, fun b' hb' => ?_⟩
          rcases Nat.lt_succ_iff_lt_or_eq.mp hb' with y | y
          · exact hw b' y
          · rw [y]
            exact z
        generalize strSum g b p.2.len.toNat = sm at nk go
        refine ⟨_, rfl, _, rfl, ?_⟩
        rw [notNon_oV]
        cases e1 : p.2.lo with
        | none =>
          rw [e1] at go nk
          refine iteF (iteF ⟨_, rfl, _, rfl, ?_⟩)
          rw [notNon_oV]
          cases e2 : p.2.hi with
          | none =>
            rw [e2] at go
            exact iteF (iteF (go rfl))
          | some y =>
            refine iteT ⟨_, rfl, _, rfl, _, _, rfl, rfl, _, rfl, ?_⟩
            rw [e2] at go nk
            by_cases hy : y < sm
            · rw [decide_eq_true hy]
              exact iteT (k2 (nk (by simp [within]; omega)) _ e4)
            · rw [decide_eq_false hy]
              exact iteF (go (by simp [within]; omega))
        | some x =>
          rw [e1] at go nk
          refine iteT ⟨_, rfl, _, rfl, _, _, rfl, rfl, _, rfl, ?_⟩
          by_cases hx : sm < x
          · rw [decide_eq_true hx]
            exact iteT (iteT (k2 (nk (by simp [within]; omega)) _ e4))
          · rw [decide_eq_false hx]
            refine iteF ⟨_, rfl, _, rfl, ?_⟩
            rw [notNon_oV]
            cases e2 : p.2.hi with
            | none =>
              rw [e2] at go
              exact iteF (iteF (go (by simp [within]; omega)))
            | some y =>
              refine iteT ⟨_, rfl, _, rfl, _, _, rfl, rfl, _, rfl, ?_⟩
              rw [e2] at go nk
              by_cases hy : y < sm
              · rw [decide_eq_true hy]
                exact iteT (k2 (nk (by simp [within]; omega)) _ e4)
              · rw [decide_eq_false hy]
                exact iteF (go (by simp [within]; omega))
      · obtain ⟨v5', v6', rfl, e3, hw⟩ := hP
        refine ⟨_, _, _, _, _, rfl, e3, fun i' p' hi' ep => ?_⟩
        rcases Nat.lt_succ_iff_lt_or_eq.mp hi' with z | z
        · exact hk i' p' z ep
        · subst z
          rw [hp] at ep
          cases ep
          exact fun b hb => hw b (by omega)
    · obtain ⟨v2, v3, v4, v5, v6, rfl, e, hk⟩ := hP
      refine k1 (fun r hr' => ?_) _ e
      rw [← ers] at hr'
      obtain ⟨p, hp, rfl⟩ := List.mem_map.mp hr'
      obtain ⟨i, hi⟩ := List.getElem?_of_mem hp
      exact hk i p (by rw [refs_len]; exact (List.getElem?_eq_some_iff.mp hi).1) hi
end
end K15

/-! K15L9: the refusal that is heard. -/
namespace K15
open PySem PySem.Spec PyProof.Rows L2
structure TxtH (K : PySem.W.Frag) : Prop where
  exm : PySem.W.exmOne K (.ref (cI K)) (.ref (cD K)) = some true
  isI : PySem.W.isIn K (.ref (cI K)) (cI K) = true
  g1 : PySem.W.findIn K (.ref (cI K)) "__getattribute__" = some (some (.builtin "BaseException.__getattribute__"))
  g2 : ∃ gt, PySem.W.findIn K (.ref (cI K)) "__getattr__" = some gt
  sub : PySem.W.subIn K (.ref (cI K)) (.type "BaseException") = some true
  hd : PySem.W.hasDictIn K (cI K) = true
/-- heard: it raises, and what it raises holds a paper -/
def TTheard (K : PySem.W.Frag) : (XK → Hp → VK → Prop) → Hp → VK → Prop := fun tl H Q => ∀ NQ : VK,
  tl (fun cls d H' => cls = .ref (cI K) ∧ ∃ e dd, d = some dd ∧ H' dd = some (.xd [("paper", .ref e)]) ∧ ∀ H'', Ext H' H'' → Q (.ref e) H'') H NQ
theorem scHeard : FnScope ["_law_ask", "_law_caught", "error"] ["_law_ask"] (defScope sHeard) := ⟨rfl, rfl, rfl, by decide +kernel, rfl, by decide +kernel, by decide +kernel⟩
theorem heard_gives {X : Cx} {g : Addr} {cdg : Value} {q : Str} (T : Txt X.K X.mg) (TP : TxtP X.K) (TH : TxtH X.K) : LamX.GivesTo X ["_law_ask", "_law_caught", "error"] "_law_heard" (defScope sHeard) g cdg (defBody sHeard) "_law_ask" q (TTheard X.K) := by
  intro f c' s H Q tl act hc h
  refine ⟨_, pss_cons (ps_set (X := (cxOf C8.CX0 X.prog X.w X.K X.mg X.base ["_law_ask", "_law_caught", "error"] "_law_heard" (defScope sHeard) g cdg X.A X.stack s H C8.E0).nox) (i := 1) scHeard.nd rfl (Or.inl rfl) pe_non) <|
    pss_cons (ps_try_keep (X := (cxOf C8.CX0 X.prog X.w X.K X.mg X.base ["_law_ask", "_law_caught", "error"] "_law_heard" (defScope sHeard) g cdg X.A X.stack s H C8.E0).nox) (c := .ref (cD X.K)) (i := 2)
      (tb := fun W D σ H => ∃ Ech : XK, (∀ cls d σ' H', Ech cls d H' → W cls d σ' H') ∧ σ[0]? = some (some (.ref f)) ∧ H c' = some (LamX.CodeO c' q) ∧ ∀ NQ : VK, tl Ech H NQ)
      (ts := fun a cls d => tAsg (tVar 2) (gName 1)) rfl rfl rfl scHeard.nd rfl rfl ⟨rfl, rfl, .inl T.mD⟩ (fun W pn xe tk _ => ?_)
      (fun a oe cls d pn => pss_one (ps_set (i := 1) scHeard.nd rfl (Or.inl rfl) (pv 2)))) <|
    pss_cons (ps_if (pt_val (pe_callB (call_isx) (by rfl) T.isi bIsi (pa_cons (pv 1) (pa_cons (pe_glob (v := .ref (cI X.K)) rfl T.mI rfl) pa_nil)))) (pss_one (ps_ret (pe_exf (pv 1)))) pss_nil) pss_never, ?_⟩
  · refine ⟨fun pins s' σ H' D I h' => ?_⟩
    obtain ⟨Ech, hW, h1, h2, h3⟩ := h'
    exact (pss_one (ps_expr (act W pn xe Ech _ _ tk hW))).run pins s' σ H' D I ⟨h1, h2, h3 _⟩
  · refine ⟨fun cls d H' => cls = .ref (cI X.K) ∧ ∃ e dd, d = some dd ∧ H' dd = some (.xd [("paper", .ref e)]) ∧ ∀ H'', Ext H' H'' → Q (.ref e) H'', fun cls d σ' H' hE => ?_, rfl, hc, h⟩
    intro hl
    obtain ⟨rfl, e, dd, rfl, hd, k⟩ := hE
    obtain ⟨x0, x1, x2, rfl⟩ : ∃ x0 x1 x2 : Option V, σ' = [x0, x1, x2] := by
      cases σ' with
      | nil => cases hl
      | cons x0 r =>
        cases r with
        | nil => cases hl
        | cons x1 r =>
          cases r with
          | nil => cases hl
          | cons x2 r =>
            cases r with
            | nil => exact ⟨x0, x1, x2, rfl⟩
            | cons x3 r => cases hl
    refine ⟨TH.exm, fun a na => ⟨_, rfl, fun _ => ?_⟩⟩
    have e1 : Ext H' (upd H' a (exk a (.ref (cI X.K)) (some dd))) := Ext.new na
    refine ⟨_, rfl, a, some dd, cI X.K, rfl, upd_same, TH.isI, _, rfl, iteT ⟨_, rfl, a, dd, cI X.K, _, _, rfl, upd_same, e1 _ _ hd, lookA, TH.g1, TH.g2, TH.sub, TH.hd, TP.np, k _ e1⟩⟩
end K15

/-! K15LA: what one judging needs. -/
namespace K15
open PySem PySem.Spec PyProof.Rows L2
theorem noHit_or (d : Int) (rs : List Rl) : NoHit d rs ∨ ∃ i j, First d rs i j := by
  have inner : ∀ r : Rl, ∀ m : Nat, (∀ (j : Nat) (s : Rl), j < m → rs[j]? = some s → hit d r s = false) ∨ ∃ (j : Nat) (s : Rl), rs[j]? = some s ∧ hit d r s = true ∧ ∀ (j' : Nat) (s' : Rl), j' < j → rs[j']? = some s' → hit d r s' = false := by
    intro r m
    induction m with
    | zero => exact .inl fun j s h => absurd h (Nat.not_lt_zero _)
    | succ m ih =>
      rcases ih with ih | ih
      · cases e : rs[m]? with
        | none =>
          refine .inl fun j s hj hs => ?_
          rcases Nat.lt_succ_iff_lt_or_eq.mp hj with z | z
          · exact ih j s z hs
          · subst z
            rw [e] at hs
            cases hs
        | some s0 =>
          cases h : hit d r s0 with
          | true => exact .inr ⟨m, s0, e, h, ih⟩
          | false =>
            refine .inl fun j s hj hs => ?_
            rcases Nat.lt_succ_iff_lt_or_eq.mp hj with z | z
            · exact ih j s z hs
            · subst z
              rw [e] at hs
              cases hs
              exact h
      · exact .inr ih
  have outer : ∀ n : Nat, (∀ (i j : Nat) (r s : Rl), i < n → rs[i]? = some r → rs[j]? = some s → hit d r s = false) ∨ ∃ i j : Nat, First d rs i j := by
    intro n
    induction n with
    | zero => exact .inl fun i j r s h => absurd h (Nat.not_lt_zero _)
    | succ n ih =>
      rcases ih with ih | ih
      · cases e : rs[n]? with
        | none =>
          refine .inl fun i j r s hi hr hs => ?_
          rcases Nat.lt_succ_iff_lt_or_eq.mp hi with z | z
          · exact ih i j r s z hr hs
          · subst z
            rw [e] at hr
            cases hr
        | some r0 =>
          rcases inner r0 rs.length with h | ⟨j, s, h1, h2, h3⟩
          · refine .inl fun i j r s hi hr hs => ?_
            rcases Nat.lt_succ_iff_lt_or_eq.mp hi with z | z
            · exact ih i j r s z hr hs
            · subst z
              rw [e] at hr
              cases hr
              exact h j s (List.getElem?_eq_some_iff.mp hs).1 hs
          · refine .inr ⟨n, j, ⟨r0, s, e, h1, h2⟩, fun i' j' r' s' hr' hs' hh => ?_⟩
            rcases Nat.lt_trichotomy i' n with z | z | z
            · rw [ih i' j' r' s' z hr' hs'] at hh
              cases hh
            · subst z
              rw [e] at hr'
              cases hr'
              refine .inr ⟨rfl, Nat.le_of_not_lt fun z => ?_⟩
              rw [h3 j' s' z hs'] at hh
              cases hh
            · exact .inl z
      · exact .inr ih
  rcases outer rs.length with h | h
  · refine .inl fun r hr s hs => ?_
    obtain ⟨i, hi⟩ := List.getElem?_of_mem hr
    obtain ⟨j, hj⟩ := List.getElem?_of_mem hs
    exact h i j r s (List.getElem?_eq_some_iff.mp hi).1 hi hj
  · exact .inr h
/-! ### data of rules told -/
def dO : Option Int → PyData
  | none => .none
  | some x => .int x
def dTpl (r : Rl) : PyData := .tuple [.int r.len, dO r.lo, dO r.hi]
theorem dp_oV {K : PySem.W.Frag} {H : Hp} (o : Option Int) : Dp K H (oV o) (dO o) := by
  cases o with
  | none => exact .non
  | some x => exact .int x
theorem dp_refs {K : PySem.W.Frag} {H : Hp} : ∀ prs : List PR, TupsAt H prs → DpAll K H (refs prs) ((prs.map (·.2)).map dTpl)
  | [], _ => .nil
  | p :: r, h => .cons (.tup (SqT.of (h p (by simp))) (.cons (.int _) (.cons (dp_oV _) (.cons (dp_oV _) .nil)))) (dp_refs r fun q hq => h q (List.mem_cons_of_mem _ hq))
theorem rls_dp {K : PySem.W.Frag} {H : Hp} {l : Addr} {rs : List Rl} (h : RlsAt H l rs) : Dp K H (.ref l) (.list (rs.map dTpl)) := by
  obtain ⟨prs, h1, h2, rfl⟩ := h
  exact .lst (SqL.of h1) (dp_refs prs h2)
theorem can_dO (o : Option Int) : (dO o).canLay0 = true := by cases o <;> simp [dO, PyData.canLay0]
theorem depth_dO (o : Option Int) : (dO o).depth = 0 := by cases o <;> simp [dO, PyData.depth]
theorem can_rls (rs : List Rl) : PyData.canLay0 (.list (rs.map dTpl)) = true := by
  have := dat_can (f := dTpl) (fun r => by simp [dTpl, PyData.canLay0, PyData.canLayAll0, can_dO]) rs
  simpa [PyData.canLay0] using this
theorem shaped_rls (rs : List Rl) : SeqAt.shaped (.list (rs.map dTpl)) = true := by
  unfold SeqAt.shaped
  have h2 := dat_depth (f := dTpl) (k := 1) (fun r => by simp [dTpl, PyData.depth, PyData.depthAll, depth_dO]) rs
  rw [can_rls, Bool.true_and]
  refine decide_eq_true ?_
  simp only [PyData.depth]
  omega
theorem ne_rls {K : PySem.W.Frag} {H : Hp} {l k : Addr} {rs : List Rl} {Q : VK} (h : RlsAt H l rs) (h' : RlsAt H k rs) (q : Q (.bl false) H) : rNeD K (.ref l) (.ref k) H Q := by
  refine ⟨_, _, rls_dp h, rls_dp h', shaped_rls rs, shaped_rls rs, ?_⟩
  rw [PySem.SeqAt.eqv_refl _ (can_rls rs)]
  exact q
theorem ne_tup {K : PySem.W.Frag} {H : Hp} {l k : Addr} {ns : List Int} {Q : VK} (h : H l = some (.tup (ns.map V.int))) (h' : H k = some (.tup (ns.map V.int))) (q : Q (.bl false) H) : rNeD K (.ref l) (.ref k) H Q := by
  have c : PyData.canLay0 (.tuple (ns.map PyData.int)) = true := by
    have := dat_can (f := PyData.int) (fun a => by simp [PyData.canLay0]) ns
    simpa [PyData.canLay0] using this
  have s : SeqAt.shaped (.tuple (ns.map PyData.int)) = true := by
    unfold SeqAt.shaped
    have h2 := dat_depth (f := PyData.int) (k := 0) (fun a => by simp [PyData.depth]) ns
    rw [c, Bool.true_and]
    refine decide_eq_true ?_
    simp only [PyData.depth]
    omega
  refine ⟨_, _, .tup (SqT.of h) (dp_ints ns), .tup (SqT.of h') (dp_ints ns), s, s, ?_⟩
  rw [PySem.SeqAt.eqv_refl _ c]
  exact q
/-! ### heaps where tables are written -/
theorem _root_.L2.Ext.n {H H' : Hp} (e : Ext H H') : LamX.ExtN H H' := fun b o h _ => e b o h
theorem ExtN.lst {H H' : Hp} (e : LamX.ExtN H H') {a : Addr} {xs : List V} (h : H a = some (.lst xs)) : H' a = some (.lst xs) := e _ _ h fun ps z => by cases z
theorem ExtN.tup {H H' : Hp} (e : LamX.ExtN H H') {a : Addr} {xs : List V} (h : H a = some (.tup xs)) : H' a = some (.tup xs) := e _ _ h fun ps z => by cases z
theorem ExtN.ins {H H' : Hp} (e : LamX.ExtN H H') {a C d : Addr} {fs : List (Str × V)} (h : H a = some (.ins C d fs)) : H' a = some (.ins C d fs) := e _ _ h fun ps z => by cases z
theorem PenAt.extN {H H' : Hp} {p : Addr} {n : Nat} (h : PenAt H p n) (e : LamX.ExtN H H') : PenAt H' p n := by
  obtain ⟨c, cs, t, r, h1, h2, h3⟩ := h
  exact ⟨c, cs, t, r, ExtN.lst e h1, ExtN.lst e h2, h3⟩
theorem RlsAt.extN {H H' : Hp} {l : Addr} {rs : List Rl} (h : RlsAt H l rs) (e : LamX.ExtN H H') : RlsAt H' l rs := by
  obtain ⟨prs, h1, h2, h3⟩ := h
  exact ⟨prs, ExtN.lst e h1, fun p hp => ExtN.tup e (h2 p hp), h3⟩
theorem RowsAt.extN {H H' : Hp} {l : Addr} {d : Nat} (h : RowsAt H l d) (e : LamX.ExtN H H') : RowsAt H' l d := by
  obtain ⟨a, h1, h2, h3⟩ := h
  exact ⟨a, ExtN.lst e h1, fun p hp => ExtN.lst e (h2 p hp), h3⟩
theorem BookAt.extN {K : PySem.W.Frag} {H H' : Hp} {b : Addr} {d : Nat} {rs : List Rl} (h : BookAt K H b d rs) (e : LamX.ExtN H H') : BookAt K H' b d rs := by
  obtain ⟨dx, t, prs, h1, h2, h3, h4⟩ := h
  exact ⟨dx, t, prs, ExtN.ins e h1, ExtN.tup e h2, fun p hp => (h3 p hp).imp fun d z => ExtN.ins e z, h4⟩
/-! ### keywords in another order -/
structure CalKE (P : Program) (w : World) (K : PySem.W.Frag) (mg : Str → Option Value) (base : Heap) : Prop where
  ex : ∃ f fd, FnOk P w K mg base CX0 4 f fd ["self", "one", "other"] (spEmptyI K) ∧ Mk K (cE K) f ∧ mg "Empty" = some (.ref (cE K)) ∧ KBn K fd ["self", "one", "other"] 1 ["other", "one"] (fun us ws => us ++ ws.reverse) (fun vs zs => vs ++ zs.reverse)
/-- a def whose code object is at c -/
structure FDC (K : PySem.W.Frag) (x qual : Str) (st : Stmt) (f : Addr) (fd : FuncData) (c : Addr) : Prop where
  ex : ∃ (oc : Value) (od : Option Addr) (kV doc pm : Value) (an : Option Addr) (ct : Value) (osl : Array (Option Value)),
    fd = PySem.W.fnOf x qual (defArgs st) (defBody st) (defScope st) .none kV doc pm an (.ref c) ct ∧ K.lookup f = some ⟨oc, od, .func fd, osl⟩ ∧ PySem.W.codeIn K (.ref c) qual = true
theorem FDC.ok {P : Program} {w : World} {K : PySem.W.Frag} {mg : Str → Option Value} {base : Heap} {x qual : Str} {st : Stmt} {f c : Addr} {fd : FuncData} {N ps : List Str} {k : Nat} {sp : Sp} (F : FDC K x qual st f fd c) (S : FnScope N ps (defScope st)) (len : ∀ vs H Q E, sp vs H Q E → vs.length = ps.length)
    (hbody : ∀ (A : Around) (outer : List Env) (s : Shared) (H : Hp) (vs : List V) (Q : VK) (E : XK), Room k (A.deeper (envOfC qual (defScope st) s.heap.objs.size f (.ref c))) → sp vs H Q E →
      ∃ t, PSs (cxOf CX0 P w K mg base N qual (defScope st) f (.ref c) A outer s H E).nox (defBody st) t ∧ t { nx := fun _ H' => Q .non H', rt := Q } (start N vs) H) : FnOk P w K mg base CX0 (k + 1) f fd ps sp := by
  obtain ⟨oc, od, kV, doc, pm, an, ct, osl, rfl, lk, hcd⟩ := F.ex
  exact fn_of lk hcd S len fun A outer s H vs Q E hr hsp => (hbody A outer s H vs Q E hr hsp).imp fun _ z => ⟨z.1.nox, z.2⟩
end K15

/-! K15LB: one judging. -/
namespace K15
open PySem PySem.Spec PyProof.Rows L2
abbrev NR : List Str := ["_law_days", "_law_rules", "_law_rows_here", "_law_book", "_law_pair_here", "_law_due_here", "_law_paper", "_law_one", "_law_gains", "_law_told"]
abbrev qLam : Str := ("_law_together_right" : Str) ++ ".<locals>." ++ "<lambda>"
abbrev rLen2 (K : PySem.W.Frag) : List V → Hp → VK → Prop := fun xs H Q => ∃ p ys, xs = [.ref p] ∧ (SqL K H p ys ∨ SqT K H p ys) ∧ Q (.int ys.length) H
structure CtxR (P : Program) (w : World) (K : PySem.W.Frag) (mg : Str → Option Value) (base : Heap) : Prop where
  T : Txt K mg
  TP : TxtP K
  TH : TxtH K
  bookI : CalC P w K mg base CX0 4 (cB K) "Book" ["self", "days", "rules"] (spBookI K)
  rowI : CalC P w K mg base CX0 3 (cW K) "Row" ["self", "gains"] (spRowI K)
  emptyK : CalKE P w K mg base
  made : Cal P w K mg base CX0 6 "_law_made" ["_law_rules"] (spMade K)
  pair : Cal P w K mg base CX0 1 "_law_pair" ["_law_days", "_law_rules"] spPairL
  due : Cal P w K mg base CX0 1 "_law_due" ["_law_days", "_law_rules"] spDue
  plain : Cal P w K mg base CX0 1 "_law_plain" ["_law_book"] (spPlain K)
  keeps : Cal P w K mg base CX0 1 "_law_keeps" ["_law_gains", "_law_rules"] spKeepsL
  tog : CalM P w K mg base CX0 7 (cB K) "together" ["self"] (spTog K)
  togX : CalM P w K mg base (L2.CX P w) 6 (cB K) "together" ["self"] (spTogX K)
  bkeeps : CalM P w K mg base CX0 5 (cB K) "keeps" ["self", "row"] (spBookK K)
  beq : CalM P w K mg base CX0 3 (cB K) "__eq__" ["self", "other"] (spEq (rBook K))
  neB : PySem.W.findIn K (.ref (cB K)) "__ne__" = some (some (.builtin "object.__ne__"))
  eeq : CalM P w K mg base CX0 1 (cE K) "__eq__" ["self", "other"] (spEq (rPaper K))
  neE : PySem.W.findIn K (.ref (cE K)) "__ne__" = some (some (.builtin "object.__ne__"))
  ebool : CalM P w K mg base CX0 1 (cE K) "__bool__" ["self"] spFalse
  heard : ∃ g fd, FN K "_law_heard" sHeard g fd ∧ mg "_law_heard" = some (.ref g) ∧ Binds K fd ["_law_ask"] []
def spRight (T : List (Addr × Str)) : Sp := fun vs H Q _ => ∃ (l rw : Addr) (d : Nat) (rs : List Rl), vs = [.int (d : Int), .ref l, .ref rw] ∧ 1 ≤ d ∧ d ≤ 48 ∧ RlsAt H l rs ∧ (∀ r ∈ rs, r.Ok) ∧ rs.length ≤ 8 ∧ RowsAt H rw d ∧ LamX.Tabs T H ∧
  ∀ H', LamX.ExtN H H' → LamX.Tabs T H' → Q (.bl true) H'
theorem two {A : Prop} {kb : Bool} {Q : VK} {H : Hp} (h : kb = true ↔ A) (q : ∀ H', Ext H H' → Q (.bl kb) H') : (A → ∀ H', Ext H H' → Q (.bl true) H') ∧ (¬ A → ∀ H', Ext H H' → Q (.bl false) H') := by
  cases kb with
  | true => exact ⟨fun _ => q, fun n => absurd (h.mp rfl) n⟩
  | false => exact ⟨fun a => absurd (h.mpr a) Bool.false_ne_true, fun _ => q⟩
theorem fm_none {α : Type} : ∀ l : List α, (l.filterMap fun _ => (none : Option V)) = []
  | [] => rfl
  | a :: r => by
    rw [List.filterMap_cons]
    exact fm_none r
section
variable {P : Program} {w : World} {K : PySem.W.Frag} {mg : Str → Option Value} {base : Heap} {f c Pt : Addr} {fd : FuncData}
theorem scRight : FnScope NR ["_law_days", "_law_rules", "_law_rows_here"] (defScope sRight) := ⟨rfl, rfl, rfl, by decide +kernel, rfl, by decide +kernel, by decide +kernel⟩
theorem ok_right (F : FDC K "_law_together_right" "_law_together_right" sRight f fd c) (C : CtxR P w K mg base) (TB : LamX.TabB base mg c Pt) : FnOk P w K mg base CX0 9 f fd ["_law_days", "_law_rules", "_law_rows_here"] (spRight [(Pt, qLam)]) := by
  have T := C.T
  have TP := C.TP
  obtain ⟨g, fdg, Fg, mgg, bg⟩ := C.heard
  obtain ⟨ocg, odg, dVg, kVg, docg, pmg, ang, cdvg, ctg, oslg, efg, lkg, hcg, _, _⟩ := Fg.ex
  subst efg
  obtain ⟨fB, fdB, FB, mB, bB⟩ := C.ebool
  obtain ⟨fQ, fdQ, FQ, mQ, bQ⟩ := C.eeq
  obtain ⟨fR, fdR, FR, mR, bR⟩ := C.beq
  obtain ⟨fE, fdE, FE, ME, mgE, bE⟩ := C.emptyK.ex
  refine F.ok scRight (fun vs H Q E h => ?_) (fun A outer s H vs Q E hr h => ?_)
  · obtain ⟨l, rw, d, rs, rfl, _⟩ := h
    rfl
  · obtain ⟨l, rw, d, rs, rfl, d1, d2, hl, hok, hz, hrw, hT, q⟩ := h
    refine ⟨_, pss_cons (ps_asg (pe_tup (pa_cons (pe_calC C.bookI (hr.mono (by decide)) rfl pass0 (pa_cons (pv 0) (pa_cons (pe_cal C.made (hr.mono (by decide)) rfl pass0 (pa_cons (pv 1) pa_nil)) pa_nil)))
        (pa_cons (pe_cal C.pair (hr.mono (by decide)) rfl pass0 (pa_cons (pv 0) (pa_cons (pv 1) pa_nil))) (pa_cons (pe_cal C.due (hr.mono (by decide)) rfl pass0 (pa_cons (pv 0) (pa_cons (pv 1) pa_nil))) pa_nil))))
        (pg_tup rfl (pgs_cons (pg_name (i := 3) scRight.nd rfl (Or.inr rfl)) (pgs_cons (pg_name (i := 4) scRight.nd rfl (Or.inl rfl)) (pgs_cons (pg_name (i := 5) scRight.nd rfl (Or.inl rfl)) pgs_nil))))) <|
      pss_cons (ps_if (pt_cmp (pc_notN (pv 4)))
        (pss_cons (ps_set (i := 6) scRight.nd rfl (Or.inl rfl) (LamX.pe_lamcall (T := [(Pt, qLam)]) (t := fun E => tMeth (cB K) "together" (spTogX K) [] E (tVar 3) tNil) (k := 6) (Ng := ["_law_ask", "_law_caught", "error"]) rfl mgg Fg.kp lkg hcg bg scHeard rfl (Or.inl rfl) (heard_gives T TP C.TH) TB rfl
            (by exact List.mem_cons_self) (fun p hp _ => by rw [List.mem_singleton.mp hp]; rfl) hr (LamX.lamS_by (by show LamX.lamSB (defScope sRight) _ = true; decide +kernel)) (by rfl) (fun _ _ _ _ _ => rfl)
            (fun A outer s H E f c' hr2 => pe_calM0 (pv 3) T.iB.cl C.togX hr2 (passes_call (takes_of rfl rfl rfl rfl) (fun _ _ _ _ h => h))))) <|
          pss_cons (ps_if (PW.pt (pw_or (pt_not (pt_val (pe_callB (r := rIsi K) call_isi (by rfl) T.isi bIsi (pa_cons (pv 6) (pa_cons (pe_glob (v := .ref (cE K)) rfl T.mE rfl) pa_nil))))) <| pw_or (pt_not (pt_val (pe_callB (r := rIsi K) call_isi (by rfl) T.isi bIsi (pa_cons (pv 6) (pa_cons (pe_glob (v := .ref (cN K)) rfl T.mN rfl) pa_nil))))) <|
            pw_or (pt_ownB (E := E0) (pv 6) FB mB.at_ mB.fn (hr.mono (by decide)) bB pass0) <| pw_or (pt_cmpR op_ne (pe_fld (pv 6) rfl) pe_str (nomark _)) <| pw_or1 (pt_cmpR (op_neD hr.units) (pe_fld (pv 6) rfl) (pv 4) (nomark _)))) pss_never pss_nil) <|
          pss_cons (ps_if (PW.pt (pw_or (pt_cmpR (op_neD hr.units) (pe_tup (pa_cons (pe_fld (pv 6) rfl) (pa_cons (pe_fld (pv 6) rfl) pa_nil))) (pv 4) (nomark _)) <|
            pw_or (pt_cmpR (op_neD hr.units) (pe_lc (own := [("_law_one", 7)]) (g := gName 7) (tt := tB (tCB (rIsi K) (tCons (tVar 7) (tCons (tC (.ty "bool")) tNil)))) (te := tVar 7) rfl scRight.nd (pi_tup (pe_fld (pv 6) rfl)) (blkOk_by (N := NR) (sc := defScope sRight) (by decide +kernel)) (fun _ _ _ _ _ => pg_name (i := 7) scRight.nd rfl (Or.inl rfl))
              (fun _ _ _ _ _ => pts_one (pt_val (pe_callB (r := rIsi K) call_isi (by rfl) T.isi bIsi (pa_cons (pv 7) (pa_cons (pe_bltn rfl T.bool bBool (v := .ty "bool") rfl) pa_nil))))) (fun _ _ _ _ _ => pv 7)) (pe_lst pa_nil) (nomark _)) <|
            pw_or1 (pt_cmpR (op_neIns (E := E0) FQ T.iE.hm C.neE mQ.at_ mQ.fn bQ pass0 (hr.mono (by decide))) (pv 6) (pe_makeK0 ME FE (hr.mono (by decide)) rfl mgE bE pass0 (pk_cons (pe_ix ix_tup (pv 4) pe_int (fun _ _ => rfl)) (pk_cons (pe_ix ix_tup (pv 4) pe_int (fun _ _ => rfl)) pk_nil))) (nomark _)))) pss_never pss_nil) <|
          pss_one (ps_ret (pe_cmpR (op_eqD hr.units) (pe_lc (own := [("_law_gains", 8)]) (g := gName 8) (tt := tAnd (tTest (tOp rEq (tCB (rLen2 K) (tCons (tVar 8) tNil)) (tVar 0))) (tB (tMeth (cB K) "keeps" (spBookK K) [] E0 (tVar 3) (tCons (tMake (cW K) (spRowI K) [] E0 (tCons (tVar 8) tNil)) tNil)))) (te := tVar 8) rfl scRight.nd (pi_list (pv 2))
            (blkOk_by (N := NR) (sc := defScope sRight) (by decide +kernel)) (fun _ _ _ _ _ => pg_name (i := 8) scRight.nd rfl (Or.inl rfl))
            (fun _ _ _ _ _ => pts_one (PW.pt (pw_and (pt_cmpR op_eq (pe_callB (r := rLen2 K) call_len_seq (by rfl) T.len bLen (pa_cons (pv 8) pa_nil)) (pv 0) (nomark _)) <| pw_and1 (pt_val (pe_calM (pv 3) T.iB.cl C.bkeeps (hr.mono (by decide)) pass0 (pa_cons (pe_calC C.rowI (hr.mono (by decide)) rfl pass0 (pa_cons (pv 8) pa_nil)) pa_nil))))))
            (fun _ _ _ _ _ => pv 8)) (pe_lst pa_nil) (nomark _))))
        pss_nil) <|
      pss_cons (ps_set (i := 9) scRight.nd rfl (Or.inl rfl) (pe_calM0 (pv 3) T.iB.cl C.tog (hr.mono (by decide)) pass0)) <|
      pss_cons (ps_if (PW.pt (pw_or (pt_not (pt_val (pe_callB (r := rIsi K) call_isi (by rfl) T.isi bIsi (pa_cons (pv 9) (pa_cons (pe_glob (v := .ref (cB K)) rfl T.mB rfl) pa_nil))))) <| pw_or (pt_cmpR op_ne (pe_fld (pv 9) rfl) (pv 0) (nomark _)) <|
          pw_or (pt_cmpR (op_neD hr.units) (pe_cal C.plain (hr.mono (by decide)) rfl pass0 (pa_cons (pv 9) pa_nil)) (pv 5) (nomark _)) <|
          pw_or (pt_cmpR (op_neIns (E := E0) FR T.iB.hm C.neB mR.at_ mR.fn bR pass0 (hr.mono (by decide))) (pe_calM0 (pv 9) T.iB.cl C.tog (hr.mono (by decide)) pass0) (pv 9) (nomark _)) <|
          pw_or1 (pt_cmpR (op_neIns (E := E0) FR T.iB.hm C.neB mR.at_ mR.fn bR pass0 (hr.mono (by decide))) (pv 9) (pe_calC C.bookI (hr.mono (by decide)) rfl pass0 (pa_cons (pv 0) (pa_cons (pe_cal C.made (hr.mono (by decide)) rfl pass0 (pa_cons (pv 5) pa_nil)) pa_nil))) (nomark _)))) pss_never pss_nil) <|
      pss_cons (ps_if (PW.pt (pw_or (pt_cmpR (op_neD hr.units) (pe_cal C.plain (hr.mono (by decide)) rfl pass0 (pa_cons (pv 3) pa_nil)) (pv 1) (nomark _)) <| pw_or1 (pt_cmpR op_ne (pe_fld (pv 3) rfl) (pv 0) (nomark _)))) pss_never pss_nil) <|
      pss_cons (ps_for PassesOwn.never rfl (pi_list (pv 2)) (pg_name (i := 8) scRight.nd rfl (Or.inl rfl)) <|
        pss_one (ps_if (PW.pt (pw_and (pt_cmpR op_eq (pe_callB call_len_seq (by rfl) T.len bLen (pa_cons (pv 8) pa_nil)) (pv 0) (nomark _)) <| pw_and1 (pt_not (pt_chain op_eq op_eq (pe_calM (pv 9) T.iB.cl C.bkeeps (hr.mono (by decide)) pass0 (pa_cons (pe_calC C.rowI (hr.mono (by decide)) rfl pass0 (pa_cons (pv 8) pa_nil)) pa_nil))
          (pe_calM (pv 3) T.iB.cl C.bkeeps (hr.mono (by decide)) pass0 (pa_cons (pe_calC C.rowI (hr.mono (by decide)) rfl pass0 (pa_cons (pv 8) pa_nil)) pa_nil)) (pe_cal C.keeps (hr.mono (by decide)) rfl pass0 (pa_cons (pv 8) (pa_cons (pv 1) pa_nil))))))) pss_never pss_nil)) <|
      pss_one (ps_ret pe_bl), ?_⟩
    refine ⟨_, rfl, _, rfl, l, rs, rfl, hl, hok, by omega, fun H1 D prs e1 hD hR em x dx nx ndx nex => ?_⟩
    have em8 : prs.length ≤ 8 := by
      have z := congrArg List.length em
      rw [List.length_map] at z
      omega
    refine ⟨x, D, dx, d, prs, rfl, upd_same, d1, d2, ?_, ?_, em8, fun H2 e2 hb2 => ⟨rfl, ?_⟩⟩
    · rw [upd_ne (ne_of_none hD nx), upd_ne (ne_of_none hD ndx)]
      exact hD
    · intro z hz'
      obtain ⟨dz, hdz⟩ := hR z hz'
      exact ⟨dz, by rw [upd_ne (ne_of_none hdz nx), upd_ne (ne_of_none hdz ndx)]; exact hdz⟩
    have e02 : Ext H H2 := e1.trans (ExtB.made nx ndx e2)
    rw [em] at hb2
    refine ⟨_, rfl, _, rfl, l, d, rs, rfl, hl.ext e02, fun hno H3 e3 => ?_, fun i j hf H3 t e3 ht => ?_⟩
    · refine ⟨_, rfl, _, rfl, l, d, rs, rfl, hl.ext (e02.trans e3), by omega, by omega, fun H4 Dd e4 hDd => ⟨by show 3 ≤ sizeLine; decide, fun u nu => ?_⟩⟩
      have e05 := (e02.trans (e3.trans e4)).up (o := .tup [.ref x, .non, .ref Dd]) nu
      have hb5 := hb2.ext ((e3.trans e4).up (o := .tup [.ref x, .non, .ref Dd]) nu)
      have hD5 := hDd.ext (Ext.new (o := .tup [.ref x, .non, .ref Dd]) nu)
      refine gTri (SqT.of upd_same) ?_
      generalize upd H4 u (.tup [.ref x, .non, .ref Dd]) = H5 at e05 hb5 hD5
      refine ⟨_, rfl, false, rfl, iteF ?_⟩
      obtain ⟨bx, bt, bprs, hbx, _⟩ := id hb5
      have dueL : (due d rs).length ≤ 8 := Nat.le_trans (due_length hok) hz
      have dueO := due_ok hok hno
      refine ⟨_, rfl, x, bx, _, rfl, hbx, bk_no (by decide +kernel) (by decide +kernel), x, d, rs, rfl, hb5, hok, hz, d1, d2, hno, fun H6 p e6 hp => ?_⟩
      obtain ⟨px, pt, pprs, hpx, _⟩ := id hp
      refine ⟨_, rfl, .ref p, .ref (cB K), .ref (cB K), .ref (cB K), true, rfl, .own _, T.ty T.iB hpx, T.kBB, true, rfl, iteF ?_⟩
      refine ⟨_, rfl, p, cB K, px, _, _, rfl, hpx, T.iB.cl, T.bDays, bk_days d pt, _, rfl, rfl, _, rfl, ?_⟩
      rw [show (!decide (V.int (d : Int) = V.int (d : Int))) = false by simp]
      refine iteF ⟨_, rfl, p, d, due d rs, rfl, hp, by omega, fun H7 D7 e7 h7 => ⟨_, rfl, ne_rls h7 (hD5.ext (e6.trans e7)) ⟨_, rfl, iteF ?_⟩⟩⟩
      refine ⟨_, rfl, p, px, _, rfl, e7 _ _ hpx, bk_no (by decide +kernel) (by decide +kernel), p, d, due d rs, rfl, hp.ext e7, dueO, dueL, d1, d2, due_noHit hok hno, fun H8 p2 e8 hp2 => ?_⟩
      rw [due_due hok hno] at hp2
      obtain ⟨px2, pt2, pprs2, hpx2, _⟩ := id hp2
      refine ⟨_, rfl, ⟨p2, p, px2, px, _, _, rfl, rfl, hpx2, (e7.trans e8) _ _ hpx, d, due d rs, hp2, hp.ext (e7.trans e8)⟩, fun H9 e9 => ⟨_, rfl, iteF ?_⟩⟩
      have e59 := ((e6.trans e7).trans e8).trans e9
      refine ⟨_, rfl, _, rfl, _, rfl, Dd, due d rs, rfl, hD5.ext e59, dueO, by omega, fun H10 D10 prs10 e10 hD10 hR10 em10 x10 dx10 nx10 ndx10 nex10 => ?_⟩
      have lm10 : prs10.length ≤ 8 := by
        have z := congrArg List.length em10
        rw [List.length_map] at z
        omega
      refine ⟨x10, D10, dx10, d, prs10, rfl, upd_same, d1, d2, ?_, ?_, lm10, fun H11 e11 hb11 => ⟨rfl, ?_⟩⟩
      · rw [upd_ne (ne_of_none hD10 nx10), upd_ne (ne_of_none hD10 ndx10)]
        exact hD10
      · intro z hz'
        obtain ⟨dz, hdz⟩ := hR10 z hz'
        exact ⟨dz, by rw [upd_ne (ne_of_none hdz nx10), upd_ne (ne_of_none hdz ndx10)]; exact hdz⟩
      rw [em10] at hb11
      obtain ⟨bx11, bt11, bprs11, hbx11, _⟩ := id hb11
      have e9_11 : Ext H9 H11 := e10.trans (ExtB.made nx10 ndx10 e11)
      have e6_11 := ((e7.trans e8).trans e9).trans e9_11
      refine ⟨⟨p, x10, px, bx11, _, _, rfl, rfl, e6_11 _ _ hpx, hbx11, d, due d rs, hp.ext e6_11, hb11⟩, fun H12 e12 => ⟨_, rfl, iteF ?_⟩⟩
      have e5_12 := e6.trans (e6_11.trans e12)
      have hb12 := hb5.ext e5_12
      have hp12 := hp.ext (e6_11.trans e12)
      have e0_12 := e05.trans e5_12
      refine ⟨_, rfl, x, d, rs, rfl, hb12, by omega, fun H13 D13 e13 h13 => ⟨_, rfl, ne_rls h13 (hl.ext (e0_12.trans e13)) ⟨_, rfl, iteF ?_⟩⟩⟩
      refine ⟨_, rfl, x, cB K, bx, _, _, rfl, (e5_12.trans e13) _ _ hbx, T.iB.cl, T.bDays, bk_days d bt, _, rfl, rfl, _, rfl, ?_⟩
      rw [show (!decide (V.int (d : Int) = V.int (d : Int))) = false by simp]
      refine iteF ?_
      have e0_13 := e0_12.trans e13
      have hb13 := hb12.ext e13
      have hp13 := hp12.ext e13
      have hpx13 := (e6_11.trans (e12.trans e13)) _ _ hpx
      have hbx13 := (e5_12.trans e13) _ _ hbx
      obtain ⟨a, ha, hG, la, na⟩ := hrw.ext e0_13
      refine ⟨_, rfl, rw, rfl, ⟨_, SqL.of ha⟩, ?_⟩
      refine for_it (walk_list (xs := refsG a)) (fun i σ H' => ∃ v7 v8 : Option V, σ = [some (.int (d : Int)), some (.ref l), some (.ref rw), some (.ref x), some .non, some (.ref Dd), none, v7, v8, some (.ref p)] ∧ Ext H13 H')
        ⟨none, none, rfl, Ext.rfl'⟩ (fun i σ H' _ hP => ?_) (fun i y σ H14 H15 hi hP yy => ?_) (fun σ H' hP => ?_)
      · obtain ⟨_, _, _, e⟩ := hP
        exact SqL.of (e _ _ ha)
      · obtain ⟨v7, v8, rfl, e14⟩ := hP
        obtain ⟨rfl, hy⟩ := yy
        obtain ⟨gp, hgp, rfl⟩ := refsG_at hy
        have hgm := List.mem_of_getElem? hgp
        have hg := e14 _ _ (hG gp hgm)
        have hgl : gp.2.length = d := na gp hgm
        refine ⟨_, rfl, gp.1, _, rfl, .inl (SqL.of hg), _, rfl, rfl, _, rfl, ?_⟩
        rw [show decide (V.int ((gp.2.map V.int).length : Int) = V.int (d : Int)) = true by simp [hgl]]
        obtain ⟨kb, hkb⟩ : ∃ kb : Bool, (kb = true ↔ KeepsAll rs gp.2) := (Classical.em (KeepsAll rs gp.2)).elim (fun h => ⟨true, by simp [h]⟩) fun h => ⟨false, by simp [h]⟩
        have hkb2 : kb = true ↔ KeepsAll (due d rs) gp.2 := by
          have z := hkb.trans (due_keeps hok gp.2).symm
          rw [hgl] at z
          exact z
        cases kb
        all_goals
          refine iteT ⟨_, rfl, p, px, _, rfl, e14 _ _ hpx13, bk_no (by decide +kernel) (by decide +kernel), _, rfl, fun y dy ny ndy ney => ⟨y, gp.1, dy, gp.2, rfl, upd_same, ?_, by omega, by omega, fun H16 e16 hr16 => ⟨rfl, ?_⟩⟩⟩
          · rw [upd_ne (ne_of_none hg ny), upd_ne (ne_of_none hg ndy)]
            exact hg
          have e16' : Ext H15 H16 := ExtB.made ny ndy e16
          first
            | refine ⟨p, y, due d rs, gp.2, rfl, by rw [hgl]; exact hp13.ext (e14.trans e16'), dueO, hr16, by omega, fun _ H17 e17 => ?_, fun n => absurd (hkb2.mp rfl) n⟩
            | refine ⟨p, y, due d rs, gp.2, rfl, by rw [hgl]; exact hp13.ext (e14.trans e16'), dueO, hr16, by omega, fun a => absurd (hkb2.mpr a) Bool.false_ne_true, fun _ H17 e17 => ?_⟩
          have e17' := e16'.trans e17
          refine ⟨_, rfl, x, bx, _, rfl, (e14.trans e17') _ _ hbx13, bk_no (by decide +kernel) (by decide +kernel), _, rfl, fun y2 dy2 ny2 ndy2 ney2 => ⟨y2, gp.1, dy2, gp.2, rfl, upd_same, ?_, by omega, by omega, fun H18 e18 hr18 => ⟨rfl, ?_⟩⟩⟩
          · have hg17 := e17' _ _ hg
            rw [upd_ne (ne_of_none hg17 ny2), upd_ne (ne_of_none hg17 ndy2)]
            exact hg17
          have e18' : Ext H15 H18 := e17'.trans (ExtB.made ny2 ndy2 e18)
          first
            | refine ⟨x, y2, rs, gp.2, rfl, by rw [hgl]; exact hb13.ext (e14.trans e18'), hok, hr18, by omega, fun _ H19 e19 => ?_, fun n => absurd (hkb.mp rfl) n⟩
            | refine ⟨x, y2, rs, gp.2, rfl, by rw [hgl]; exact hb13.ext (e14.trans e18'), hok, hr18, by omega, fun a => absurd (hkb.mpr a) Bool.false_ne_true, fun _ H19 e19 => ?_⟩
          have e19' := e18'.trans e19
          first
            | refine ⟨rfl, true, by simp, iteT ⟨_, rfl, _, rfl, gp.1, l, rs, gp.2, rfl, e19' _ _ hg, hl.ext ((e0_13.trans e14).trans e19'), hok, by omega, by omega, fun _ H20 e20 => ⟨rfl, true, by simp, iteF ?_⟩, fun n => absurd (hkb.mp rfl) n⟩⟩
            | refine ⟨rfl, true, by simp, iteT ⟨_, rfl, _, rfl, gp.1, l, rs, gp.2, rfl, e19' _ _ hg, hl.ext ((e0_13.trans e14).trans e19'), hok, by omega, by omega, fun a => absurd (hkb.mpr a) Bool.false_ne_true, fun _ H20 e20 => ⟨rfl, true, by simp, iteF ?_⟩⟩⟩
          exact ⟨_, _, rfl, (e14.trans e19').trans e20⟩
      · obtain ⟨_, _, _, e⟩ := hP
        have eZ := e0_13.trans e
        exact q _ eZ.n (hT.ext eZ)
    · refine ⟨_, rfl, _, rfl, l, d, rs, rfl, hl.ext (e02.trans e3), by omega, by omega, fun H4 Dd e4 hDd => ⟨by show 3 ≤ sizeLine; decide, fun u nu => ?_⟩⟩
      have e05 := (e02.trans (e3.trans e4)).up (o := .tup [.ref x, .ref t, .ref Dd]) nu
      have hb5 := hb2.ext ((e3.trans e4).up (o := .tup [.ref x, .ref t, .ref Dd]) nu)
      have ht5 := (e4.up (o := .tup [.ref x, .ref t, .ref Dd]) nu) _ _ ht
      refine gTri (SqT.of upd_same) ?_
      generalize upd H4 u (.tup [.ref x, .ref t, .ref Dd]) = H5 at e05 hb5 ht5
      refine ⟨_, rfl, true, rfl, iteT ?_⟩
      refine ⟨hT.ext e05, fun H6 n6 T6 NQ => ?_⟩
      have hb6 := hb5.extN n6
      obtain ⟨bx, bt, bprs, hbx, _⟩ := id hb6
      refine ⟨_, rfl, x, bx, _, rfl, hbx, bk_no (by decide +kernel) (by decide +kernel), x, d, rs, i, j, rfl, hb6, hf, fun H7 e dd e7 hp7 hd7 => ⟨rfl, e, dd, rfl, hd7, fun H8 e8 => ?_⟩⟩
      have e68 := e7.trans e8
      have n58 := n6.trans e68.n
      have T8 := T6.ext e68
      have hb8 := hb6.ext e68
      have hbx8 := e68 _ _ hbx
      have hp8 := hp7.ext e8
      have ht8 : H8 t = some (.tup ([(i : Int), (j : Int)].map V.int)) := ExtN.tup n58 ht5
      have hrw8 := (hrw.ext e05).extN n58
      have n08 := e05.n.trans n58
      obtain ⟨dp, tp, hpe, htp⟩ := id hp8
      refine ⟨_, rfl, .ref e, .ref (cE K), .ref (cE K), .ref (cE K), true, rfl, .own _, T.ty T.iE hpe, T.kEE, true, rfl, iteF ?_⟩
      refine ⟨_, rfl, .ref e, .ref (cN K), .ref (cE K), .ref (cN K), true, rfl, .own _, T.ty T.iE hpe, T.kEN, true, rfl, iteF ?_⟩
      refine ⟨_, rfl, e, dp, _, rfl, hpe, e, rfl, false, rfl, iteF ?_⟩
      refine ⟨_, rfl, e, cE K, dp, _, _, rfl, hpe, T.iE.cl, T.eWord, pp_word _ _ _, rfl, _, rfl, ?_⟩
      rw [show (!decide (V.str "empty" = V.str "empty")) = false by simp]
      refine iteF ⟨_, rfl, e, cE K, dp, _, _, rfl, hpe, T.iE.cl, T.eParts, pp_parts _ _ _, _, rfl, ne_tup (ns := [(i : Int), (j : Int)]) htp ht8 ⟨_, rfl, iteF ?_⟩⟩
      refine ⟨_, rfl, e, cE K, dp, _, _, rfl, hpe, T.iE.cl, T.eOne, pp_one _ _ _, _, rfl, e, cE K, dp, _, _, rfl, hpe, T.iE.cl, T.eOther, pp_other _ _ _, by show 2 ≤ sizeLine; decide, fun u9 nu9 => ?_⟩
      have e9 : Ext H8 (upd H8 u9 (.tup [.int (i : Int), .int (j : Int)])) := Ext.new nu9
      refine ⟨_, rfl, ne_tup (ns := [(i : Int), (j : Int)]) upd_same (e9 _ _ ht8) ⟨_, rfl, iteF ?_⟩⟩
      generalize upd H8 u9 (.tup [.int (i : Int), .int (j : Int)]) = H9 at e9
      refine ⟨_, rfl, e, cE K, dp, _, _, rfl, e9 _ _ hpe, T.iE.cl, T.eParts, pp_parts _ _ _, tp, rfl, ⟨_, SqT.of (e9 _ _ htp)⟩, fun D10 nD10 => ?_⟩
      refine lc_fm (walk_tup (xs := [V.int (i : Int), V.int (j : Int)])) nD10 (by show 2 ≤ 1000; decide) (fun _ => none) (fun H' e' => SqT.of ((e9.trans e') _ _ htp)) (fun k y H10 H11 K1 K2 hk e10 yy k1 k2 => ?_) (fun H10 e10 hD => ?_)
      · obtain ⟨rfl, hy⟩ := yy
        have hv : ∃ v : Int, y = .int v := by
          cases k with
          | zero => exact ⟨_, (Option.some.inj hy).symm⟩
          | succ k =>
            cases k with
            | zero => exact ⟨_, (Option.some.inj hy).symm⟩
            | succ k => exact absurd hk (by show ¬ (k + 2 < 2); omega)
        obtain ⟨v, rfl⟩ := hv
        exact ⟨rfl, _, rfl, .int v, .ty "bool", .type "int", .type "bool", false, rfl, .ty _, .base (.int v), kit_ty (by decide +kernel), false, rfl, iteF (k2 _ rfl Ext.rfl')⟩
      rw [fm_none] at hD
      refine neNil (ns := []) hD fun H11 e11 => ⟨_, rfl, iteF ?_⟩
      have e8_11 := (e9.trans e10).trans e11
      refine ⟨_, rfl, _, rfl, t, _, _, _, rfl, rfl, SqT.of (e8_11 _ _ ht8), rfl, _, rfl, t, _, _, _, rfl, rfl, SqT.of (e8_11 _ _ ht8), rfl, rfl, rfl, fun y dy ny ndy ney => ⟨y, dy, (i : Int), (j : Int), rfl, upd_same, fun H12 e12 hp12 => ⟨rfl, ?_⟩⟩⟩
      have e8_12 := e8_11.trans (ExtB.made ny ndy e12)
      obtain ⟨dp12, tp12, hpe12, _⟩ := id hp12
      refine ⟨⟨e, y, dp, dp12, _, _, rfl, rfl, e8_12 _ _ hpe, hpe12, i, j, hp8.ext e8_12, hp12⟩, fun H13 e13 => ⟨_, rfl, iteF ?_⟩⟩
      have e8_13 := e8_12.trans e13
      obtain ⟨a, ha, hG, la, na⟩ := hrw8.ext e8_13
      have hb13 := hb8.ext e8_13
      have hbx13 := e8_13 _ _ hbx8
      refine ⟨_, rfl, rw, rfl, ⟨_, SqL.of ha⟩, fun D14 nD14 => ?_⟩
      refine lc_fm (walk_list (xs := refsG a)) nD14 (by rw [refsG_len]; exact la) (fun _ => none) (fun H' e' => SqL.of (e' _ _ ha)) (fun k y H14 H15 K1 K2 hk e14 yy k1 k2 => ?_) (fun H14 e14 hD14 => ?_)
      · obtain ⟨rfl, hy⟩ := yy
        obtain ⟨gp, hgp, rfl⟩ := refsG_at hy
        have hgm := List.mem_of_getElem? hgp
        have hg := e14 _ _ (hG gp hgm)
        have hgl : gp.2.length = d := na gp hgm
        refine ⟨rfl, _, rfl, gp.1, _, rfl, .inl (SqL.of hg), _, rfl, rfl, _, rfl, ?_⟩
        rw [show decide (V.int ((gp.2.map V.int).length : Int) = V.int (d : Int)) = true by simp [hgl]]
        refine iteT ⟨_, rfl, x, bx, _, rfl, e14 _ _ hbx13, bk_no (by decide +kernel) (by decide +kernel), _, rfl, fun y dy ny ndy ney => ⟨y, gp.1, dy, gp.2, rfl, upd_same, ?_, by omega, by omega, fun H16 e16 hr16 => ⟨rfl, ?_⟩⟩⟩
        · rw [upd_ne (ne_of_none hg ny), upd_ne (ne_of_none hg ndy)]
          exact hg
        have e16' : Ext H15 H16 := ExtB.made ny ndy e16
        refine ⟨x, y, rs, gp.2, rfl, by rw [hgl]; exact hb13.ext (e14.trans e16'), hok, hr16, by omega, fun ka => absurd ka (hit_none hok (by rw [hgl]; exact hf)), fun _ H17 e17 => ⟨_, rfl, iteF (k2 _ rfl (e16'.trans e17))⟩⟩
      rw [fm_none] at hD14
      refine ⟨by show 0 ≤ sizeLine; decide, fun u15 nu15 => ⟨.list [], .list [], .lst (SqL.of ((Ext.new nu15) _ _ hD14)) .nil, .lst (SqL.of upd_same) .nil, shaped_nil, shaped_nil, ?_⟩⟩
      rw [eqv_nil]
      have eZ := (e8_13.trans e14).trans (Ext.new (o := .lst []) nu15)
      exact q _ (n08.trans eZ.n) (T8.ext eZ)
end
end K15

/-! K15LC: the law's own walk, what it needs. -/
namespace K15
open PySem PySem.Spec PyProof.Rows L2
theorem PenAt.lst {H : Hp} {p : Addr} {n : Nat} (h : PenAt H p n) : ∃ c t r, H p = some (.lst [.ref c, .int t, .int r]) := by
  obtain ⟨c, cs, t, r, h1, _⟩ := h
  exact ⟨c, t, r, h1⟩
theorem PenAt.neO {H : Hp} {p a : Addr} {n : Nat} {o : HO} (h : PenAt H p n) (e : H a = some o) (z : ∀ c t r, o ≠ .lst [.ref c, .int t, .int r]) : a ≠ p := by
  rintro rfl
  obtain ⟨c, t, r, h1⟩ := h.lst
  rw [e] at h1
  exact z c t r (Option.some.inj h1)
theorem TupsAt.extB {H H' : Hp} {p : Addr} {n : Nat} {prs : List PR} (h : TupsAt H prs) (hp : PenAt H p n) (e : ExtB p H H') : TupsAt H' prs := fun z hz => e _ _ (hp.neO (h z hz) fun c t r y => by cases y) (h z hz)
theorem refs_no {prs : List PR} {c : Addr} {t r : Int} : HO.lst (refs prs) ≠ .lst [.ref c, .int t, .int r] := fun y => by
  injection y with y
  cases prs with
  | nil => cases y
  | cons a l =>
    cases l with
    | nil => cases y
    | cons b l => cases y
theorem RlsAt.extB {H H' : Hp} {p l : Addr} {n : Nat} {rs : List Rl} (h : RlsAt H l rs) (hp : PenAt H p n) (e : ExtB p H H') : RlsAt H' l rs := by
  obtain ⟨prs, h1, h2, h3⟩ := h
  exact ⟨prs, e _ _ (hp.neO h1 fun c t r => refs_no) h1, h2.extB hp e, h3⟩
theorem Tabs.extB {T : List (Addr × Str)} {H H' : Hp} {p : Addr} {n : Nat} (h : LamX.Tabs T H) (hp : PenAt H p n) (e : ExtB p H H') : LamX.Tabs T H' := fun z hz => by
  obtain ⟨ps, h1, h2, h3⟩ := h z hz
  refine ⟨ps, e _ _ (hp.neO h1 fun c t r y => by cases y) h1, h2, fun pos cv hc => ?_⟩
  obtain ⟨c, e1, e2⟩ := h3 pos cv hc
  exact ⟨c, e1, e _ _ (hp.neO e2 fun c t r y => by unfold LamX.CodeO at y; cases y) e2⟩
/-- rules drawn one by one -/
theorem drawn_rules {w : World} {ip il io : Nat} {σ : L2.St} {vs : List Nat} {H1 : Hp} {D p L : Addr} {ns : List Int} {m n : Nat} {Qd : Hp → Prop} (hp : PenAt H1 p n) (hL : H1 L = some (.lst (ns.map V.int))) (z0 : 0 < ns.length) (z1 : ns.length ≤ 1000) (hb : ∀ x ∈ ns, 1 ≤ x ∧ x ≤ 48) (nD : H1 D = none)
    (hm : m ≤ 8) (hn : n ≤ 1000000) (s1 : ∀ v, ((wipe σ vs).set io v)[ip]? = some (some (.ref p))) (s2 : ∀ v, ((wipe σ vs).set io v)[il]? = some (some (.ref L))) (s3 : ∀ v, wipe ((wipe σ vs).set io v) vs = wipe σ vs)
    (hd : ∀ H' made, ExtP p H1 H' → PenAt H' p (n + 8 * m) → H' D = some (.lst (refs made)) → TupsAt H' made → made.length = m → (∀ z ∈ made, z.2.Ok) → Qd H') :
    ∃ W : Nat → Nat → Hp → Prop, (∃ m, W 0 m (upd H1 D (.lst []))) ∧ ∀ i m' H, W i m' H →
      ((Itr 0 m).stop i H ∧ Qd H) ∨ ((Itr 0 m).go i H ∧ ∃ Nx : Hp → Prop, (∀ H', Nx H' → ∃ m'', m'' < m' ∧ W (i + 1) m'' H') ∧ ∀ x H', (Itr 0 m).yld i H x H' → gName io x (wipe σ vs) H' fun σ2 H2 => wipe σ2 vs = wipe σ vs ∧ tYes σ2 H2 fun b H3 =>
        if b = true then tCall spRuleD [] E0 (tCons (tVar ip) (tCons (tVar il) tNil)) σ2 H3 fun y H4 => ∃ acc, H4 D = some (.lst acc) ∧ acc.length < sizeLine ∧ Nx (upd H4 D (.lst (acc ++ [y]))) else Nx H3) := by
  have npD : p ≠ D := by
    obtain ⟨c, t, r, h⟩ := hp.lst
    exact ne_of_none h nD
  have nLD : L ≠ D := ne_of_none hL nD
  have pen_wr : ∀ {H' : Hp} {k : Nat} {o : HO}, ExtP p H1 H' → PenAt H' p k → PenAt (upd H' D o) p k ∧ ExtP p H1 (upd H' D o) := fun {H' k o} e h => by
    obtain ⟨c0, cs0, t0, r0, g1, g2, _⟩ := id hp
    obtain ⟨c, cs, t, r, h1, h2, h3⟩ := h
    obtain ⟨ys, e1⟩ := e.c _ _ g1
    rw [h1] at e1
    injection e1 with e1
    injection e1 with e1
    injection e1 with e1 _
    injection e1 with e1
    subst e1
    have ncD : c ≠ D := ne_of_none g2 nD
    refine ⟨⟨c, cs, t, r, by rw [upd_ne npD]; exact h1, by rw [upd_ne ncD]; exact h2, h3⟩, fun b u n hb => ?_, fun c' xs hc => ?_⟩
    · rw [upd_ne (ne_of_none hb nD)]
      exact e.b _ _ n hb
    · obtain ⟨ys', e2⟩ := e.c _ _ hc
      exact ⟨ys', by rw [upd_ne npD]; exact e2⟩
  refine lc_it walk_range (fun i H' => ExtP p H1 H' ∧ PenAt H' p (n + 8 * i) ∧ ∃ made : List PR, H' D = some (.lst (refs made)) ∧ TupsAt H' made ∧ made.length = i ∧ ∀ z ∈ made, z.2.Ok)
    ⟨(Ext.new nD).p, hp.ext (Ext.new nD), [], upd_same, (fun _ h => absurd h List.not_mem_nil), rfl, (fun _ h => absurd h List.not_mem_nil)⟩ (fun _ _ _ _ => trivial) (fun i x H2 H3 hi hP y => ?_) (fun H2 hP => ?_)
  · obtain ⟨e, hp2, made, h1, h2, h3, h4⟩ := hP
    obtain ⟨rfl, rfl⟩ := y
    refine ⟨s3 _, _, s1 _, _, s2 _, p, L, n + 8 * i, ns, rfl, hp2, e.b _ _ (hp.ne hL) hL, z0, z1, hb, by omega, fun H4 t r ok e4 hp4 ht => ?_⟩
    have nDp : D ≠ p := npD.symm
    have h1' := e4.b _ _ nDp h1
    obtain ⟨w1, w2⟩ := pen_wr (o := .lst (refs made ++ [.ref t])) (e.trans e4) hp4
    refine ⟨_, h1', small48 (by rw [refs_len]; omega), w2, w1, made ++ [(t, r)], ?_, fun z hz => ?_, ?_, fun z hz => ?_⟩
    · rw [upd_same]
      unfold refs
      rw [List.map_append]
      rfl
    · have at5 : H4 z.1 = some (.tup (tpl z.2)) := by
        rcases List.mem_append.mp hz with h | h
        · exact h2.extB hp2 e4.b z h
        · rw [List.mem_singleton.mp h]
          exact ht
      exact (upd_ne (ne_of at5 h1' (by intro z; cases z))).trans at5
    · rw [List.length_append, h3]
      rfl
    · rcases List.mem_append.mp hz with h | h
      · exact h4 z h
      · rw [List.mem_singleton.mp h]
        exact ok
  · obtain ⟨e, hp2, made, h1, h2, h3, h4⟩ := hP
    exact hd _ made e hp2 h1 h2 h3 h4
end K15

/-! K15LD: the law. -/
namespace K15
open PySem PySem.Spec PyProof.Rows L2
abbrev NL : List Str := ["_law_script", "_law_pen_here", "_law_turn", "_law_days", "_law_lengths", "_law_rules", "_law_one", "_law_some", "_law_length", "_law_low", "_law_high", "_law_least"]
structure CtxL (P : Program) (w : World) (K : PySem.W.Frag) (mg : Str → Option Value) (base : Heap) (TL : List (Addr × Str)) : Prop where
  T : Txt K mg
  pen : Cal P w K mg base CX0 1 "_law_pen" ["_law_script"] (spPen K)
  draw : CDraw P w K mg base
  of : Cal P w K mg base CX0 2 "_law_of" ["_law_pen_here", "_law_some"] spOf
  rule : Cal P w K mg base CX0 3 "_law_rule" ["_law_pen_here", "_law_lengths"] spRuleD
  rows : Cal P w K mg base CX0 1 "_law_rows" ["_law_days"] spRows
  right : Cal P w K mg base CX0 9 "_law_together_right" ["_law_days", "_law_rules", "_law_rows_here"] (spRight TL)
def spLaw (K : PySem.W.Frag) (TL : List (Addr × Str)) : Sp := fun vs H Q _ => ∃ (a : Addr) (ns : List Int), vs = [.ref a] ∧ SqL K H a (ns.map V.int) ∧ ns.length ≤ 1000 ∧ LamX.Tabs TL H ∧ ∀ H', Q (.bl true) H'
theorem TupsAt.add {H : Hp} {prs : List PR} {t : Addr} {r : Rl} (h : TupsAt H prs) (n : H t = none) : TupsAt (upd H t (.tup (tpl r))) (prs ++ [(t, r)]) := fun z hz => by
  rcases List.mem_append.mp hz with h' | h'
  · exact (Ext.new n) _ _ (h z h')
  · rw [List.mem_singleton.mp h']
    exact upd_same
theorem tups_nil {H : Hp} : TupsAt H [] := fun _ h => absurd h List.not_mem_nil
theorem rows_nil {H : Hp} {l : Addr} {d : Nat} (h : H l = some (.lst [])) : RowsAt H l d := ⟨[], h, fun _ h => absurd h List.not_mem_nil, by decide, fun _ h => absurd h List.not_mem_nil⟩
theorem rlsLen {prs : List PR} {rs : List Rl} (h : prs.map (·.2) = rs) : rs.length = prs.length := by rw [← h, List.length_map]
theorem oks_of {prs : List PR} (h : ∀ z ∈ prs, z.2.Ok) : ∀ r ∈ prs.map (·.2), r.Ok := fun r hr => by
  obtain ⟨z, hz, rfl⟩ := List.mem_map.mp hr
  exact h z hz
section
variable {P : Program} {w : World} {K : PySem.W.Frag} {mg : Str → Option Value} {base : Heap} {f : Addr} {fd : FuncData} {TL : List (Addr × Str)}
theorem scLaw : FnScope NL ["_law_script"] (defScope sLaw) := ⟨rfl, rfl, rfl, by decide +kernel, rfl, by decide +kernel, by decide +kernel⟩
theorem ok_law (F : FN K "law" sLaw f fd) (C : CtxL P w K mg base TL) : FnOk P w K mg base CX0 10 f fd ["_law_script"] (spLaw K TL) := by
  have T := C.T
  refine ok0 F scLaw (fun vs H Q E h => ?_) (fun cdv A outer s H vs Q E hr h => ?_)
  · obtain ⟨a, ns, rfl, _⟩ := h
    rfl
  · obtain ⟨a, ns, rfl, ha, hz, hT, q⟩ := h
    have r1 := hr.mono (show 1 ≤ 9 by decide)
    have r2 := hr.mono (show 2 ≤ 9 by decide)
    have r3 := hr.mono (show 3 ≤ 9 by decide)
    refine ⟨_, pss_cons (ps_set (i := 1) scLaw.nd rfl (Or.inr rfl) (pe_cal C.pen r1 rfl pass0 (pa_cons (pv 0) pa_nil))) <|
      pss_cons (ps_for PassesOwn.never rfl (pi_range1 rfl T.range (pa_cons pe_int pa_nil)) (pg_name (i := 2) scLaw.nd rfl (Or.inl rfl)) <|
        pss_cons (ps_set (i := 3) scLaw.nd rfl (Or.inl rfl) (pe_cal C.of r2 rfl pass0 (pa_cons (pv 1) (pa_cons (pe_lst (pa_cons pe_int (pa_cons pe_int (pa_cons pe_int (pa_cons pe_int (pa_cons pe_int (pa_cons pe_int pa_nil))))))) pa_nil)))) <|
        pss_cons (ps_set (i := 4) scLaw.nd rfl (Or.inr rfl) (pe_lst (pa_cons pe_int (pa_cons pe_int (pa_cons (pe_op op_add pe_int (pe_cal C.draw r1 rfl pass0 (pa_cons (pv 1) (pa_cons pe_int pa_nil)))) (pa_cons (pv 3) (pa_cons pe_int pa_nil))))))) <|
        pss_cons (ps_setLc (i := 5) (own := [("_law_one", 6)]) (g := gName 6) (tt := tYes) (te := tCall spRuleD [] E0 (tCons (tVar 1) (tCons (tVar 4) tNil))) rfl scLaw.nd rfl rfl (sw_true rfl rfl rfl (by decide +kernel))
          (pi_range1 rfl T.range (pa_cons (pe_cal C.of r2 rfl pass0 (pa_cons (pv 1) (pa_cons (pe_lst (pa_cons pe_int (pa_cons pe_int (pa_cons pe_int (pa_cons pe_int (pa_cons pe_int (pa_cons pe_int (pa_cons pe_int pa_nil)))))))) pa_nil))) pa_nil))
          (blkOk_by (N := NL) (sc := defScope sLaw) (by decide +kernel)) (fun _ _ _ _ _ => pg_name (i := 6) scLaw.nd rfl (Or.inl rfl)) (fun _ _ _ _ _ => pts_nil) (fun _ _ _ _ _ => pe_cal C.rule r3 rfl pass0 (pa_cons (pv 1) (pa_cons (pv 4) pa_nil)))) <|
        pss_one (ps_if (pt_not (pt_val (pe_cal C.right hr rfl pass0 (pa_cons (pv 3) (pa_cons (pv 5) (pa_cons (pe_cal C.rows r1 rfl pass0 (pa_cons (pv 3) pa_nil)) pa_nil)))))) pss_never pss_nil)) <|
      pss_cons (ps_asg (pe_tup (pa_cons (pe_cal C.of r2 rfl pass0 (pa_cons (pv 1) (pa_cons (pe_lst (pa_cons pe_int (pa_cons pe_int (pa_cons pe_int (pa_cons pe_int pa_nil))))) pa_nil)))
          (pa_cons (pe_lst (pa_cons (pe_op op_add pe_int (pe_cal C.draw r1 rfl pass0 (pa_cons (pv 1) (pa_cons pe_int pa_nil)))) (pa_cons pe_int (pa_cons (pe_op op_add pe_int (pe_cal C.draw r1 rfl pass0 (pa_cons (pv 1) (pa_cons pe_int pa_nil)))) pa_nil)))) pa_nil)))
          (pg_tup rfl (pgs_cons (pg_name (i := 3) scLaw.nd rfl (Or.inl rfl)) (pgs_cons (pg_name (i := 7) scLaw.nd rfl (Or.inr rfl)) pgs_nil)))) <|
      pss_cons (ps_setLc (i := 5) (own := [("_law_one", 6)]) (g := gName 6) (tt := tYes) (te := tCall spRuleD [] E0 (tCons (tVar 1) (tCons (tVar 7) tNil))) rfl scLaw.nd rfl rfl (sw_true rfl rfl rfl (by decide +kernel))
          (pi_range1 rfl T.range (pa_cons pe_int pa_nil))
          (blkOk_by (N := NL) (sc := defScope sLaw) (by decide +kernel)) (fun _ _ _ _ _ => pg_name (i := 6) scLaw.nd rfl (Or.inl rfl)) (fun _ _ _ _ _ => pts_nil) (fun _ _ _ _ _ => pe_cal C.rule r3 rfl pass0 (pa_cons (pv 1) (pa_cons (pv 7) pa_nil)))) <|
      pss_cons (ps_if (PW.pt (pw_or (pt_not (pt_val (pe_cal C.right hr rfl pass0 (pa_cons (pv 3) (pa_cons (pv 5) (pa_cons (pe_lst pa_nil) pa_nil)))))) <| pw_or1 (pt_not (pt_val (pe_cal C.right hr rfl pass0 (pa_cons (pv 3)
          (pa_cons (pe_lc (own := [("_law_length", 8), ("_law_low", 9), ("_law_high", 10)]) (g := gTup K 3 (gCons (gName 8) (gCons (gName 9) (gCons (gName 10) gNil)))) (tt := tYes) (te := tTup (tCons (tVar 8) (tCons (tC .non) (tCons (tC (.int 7)) tNil)))) rfl scLaw.nd (pi_list (pv 5))
            (blkOk_by (N := NL) (sc := defScope sLaw) (by decide +kernel)) (fun _ _ _ _ _ => pg_tup rfl (pgs_cons (pg_name (i := 8) scLaw.nd rfl (Or.inl rfl)) (pgs_cons (pg_name (i := 9) scLaw.nd rfl (Or.inl rfl)) (pgs_cons (pg_name (i := 10) scLaw.nd rfl (Or.inl rfl)) pgs_nil))))
            (fun _ _ _ _ _ => pts_nil) (fun _ _ _ _ _ => pe_tup (pa_cons (pv 8) (pa_cons pe_non (pa_cons pe_int pa_nil))))) (pa_cons (pe_lst pa_nil) pa_nil)))))))) pss_never pss_nil) <|
      pss_cons (ps_set (i := 11) scLaw.nd rfl (Or.inl rfl) (pe_lst (pa_cons (pe_tup (pa_cons pe_int (pa_cons pe_int (pa_cons pe_non pa_nil)))) (pa_cons (pe_tup (pa_cons pe_int (pa_cons pe_int (pa_cons pe_int pa_nil))))
          (pa_cons (pe_tup (pa_cons pe_int (pa_cons pe_non (pa_cons pe_int pa_nil)))) (pa_cons (pe_tup (pa_cons pe_int (pa_cons pe_non (pa_cons pe_int pa_nil)))) pa_nil)))))) <|
      pss_one (ps_ret (pe_and (pe_cal C.right hr rfl pass0 (pa_cons pe_int (pa_cons (pv 11) (pa_cons (pe_lst pa_nil) pa_nil)))) (pe_and (pe_cal C.right hr rfl pass0 (pa_cons pe_int (pa_cons (pv 11) (pa_cons (pe_lst pa_nil) pa_nil))))
        (pe_one (pe_cal C.right hr rfl pass0 (pa_cons pe_int (pa_cons (pe_lst (pa_cons (pe_tup (pa_cons pe_int (pa_cons pe_non (pa_cons pe_int pa_nil)))) (pa_cons (pe_tup (pa_cons pe_int (pa_cons pe_int (pa_cons pe_non pa_nil)))) (pa_cons (pe_tup (pa_cons pe_int (pa_cons pe_int (pa_cons pe_non pa_nil)))) pa_nil))))
          (pa_cons (pe_cal C.rows r1 rfl pass0 (pa_cons pe_int pa_nil)) pa_nil)))))))), ?_⟩
    have p62 : (2 : Int) ^ 62 = 4611686018427387904 := by decide
    refine ⟨_, rfl, a, ns, rfl, ha, hz, fun H1 p e1 hp1 => ?_⟩
    have T1 := hT.ext e1
    refine ⟨2, rfl, by decide, by decide, ?_⟩
    refine for_it walk_range (fun i σ H' => ∃ v2 v3 v4 v5 v6 v7 v8 v9 v10 v11 : Option V, σ = [some (.ref a), some (.ref p), v2, v3, v4, v5, v6, v7, v8, v9, v10, v11] ∧ PenAt H' p (100 * i) ∧ LamX.Tabs TL H')
      ⟨none, none, none, none, none, none, none, none, none, none, rfl, hp1, T1⟩ (fun _ _ _ _ _ => trivial) (fun i x σ H2 H3 hi hP y => ?_) (fun σ H2 hP => ?_)
    · obtain ⟨v2, v3, v4, v5, v6, v7, v8, v9, v10, v11, rfl, hp2, T2⟩ := hP
      obtain ⟨rfl, rfl⟩ := y
      have hi2 : i < 2 := hi
      refine ⟨_, rfl, by show 6 ≤ sizeLine; decide, fun l0 nl0 => ⟨p, l0, 100 * i, [3, 2, 1, 3, 4, 3], rfl, hp2.ext (Ext.new nl0), upd_same, by decide, by decide, by omega, fun H4 x hx e4 hp4 => ?_⟩⟩
      have T4 := Tabs.extB (T2.ext (Ext.new (o := .lst [.int 3, .int 2, .int 1, .int 3, .int 4, .int 3]) nl0)) (hp2.ext (Ext.new nl0)) e4.b
      obtain ⟨d, rfl, d1, d2⟩ : ∃ d : Nat, x = (d : Int) ∧ 1 ≤ d ∧ d ≤ 4 := by
        simp only [List.mem_cons, List.not_mem_nil, or_false] at hx
        exact ⟨x.toNat, by omega, by omega, by omega⟩
      refine ⟨_, rfl, p, 4, 100 * i + 1, rfl, hp4, by decide, by decide, by omega, fun H5 r r0 r1' e5 hp5 => ⟨1, r, rfl, rfl, _, rfl, by show 5 ≤ sizeLine; decide, fun L nL => ?_⟩⟩
      have T5 := Tabs.extB T4 hp4 e5.b
      have hL : upd H5 L (.lst [.int 1, .int 2, .int (1 + r), .int (d : Int), .int 5]) L = some (.lst (([1, 2, 1 + r, (d : Int), 5] : List Int).map V.int)) := upd_same
      have hbL : ∀ x ∈ ([1, 2, 1 + r, (d : Int), 5] : List Int), 1 ≤ x ∧ x ≤ 48 := fun x hx => by
        simp only [List.mem_cons, List.not_mem_nil, or_false] at hx
        omega
      have hp6 := hp5.ext (Ext.new (o := .lst [.int 1, .int 2, .int (1 + r), .int (d : Int), .int 5]) nL)
      have T6 := T5.ext (Ext.new (o := .lst [.int 1, .int 2, .int (1 + r), .int (d : Int), .int 5]) nL)
      generalize upd H5 L (.lst [.int 1, .int 2, .int (1 + r), .int (d : Int), .int 5]) = H6 at hL hp6 T6
      refine ⟨_, rfl, by show 7 ≤ sizeLine; decide, fun l1 nl1 => ⟨p, l1, 100 * i + 2, [4, 2, 3, 6, 8, 1, 0], rfl, hp6.ext (Ext.new nl1), upd_same, by decide, by decide, by omega, fun H7 m hm e7 hp7 => ?_⟩⟩
      have e67 := Ext.new (o := .lst [.int 4, .int 2, .int 3, .int 6, .int 8, .int 1, .int 0]) nl1
      have hp67 := hp6.ext e67
      have T7 := Tabs.extB (T6.ext e67) hp67 e7.b
      have hL7 := e7.b _ _ (hp67.ne (e67 _ _ hL)) (e67 _ _ hL)
      have hm8 : 0 ≤ m ∧ m ≤ 8 := by
        simp only [List.mem_cons, List.not_mem_nil, or_false] at hm
        omega
      refine ⟨m, rfl, by omega, by omega, fun D nD => ?_⟩
      refine drawn_rules (w := w) (m := m.toNat) (ip := 1) (il := 4) (io := 6) (vs := [6]) hp7 hL7 (by show 0 < 5; decide) (by show 5 ≤ 1000; decide) hbL nD (by omega) (by omega) (fun _ => rfl) (fun _ => rfl) (fun _ => rfl) fun H8 made e8 hp8 hD8 hT8 lm okm => ?_
      have T8 := Tabs.extB T7 hp7 e8.b
      refine ⟨_, rfl, _, rfl, _, rfl, d, rfl, d2, fun H9 rw e9 hrw => ⟨D, rw, d, made.map (·.2), rfl, d1, by omega, ⟨made, e9 _ _ hD8, hT8.ext e9, rfl⟩, oks_of okm, by rw [List.length_map]; omega, hrw, T8.ext e9, fun H10 n10 T10 => ⟨true, rfl, iteF ?_⟩⟩⟩
      exact ⟨_, _, _, _, _, _, _, _, _, _, rfl, ((hp8.ext e9).extN n10).mono (by omega), T10⟩
    · obtain ⟨v2, v3, v4, v5, v6, v7, v8, v9, v10, v11, rfl, hp2, T2⟩ := hP
      refine ⟨_, rfl, by show 4 ≤ sizeLine; decide, fun l0 nl0 => ⟨p, l0, 200, [48, 24, 7, 47], rfl, hp2.ext (Ext.new nl0), upd_same, by decide, by decide, by decide, fun H4 x hx e4 hp4 => ?_⟩⟩
      have T4 := Tabs.extB (T2.ext (Ext.new (o := .lst [.int 48, .int 24, .int 7, .int 47]) nl0)) (hp2.ext (Ext.new nl0)) e4.b
      obtain ⟨d, rfl, d1, d2⟩ : ∃ d : Nat, x = (d : Int) ∧ 1 ≤ d ∧ d ≤ 48 := by
        simp only [List.mem_cons, List.not_mem_nil, or_false] at hx
        exact ⟨x.toNat, by omega, by omega, by omega⟩
      refine ⟨_, rfl, p, 48, 201, rfl, hp4, by decide, by decide, by decide, fun H5 r r0 r1' e5 hp5 => ⟨1, r, rfl, rfl, _, rfl, p, 48, 202, rfl, hp5, by decide, by decide, by decide, fun H6 s s0 s1 e6 hp6 => ⟨1, s, rfl, rfl, by show 3 ≤ sizeLine; decide, fun L nL => ⟨by show 2 ≤ sizeLine; decide, fun u nu => ?_⟩⟩⟩⟩
      have T6 := Tabs.extB (Tabs.extB T4 hp4 e5.b) hp5 e6.b
      have e67 := Ext.new (o := .lst [.int (1 + r), .int 48, .int (1 + s)]) nL
      have hL : upd (upd H6 L (.lst [.int (1 + r), .int 48, .int (1 + s)])) u (.tup [.int (d : Int), .ref L]) L = some (.lst (([1 + r, 48, 1 + s] : List Int).map V.int)) := (Ext.new nu) _ _ upd_same
      have hbL : ∀ x ∈ ([1 + r, 48, 1 + s] : List Int), 1 ≤ x ∧ x ≤ 48 := fun x hx => by
        simp only [List.mem_cons, List.not_mem_nil, or_false] at hx
        omega
      have e67' := e67.up (o := .tup [.int (d : Int), .ref L]) nu
      refine gPair (SqT.of upd_same) ?_
      have hp7 := hp6.ext e67'
      have T7 := T6.ext e67'
      generalize upd (upd H6 L (.lst [.int (1 + r), .int 48, .int (1 + s)])) u (.tup [.int (d : Int), .ref L]) = H7 at hp7 T7 e67' hL
      refine ⟨8, rfl, by decide, by decide, fun D nD => ?_⟩
      refine drawn_rules (w := w) (m := 8) (ip := 1) (il := 7) (io := 6) (vs := [6]) hp7 hL (by show 0 < 3; decide) (by show 3 ≤ 1000; decide) hbL nD (by decide) (by decide) (fun _ => rfl) (fun _ => rfl) (fun _ => rfl) fun H8 made e8 hp8 hD8 hT8 lm okm => ?_
      have T8 := Tabs.extB T7 hp7 e8.b
      refine ⟨_, rfl, _, rfl, by show 0 ≤ sizeLine; decide, fun rw nrw => ⟨D, rw, d, made.map (·.2), rfl, d1, d2, ⟨made, (Ext.new nrw) _ _ hD8, hT8.ext (Ext.new nrw), rfl⟩, oks_of okm, by rw [List.length_map]; omega, rows_nil upd_same, T8.ext (Ext.new nrw), fun H9 n9 T9 => ⟨true, rfl, iteF ?_⟩⟩⟩
      have hD9 : H9 D = some (.lst (refs made)) := ExtN.lst n9 ((Ext.new nrw) _ _ hD8)
      have hT9 : TupsAt H9 made := fun z hz => ExtN.tup n9 ((Ext.new nrw) _ _ (hT8 z hz))
      refine ⟨_, rfl, _, rfl, D, rfl, ⟨_, SqL.of hD9⟩, fun D2 nD2 => ?_⟩
      refine lc_list (xs := refs made) (fun i H' => Ext H9 H' ∧ ∃ more : List PR, H' D2 = some (.lst (refs more)) ∧ TupsAt H' more ∧ more.length = i ∧ ∀ z ∈ more, z.2.Ok)
        ⟨Ext.new nD2, [], upd_same, tups_nil, rfl, (fun _ h => absurd h List.not_mem_nil)⟩ (fun i H' _ e => SqL.of (e.1 _ _ hD9)) (fun i x H' hi e => ?_) (fun H10 e => ?_)
      · obtain ⟨z, hz', rfl⟩ := refs_at hi
        obtain ⟨e10, more, hD10, hT10, lm10, ok10⟩ := e
        have hzm := List.mem_of_getElem? hz'
        have il : i < made.length := (List.getElem?_eq_some_iff.mp hz').1
        refine gTri (SqT.of (e10 _ _ (hT9 z hzm))) ⟨rfl, _, rfl, by show 3 ≤ sizeLine; decide, fun t nt => ?_⟩
        have okz := okm z hzm
        have e11 : Ext H' (upd H' t (.tup (tpl ⟨z.2.len, none, some 7⟩))) := Ext.new nt
        refine ⟨_, e11 _ _ hD10, small48 (by rw [refs_len]; omega), (e10.trans e11).wr nD2, more ++ [(t, ⟨z.2.len, none, some 7⟩)], ?_, fun y hy => ?_, ?_, fun y hy => ?_⟩
        · rw [upd_same]
          unfold refs
          rw [List.map_append]
          rfl
        · have at5 := hT10.add nt (r := ⟨z.2.len, none, some 7⟩) y hy
          exact (upd_ne (ne_of at5 (e11 _ _ hD10) (by intro z; cases z))).trans at5
        · rw [List.length_append, lm10]
          rfl
        · rcases List.mem_append.mp hy with h | h
          · exact ok10 y h
          · rw [List.mem_singleton.mp h]
            exact ⟨okz.1, okz.2.1, rfl⟩
      · obtain ⟨e10, more, hD10, hT10, lm10, ok10⟩ := e
        rw [refs_len] at lm10
        have T10 := T9.ext e10
        refine ⟨by show 0 ≤ sizeLine; decide, fun rw2 nrw2 => ⟨D2, rw2, d, more.map (·.2), rfl, d1, d2, ⟨more, (Ext.new nrw2) _ _ hD10, hT10.ext (Ext.new nrw2), rfl⟩, oks_of ok10, by rw [List.length_map]; omega, rows_nil upd_same, T10.ext (Ext.new nrw2), fun H11 n11 T11 => ⟨true, rfl, iteF ?_⟩⟩⟩
        refine ⟨by show 3 ≤ sizeLine; decide, fun t1 n1 => ⟨by show 3 ≤ sizeLine; decide, fun t2 n2 => ⟨by show 3 ≤ sizeLine; decide, fun t3 n3 => ⟨by show 3 ≤ sizeLine; decide, fun t4 n4 => ⟨by show 4 ≤ sizeLine; decide, fun Lz nLz => ?_⟩⟩⟩⟩⟩
        have tps := (((tups_nil.add (r := ⟨7, some 1, none⟩) n1).add (r := ⟨2, some 0, some 5⟩) n2).add (r := ⟨7, none, some 0⟩) n3).add (r := ⟨2, none, some 4⟩) n4
        have eT := (((Ext.new (o := .tup (tpl ⟨7, some 1, none⟩)) n1).trans (Ext.new (o := .tup (tpl ⟨2, some 0, some 5⟩)) n2)).trans (Ext.new (o := .tup (tpl ⟨7, none, some 0⟩)) n3)).trans (Ext.new (o := .tup (tpl ⟨2, none, some 4⟩)) n4)
        have T12 := (T11.ext eT).ext (Ext.new (o := .lst [.ref t1, .ref t2, .ref t3, .ref t4]) nLz)
        have hLz : RlsAt _ Lz ([⟨7, some 1, none⟩, ⟨2, some 0, some 5⟩, ⟨7, none, some 0⟩, ⟨2, none, some 4⟩] : List Rl) := ⟨[(t1, ⟨7, some 1, none⟩), (t2, ⟨2, some 0, some 5⟩), (t3, ⟨7, none, some 0⟩), (t4, ⟨2, none, some 4⟩)], upd_same, tps.ext (Ext.new nLz), rfl⟩
        have okz : ∀ r ∈ ([⟨7, some 1, none⟩, ⟨2, some 0, some 5⟩, ⟨7, none, some 0⟩, ⟨2, none, some 4⟩] : List Rl), r.Ok := by
          intro r hr
          simp only [List.mem_cons, List.not_mem_nil, or_false] at hr
          rcases hr with rfl | rfl | rfl | rfl <;> exact ⟨by decide, by decide, rfl⟩
        refine ⟨_, rfl, by show 0 ≤ sizeLine; decide, fun q1 nq1 => ⟨Lz, q1, 6, _, rfl, by decide, by decide, hLz.ext (Ext.new nq1), okz, by decide, rows_nil upd_same, T12.ext (Ext.new nq1), fun H13 n13 T13 => ⟨true, rfl, iteT ?_⟩⟩⟩
        have hLz13 := (hLz.ext (Ext.new (o := .lst []) nq1)).extN n13
        refine ⟨_, rfl, by show 0 ≤ sizeLine; decide, fun q2 nq2 => ⟨Lz, q2, 7, _, rfl, by decide, by decide, hLz13.ext (Ext.new nq2), okz, by decide, rows_nil upd_same, T13.ext (Ext.new nq2), fun H14 n14 T14 => ⟨true, rfl, iteT ?_⟩⟩⟩
        refine ⟨by show 3 ≤ sizeLine; decide, fun t5 n5 => ⟨by show 3 ≤ sizeLine; decide, fun t6 n6 => ⟨by show 3 ≤ sizeLine; decide, fun t7 n7 => ⟨by show 3 ≤ sizeLine; decide, fun Ly nLy => ?_⟩⟩⟩⟩
        have tps' := ((tups_nil.add (r := ⟨2, none, some 4⟩) n5).add (r := ⟨2, some 6, none⟩) n6).add (r := ⟨2, some 5, none⟩) n7
        have eT' := ((Ext.new (o := .tup (tpl ⟨2, none, some 4⟩)) n5).trans (Ext.new (o := .tup (tpl ⟨2, some 6, none⟩)) n6)).trans (Ext.new (o := .tup (tpl ⟨2, some 5, none⟩)) n7)
        have T15 := (T14.ext eT').ext (Ext.new (o := .lst [.ref t5, .ref t6, .ref t7]) nLy)
        have hLy : RlsAt _ Ly ([⟨2, none, some 4⟩, ⟨2, some 6, none⟩, ⟨2, some 5, none⟩] : List Rl) := ⟨[(t5, ⟨2, none, some 4⟩), (t6, ⟨2, some 6, none⟩), (t7, ⟨2, some 5, none⟩)], upd_same, tps'.ext (Ext.new nLy), rfl⟩
        have oky : ∀ r ∈ ([⟨2, none, some 4⟩, ⟨2, some 6, none⟩, ⟨2, some 5, none⟩] : List Rl), r.Ok := by
          intro r hr
          simp only [List.mem_cons, List.not_mem_nil, or_false] at hr
          rcases hr with rfl | rfl | rfl <;> exact ⟨by decide, by decide, rfl⟩
        refine ⟨2, rfl, by decide, fun H16 q3 e16 hq3 => ⟨Ly, q3, 2, _, rfl, by decide, by decide, hLy.ext e16, oky, by decide, hq3, T15.ext e16, fun H17 _ _ => q _⟩⟩
end
end K15

/-! K15H0: the top runs. -/
namespace K15
open PySem PySem.W PySem.Calls PyProof.Rows
abbrev R15 : OpenRow := OpenLaw.row PySem.Challenge.rw_anyseven_k15_whole_rules_of_one_length_t
abbrev qv15 : Program := view R15.prog [72]
def names0 : List PySem.Str := ["_wall", "__name__", "DayError", "BadRow", "BadRule", "BadNumber", "Misfit", "Missing", "NoRule", "Twice", "Impossible", "TooMany", "BadText"]
def names1 : List PySem.Str := ["DIGITS", "is_integer", "is_within", "are_integers", "first_twice", "need_number", "need_numbers", "fixed", "Paper", "Denial", "MOST_DIGITS", "integer_of", "Scan"]
def names2 : List PySem.Str := ["MOST_DAYS_rows", "need_row", "need_stretch", "heights_of", "Row", "MOST_LENGTH", "FREE", "need_bound", "are_bounds", "bound_text", "take_bound", "take_rule", "Rule"]
def names3 : List PySem.Str := ["MOST_DAYS_books", "MOST_RULES", "COLON", "NEXT", "NONE", "Empty", "are_rules", "take_rules", "take_book", "are_empty", "empty_pair", "drawn_together", "Book"]
def names4 : List PySem.Str := ["_law_pen", "_law_draw", "_law_of", "_law_number", "_law_rule", "_law_made", "_law_plain", "_law_pair", "_law_due", "_law_rows", "_law_keeps", "_law_heard", "_law_together_right"]
def names15 : List PySem.Str := names0 ++ names1 ++ names2 ++ names3 ++ names4
theorem run0 (w : World) : HandSHeadRun.RunEq R15 qv15 Hook.none (fun _ => ()) 20000 names15 w := by
  intro os
  kernel_rfl
end K15

/-! K15H1: what the end of the top is asked for. -/
namespace K15
open PySem PySem.Spec PyProof.Rows L2
def eP : Program := R15.prog
/-! ### the defs -/
def gD (x : Str) (st : Stmt) : He.DefD := ⟨(x, none), x, x, defArgs st, defBody st, defScope st, [], []⟩
def mD (C m q : Str) (st : Stmt) (dfl : List He.Dv) : He.DefD := ⟨(C, some m), m, q, defArgs st, defBody st, defScope st, dfl, []⟩
def fnA : List He.DefD := [gD "is_integer" sIsInt, gD "is_within" sIsWithin, gD "are_integers" sAreInts, gD "need_number" sNeedNum, gD "fixed" sFixed, gD "need_row" sNeedRow, gD "heights_of" sHeights, gD "need_bound" sNeedBound, gD "are_bounds" sAreBounds,
  gD "are_rules" sAreRules, gD "are_empty" sAreEmpty, gD "empty_pair" sEmptyPair, gD "drawn_together" sDrawn]
def fnB : List He.DefD := [gD "_law_pen" sPen, gD "_law_draw" sDraw, gD "_law_of" sOf, gD "_law_number" sNumber, gD "_law_rule" sRuleD, gD "_law_made" sMade, gD "_law_plain" sPlain, gD "_law_pair" sPair, gD "_law_due" sDue, gD "_law_rows" sRows, gD "_law_keeps" sKeeps,
  gD "_law_heard" sHeard, gD "_law_together_right" sRight, gD "law" sLaw]
def fnC : List He.DefD := [mD "Paper" "__init__" "Paper.__init__" sPaperI [], mD "Empty" "__eq__" "Paper.__eq__" sPaperE [], mD "Empty" "__bool__" "Denial.__bool__" sDenialB [], mD "Row" "__init__" "Row.__init__" sRowI [], mD "Rule" "__init__" "Rule.__init__" sRuleI [.non, .non],
  mD "Rule" "first_broken" "Rule.first_broken" sRuleF [], mD "Rule" "__eq__" "Rule.__eq__" sRuleE [], mD "Book" "__init__" "Book.__init__" sBookI [], mD "Book" "keeps" "Book.keeps" sBookK [], mD "Book" "first_broken" "Book.first_broken" sBookF [],
  mD "Book" "together" "Book.together" sBookT [], mD "Book" "__eq__" "Book.__eq__" sBookE [], mD "Impossible" "__init__" "Impossible.__init__" sImpI []]
def fn15 : List He.DefD := fnA ++ (fnB ++ fnC)
/-! ### the facts -/
def glos : List Str := ["is_integer", "is_within", "are_integers", "need_number", "fixed", "need_row", "heights_of", "need_bound", "are_bounds", "are_rules", "are_empty", "empty_pair", "drawn_together"]
def glosB : List Str := ["_law_pen", "_law_draw", "_law_of", "_law_number", "_law_rule", "_law_made", "_law_plain", "_law_pair", "_law_due", "_law_rows", "_law_keeps", "_law_heard", "_law_together_right", "law"]
def glosC : List Str := ["Rule", "Book", "Row", "Empty", "Paper", "Denial", "Impossible", "DayError"]
def frees : List Str := ["isinstance", "int", "bool", "list", "tuple", "all", "len", "range", "enumerate", "max", "min", "sorted", "sum", "abs", "super"]
def fa15 : List He.Fa := (glos ++ (glosB ++ glosC)).map He.Fa.glo ++ (frees.map He.Fa.free ++ ([.int "MOST_DAYS_books" 48, .int "MOST_DAYS_rows" 48, .int "MOST_LENGTH" 48, .int "MOST_RULES" 8, .cls "Rule", .cls "Book", .cls "Row", .cls "Empty",
  .mkr "Rule", .mkr "Book", .mkr "Row", .mkr "Empty", .noat "Rule" "length", .noat "Rule" "low", .noat "Rule" "high", .noat "Book" "days", .noat "Book" "rules"] ++
  [.noat "Row" "gains", .noat "Row" "heights", .noat "Row" "days", .noat "Row" "total", .noat "Empty" "word", .noat "Empty" "parts", .noat "Empty" "one", .noat "Empty" "other",
  .meth "Rule" "first_broken", .meth "Rule" "__eq__", .meth "Book" "first_broken", .meth "Book" "keeps", .meth "Book" "together", .meth "Book" "__eq__", .meth "Empty" "__eq__", .meth "Empty" "__bool__", .meth "Impossible" "__init__"]))
def oexB (K : PySem.W.Frag) (C : Addr) : Bool := match K.lookup C with
  | some ⟨.type c, _, .cls cd, sl⟩ => decide (c = "type") && (match cd.mro with
    | .ref C' :: bm => decide (C' = C) && (PySem.HandSPX.refsVE bm && (cd.hasDict && (!cd.hasDel && (match sl.toList with
      | [_, _, _, _, some (.builtin n), _] => decide (n = "ValueError.__new__")
      | _ => false))))
    | _ => false)
  | _ => false
theorem oexB_ok {K : PySem.W.Frag} {C : Addr} (h : oexB K C = true) : ∃ nm q N bs bm sn sub ab col dd k0 k1 k2 k3 k5, K.lookup C = some (excClassObj nm q C N bs bm true sn sub ab col dd k0 k1 k2 k3 k5 "ValueError.__new__") ∧ PySem.HandSPX.refsVE bm = true := by
  unfold oexB at h
  split at h
  · rename_i c dd cd sl e
    obtain ⟨h1, h2⟩ := He.ba h
    split at h2
    · rename_i C' bm em
      obtain ⟨h3, h4⟩ := He.ba h2
      obtain ⟨h5, h6⟩ := He.ba h4
      obtain ⟨h7, h8⟩ := He.ba h6
      obtain ⟨h9, h10⟩ := He.ba h8
      split at h10
      · rename_i k0 k1 k2 k3 n k5 es
        have e1 := of_decide_eq_true h1
        have e2 := of_decide_eq_true h3
        have e3 := of_decide_eq_true h10
        obtain ⟨nm, bs, mro, ns, qn, hd, sn, sub, ab, col, del⟩ := cd
        dsimp only at em h7 h9
        have hsl : sl = #[k0, k1, k2, k3, some (.builtin n), k5] := by
          rw [← es]
        have h9' : del = false := by simpa using h9
        subst e1 e2 e3 em hsl h7 h9'
        exact ⟨_, _, _, _, _, _, _, _, _, _, _, _, _, _, _, e, h5⟩
      · cases h10
    · cases h2
  · cases h
/-- Empty's own __init__, its code object's file, its cell -/
abbrev SupV : Type := Option (Str × Str × Arguments × FuncBody × Scope × Addr × List Str × Addr)
def supObs (K : PySem.W.Frag) : SupV := match K.lookup (He.ma K (cE K) "__init__") with
  | some ⟨_, _, .func fd, _⟩ => some (fd.name, fd.qualname, fd.params, fd.body, fd.scope, fd.globals, fd.closure.map (·.1), fd.builtins)
  | _ => none
def supVal : SupV := some ("__init__", "Empty.__init__", defArgs sEmptyI, .stmts (defBody sEmptyI), defScope sEmptyI, mainGlobals, ["__class__"], builtinsNs)
def fileB (K : PySem.W.Frag) (cd : Value) : Bool := match cd with
  | .ref c => (match K.lookup c with
    | some ⟨_, _, .fields vs, _⟩ => (match (vs[2]? : Option Value) with
      | some (.str f _) => (eP.main.file : Str) == f
      | _ => false)
    | _ => false)
  | _ => false
def cellB (K : PySem.W.Frag) (cl : List (Str × Addr)) : Bool := match cl with
  | [(_, cc)] => (match K.lookup cc with
    | some ⟨_, _, .cell (some (.ref D)), _⟩ => decide (D = cE K)
    | _ => false)
  | _ => false
def noneB : Value → Bool
  | .none => true
  | _ => false
def supB (K : PySem.W.Frag) : Bool := match K.lookup (He.ma K (cE K) "__init__") with
  | some ⟨_, _, .func fd, _⟩ => PySem.W.codeIn K fd.code "Empty.__init__" && (fileB K fd.code && (cellB K fd.closure && noneB fd.defaults))
  | _ => false
theorem sup_of {K : PySem.W.Frag} (e : supObs K = supVal) (h : supB K = true) : ∃ (oc : Value) (od : Option Addr) (osl : Array (Option Value)) (kV doc pm : Value) (an : Option Addr) (cda : Addr) (ct : Value) (cc : Addr) (ccl : Value) (cdd : Option Addr) (vs : Array Value) (ccs : Array (Option Value)) (file : Str) (tf : Tok) (cl : Value) (cld : Option Addr) (csl : Array (Option Value)),
    K.lookup (He.ma K (cE K) "__init__") = some ⟨oc, od, .func (PySem.W.ksFn "__init__" "Empty.__init__" (defArgs sEmptyI) (defBody sEmptyI) (defScope sEmptyI) .none kV doc pm an (.ref cda) ct cc), osl⟩ ∧ PySem.W.codeIn K (.ref cda) "Empty.__init__" = true ∧ K.lookup cda = some ⟨ccl, cdd, .fields vs, ccs⟩ ∧
      vs[2]? = some (.str file tf) ∧ ((eP.main.file : Str) == file) = true ∧ K.lookup cc = some ⟨cl, cld, .cell (some (.ref (cE K))), csl⟩ := by
  unfold supB at h
  unfold supObs at e
  cases q : K.lookup (He.ma K (cE K) "__init__") with
  | none =>
    rw [q] at h
    cases h
  | some o =>
    obtain ⟨oc, od, dt, osl⟩ := o
    rw [q] at h e
    cases dt with
    | func fd =>
      obtain ⟨n1, n2, n3, n4, n5, n6, n7, n8, n9, n10, n11, n12, n13, n14, n15⟩ := fd
      have e2 : (some (n1, n2, n3, n4, n5, n6, n7.map (·.1), n15) : SupV) = some (("__init__" : Str), ("Empty.__init__" : Str), defArgs sEmptyI, FuncBody.stmts (defBody sEmptyI), defScope sEmptyI, mainGlobals, (["__class__"] : List Str), builtinsNs) := e
      simp only [Option.some.injEq, Prod.mk.injEq] at e2
      obtain ⟨h1, h2, h3, h4, h5, h6, h7, h8⟩ := e2
      obtain ⟨k1, k2⟩ := He.ba (show (PySem.W.codeIn K n13 "Empty.__init__" && (fileB K n13 && (cellB K n7 && noneB n8))) = true from h)
      obtain ⟨k3, k4⟩ := He.ba k2
      obtain ⟨k5, k6⟩ := He.ba k4
      obtain ⟨cc, rfl⟩ : ∃ cc, n7 = [(("__class__" : Str), cc)] := by
        cases n7 with
        | nil => cases h7
        | cons p r =>
          cases r with
          | nil =>
            obtain ⟨p1, p2⟩ := p
            have z : p1 = ("__class__" : Str) := by
              have y : [p1] = [("__class__" : Str)] := h7
              simpa using y
            exact ⟨p2, by rw [z]⟩
          | cons p' r' =>
            have y := congrArg List.length h7
            simp at y
      cases n8 with
      | none =>
        obtain ⟨cda, rfl⟩ := He.codeIn_ref k1
        have k3' : (match K.lookup cda with
          | some ⟨_, _, .fields vs, _⟩ => (match (vs[2]? : Option Value) with
            | some (.str f _) => (eP.main.file : Str) == f
            | _ => false)
          | _ => false) = true := k3
        have k5' : (match K.lookup cc with
          | some ⟨_, _, .cell (some (.ref D)), _⟩ => decide (D = cE K)
          | _ => false) = true := k5
        split at k3'
        · rename_i ccl cdd vs ccs ec
          split at k3'
          · rename_i file tf ef
            split at k5'
            · rename_i cl cld D csl el
              have eD := of_decide_eq_true k5'
              subst eD
              subst h1 h2 h3 h4 h5 h6 h8
              exact ⟨oc, od, osl, n9, n10, n11, n12, cda, n14, cc, ccl, cdd, vs, ccs, file, tf, cl, cld, csl, rfl, k1, ec, ef, k3', el⟩
            · cases k5'
          · cases k3'
        · cases k3'
      | _ => cases k6
    | _ => cases h
end K15

/-! K15H2: the hook, the run. -/
namespace K15
open PySem PySem.Spec PyProof.Rows L2
def insB (K : PySem.W.Frag) (C : Addr) : Bool := He.eqO (PySem.W.findIn K (.ref C) "__class__") (some (some (.builtin "object.__class__"))) && decide (PySem.W.mroIn K C (.type "object") = some true)
def kitB (K : PySem.W.Frag) (C D : Addr) : Bool := decide (PySem.W.kitOne K (.ref C) (.ref D) = some true)
def fcB (K : PySem.W.Frag) : Bool := match PySem.W.findCls K (.ref (cE K)) (.type "type") "__name__" with
  | some (.get a b c d) => decide (a = .builtin "getset_descriptor.__get__") && (decide (b = .builtin "type.__name__") && (decide (c = .ref (cE K)) && decide (d = .type "type")))
  | _ => false
theorem fcB_ok {K : PySem.W.Frag} (h : fcB K = true) : PySem.W.findCls K (.ref (cE K)) (.type "type") "__name__" = some (.get (.builtin "getset_descriptor.__get__") (.builtin "type.__name__") (.ref (cE K)) (.type "type")) := by
  unfold fcB at h
  split at h
  · rename_i a b c d e
    obtain ⟨h1, h2⟩ := He.ba h
    obtain ⟨h3, h4⟩ := He.ba h2
    obtain ⟨h5, h6⟩ := He.ba h4
    rw [e, of_decide_eq_true h1, of_decide_eq_true h3, of_decide_eq_true h5, of_decide_eq_true h6]
  · cases h
def exsA (K : PySem.W.Frag) : List Bool := [He.eqO (PySem.W.specialIn K (.builtin "object.__class__") "__get__") (some (some (.builtin "getset_descriptor.__get__"))), decide (PySem.W.takesIn K (.builtin "object.__class__") = some true),
  insB K (cR K), insB K (cB K), insB K (cW K), insB K (cE K), kitB K (cR K) (cR K), kitB K (cB K) (cB K), kitB K (cW K) (cW K), kitB K (cE K) (cP K), kitB K (cE K) (cE K), kitB K (cE K) (cN K)]
def exsB (K : PySem.W.Frag) : List Bool := [PySem.W.readsIn K (cE K) (.type "type"), fcB K, (nameOf K (cE K)).isSome, oexB K (cI K), He.eqO (PySem.W.findIn K (.ref (cI K)) "__setattr__") (some (some (.builtin "object.__setattr__"))),
  decide (PySem.W.subIn K (.ref (cI K)) (.type "BaseException") = some true), decide (PySem.W.typeIn K (.ref (cI K)) = some (.type "type")), PySem.W.keepIn K (.ref (cI K)), He.eqO (PySem.W.findIn K (.ref (cI K)) "paper") (some none),
  He.eqO (PySem.W.nsIn K cStatics "thirdparty.any") (some none), decide (PySem.W.mroIn K (cE K) (.ref (cE K)) = some true)]
def exsC (K : PySem.W.Frag) : List Bool := [decide (PySem.W.exmOne K (.ref (cI K)) (.ref (cD K)) = some true), PySem.W.isIn K (.ref (cI K)) (cI K), He.eqO (PySem.W.findIn K (.ref (cI K)) "__getattribute__") (some (some (.builtin "BaseException.__getattribute__"))),
  (PySem.W.findIn K (.ref (cI K)) "__getattr__").isSome, PySem.W.hasDictIn K (cI K), He.eqO (PySem.W.findIn K (.ref (cB K)) "__ne__") (some (some (.builtin "object.__ne__"))), He.eqO (PySem.W.findIn K (.ref (cE K)) "__ne__") (some (some (.builtin "object.__ne__"))),
  He.eqO (PySem.W.ks_superIn K (cE K) (cE K) "__init__") (some (some (.ref (He.ma K (cP K) "__init__")))), decide (PySem.W.typeIn K (.ref (He.ma K (cP K) "__init__")) = some (.type "function")), PySem.W.fnIn K (He.ma K (cP K) "__init__"), supB K, (PySem.W.clsIn K (cE K)).isSome,
  decide (PySem.W.typeIn K (.ref (He.ma K (cI K) "__init__")) = some (.type "function"))]
def exAll (K : PySem.W.Frag) : Bool := (exsA K).all id && ((exsB K).all id && (exsC K).all id)
theorem all_at {l : List Bool} (h : l.all id = true) (i : Nat) {b : Bool} (e : l[i]? = some b := by rfl) : b = true := List.all_eq_true.mp h b (List.mem_of_getElem? e)
def tf15 : List He.Defn := [("_law_together_right", none)]
def nsOf (K : PySem.W.Frag) (C : Addr) : Addr := match K.lookup C with
  | some ⟨_, _, .cls cd, _⟩ => cd.ns
  | _ => 0
def cellOf (K : PySem.W.Frag) (p : He.Defn) : Addr := match K.lookup (He.fAd K p) with
  | some ⟨_, _, .func fd, _⟩ => (match fd.closure with
    | [(_, cc)] => cc
    | _ => 0)
  | _ => 0
def dflOf (K : PySem.W.Frag) (p : He.Defn) : Addr := match K.lookup (He.fAd K p) with
  | some ⟨_, _, .func fd, _⟩ => (match fd.defaults with
    | .ref T => T
    | _ => 0)
  | _ => 0
def pE : He.Defn := ("Empty", some "__init__")
def as1 (g : Addr → Option Obj) : List Addr := mainGlobals :: (glos ++ (glosB ++ glosC)).map (He.ga (He.frG g [mainGlobals]))
def as2 (g : Addr → Option Obj) : List Addr := as1 g ++ glosC.map fun x => nsOf (He.frG g (as1 g)) (He.ga (He.frG g (as1 g)) x)
def as3 (g : Addr → Option Obj) : List Addr := as2 g ++ He.fAd (He.frG g (as2 g)) pE :: fnC.map fun d => He.fAd (He.frG g (as2 g)) d.at_
def as4 (g : Addr → Option Obj) : List Addr := cStatics :: He.codeOf (He.frG g (as3 g)) pE :: cellOf (He.frG g (as3 g)) pE :: dflOf (He.frG g (as3 g)) ("Rule", some "__init__") :: (as3 g ++ fn15.map fun d => He.codeOf (He.frG g (as3 g)) d.at_)
def KK (g : Addr → Option Obj) : PySem.W.Frag := He.frT g (as4 g)
abbrev Al15 : Type := He.AlD × (Bool × SupV)
def obs15 (g : Addr → Option Obj) : Al15 := (He.obsD fa15 fn15 (KK g), (exAll (KK g) && He.tabsB g tf15 (KK g), supObs (KK g)))
def val15 : Al15 := (He.valD fn15, (true, supVal))
def pT : He.Defn := ("_law_together_right", none)
structure Says (h : Heap) (K : PySem.W.Frag) : Prop where
  d : He.SaysD fa15 fn15 K
  ex : exAll K = true
  sup : supObs K = supVal
  hd : PySem.W.codeHdIn K (He.cT K pT).1 (He.cT K pT).2 = true
  out : K.lookup (He.cT K pT).2 = none
  empty : h.get? (He.cT K pT).2 = some { cls := .none, data := .fields #[] }
theorem says_of {h : Heap} (e : obs15 h.get? = val15) : Says h (KK h.get?) := by
  have e1 : He.obsD fa15 fn15 (KK h.get?) = He.valD fn15 := congrArg (fun z : Al15 => z.1) e
  have e2 : (exAll (KK h.get?) && He.tabsB h.get? tf15 (KK h.get?)) = true := congrArg (fun z : Al15 => z.2.1) e
  have e3 : supObs (KK h.get?) = supVal := congrArg (fun z : Al15 => z.2.2) e
  obtain ⟨h1, h2⟩ := He.ba e2
  obtain ⟨h3, h4⟩ := He.ba (List.all_eq_true.mp h2 pT List.mem_cons_self)
  cases q : h.get? (He.cT (KK h.get?) pT).2 with
  | none =>
    rw [q] at h4
    cases h4
  | some o =>
    rw [q] at h4
    have h5 : He.emptyTab o = true := h4
    exact ⟨e1, h1, e3, h3, He.frT_none q h5, by rw [q, He.emptyTab_eq h5]⟩
def hook15 : PySem.W.Hook where
  α := Al15
  obs := fun s => obs15 s.heap.get?
  val := fun _ => val15
  says := fun _ h => ∃ K : PySem.W.Frag, K.In h ∧ Says h K
  of := fun _ _ e => ⟨_, He.frT_in, says_of e⟩
  keeps := fun _ _ _ ⟨K, hK, c⟩ k => ⟨K, PySem.W.Frag.In.keeps hK k, ⟨c.d, c.ex, c.sup, c.hd, c.out, k _ _ c.empty⟩⟩
def ob15 (s : PySem.W.SharedT) : Al15 := obs15 (HandSHeadRun.getT s)
theorem ob15_eq (s : PySem.W.SharedT) : ob15 s = hook15.obs s.abs := by
  have e : HandSHeadRun.getT s = s.abs.heap.get? := funext (HandSHeadRun.getT_eq s)
  unfold ob15
  rw [e] <;> rfl
theorem run15 (w : World) : HandSHeadRun.RunEq R15 qv15 hook15 ob15 20000 names15 w := by
  intro os
  kernel_rfl
end K15

/-! K15H3: the callees out of the head's facts. -/
namespace K15
open PySem PySem.Spec PyProof.Rows L2
section
variable {K : PySem.W.Frag} {h : Heap} {mg : Str → Option Value}
theorem exA_of (c : Says h K) : (exsA K).all id = true := (He.ba c.ex).1
theorem exB_of (c : Says h K) : (exsB K).all id = true := (He.ba (He.ba c.ex).2).1
theorem exC_of (c : Says h K) : (exsC K).all id = true := (He.ba (He.ba c.ex).2).2
theorem txt_of (c : Says h K) (X : K.In h) (G : h.Ns mainGlobals mg) : Txt K mg := by
  have hA := exA_of c
  exact {
    hn := He.eqO_ok (all_at hA 0)
    htk := of_decide_eq_true (all_at hA 1)
    iR := ⟨He.cls_ok (c.d.fact 54 (f := .cls "Rule") rfl), He.eqO_ok (He.ba (all_at hA 2)).1, of_decide_eq_true (He.ba (all_at hA 2)).2⟩
    iB := ⟨He.cls_ok (c.d.fact 55 (f := .cls "Book") rfl), He.eqO_ok (He.ba (all_at hA 3)).1, of_decide_eq_true (He.ba (all_at hA 3)).2⟩
    iW := ⟨He.cls_ok (c.d.fact 56 (f := .cls "Row") rfl), He.eqO_ok (He.ba (all_at hA 4)).1, of_decide_eq_true (He.ba (all_at hA 4)).2⟩
    iE := ⟨He.cls_ok (c.d.fact 57 (f := .cls "Empty") rfl), He.eqO_ok (He.ba (all_at hA 5)).1, of_decide_eq_true (He.ba (all_at hA 5)).2⟩
    rLength := (He.noat_ok (c.d.fact 62 (f := .noat "Rule" "length") rfl))
    rLow := (He.noat_ok (c.d.fact 63 (f := .noat "Rule" "low") rfl))
    rHigh := (He.noat_ok (c.d.fact 64 (f := .noat "Rule" "high") rfl))
    bDays := (He.noat_ok (c.d.fact 65 (f := .noat "Book" "days") rfl))
    bRules := (He.noat_ok (c.d.fact 66 (f := .noat "Book" "rules") rfl))
    wGains := (He.noat_ok (c.d.fact 67 (f := .noat "Row" "gains") rfl))
    wHeights := (He.noat_ok (c.d.fact 68 (f := .noat "Row" "heights") rfl))
    wDays := (He.noat_ok (c.d.fact 69 (f := .noat "Row" "days") rfl))
    wTotal := (He.noat_ok (c.d.fact 70 (f := .noat "Row" "total") rfl))
    eWord := (He.noat_ok (c.d.fact 71 (f := .noat "Empty" "word") rfl))
    eParts := (He.noat_ok (c.d.fact 72 (f := .noat "Empty" "parts") rfl))
    eOne := (He.noat_ok (c.d.fact 73 (f := .noat "Empty" "one") rfl))
    eOther := (He.noat_ok (c.d.fact 74 (f := .noat "Empty" "other") rfl))
    mR := (He.glo_ok X G (c.d.fact 27 (f := .glo "Rule") rfl))
    mB := (He.glo_ok X G (c.d.fact 28 (f := .glo "Book") rfl))
    mW := (He.glo_ok X G (c.d.fact 29 (f := .glo "Row") rfl))
    mE := (He.glo_ok X G (c.d.fact 30 (f := .glo "Empty") rfl))
    mP := (He.glo_ok X G (c.d.fact 31 (f := .glo "Paper") rfl))
    mN := (He.glo_ok X G (c.d.fact 32 (f := .glo "Denial") rfl))
    mI := (He.glo_ok X G (c.d.fact 33 (f := .glo "Impossible") rfl))
    mD := (He.glo_ok X G (c.d.fact 34 (f := .glo "DayError") rfl))
    kRR := of_decide_eq_true (all_at hA 6)
    kBB := of_decide_eq_true (all_at hA 7)
    kWW := of_decide_eq_true (all_at hA 8)
    kEP := of_decide_eq_true (all_at hA 9)
    kEE := of_decide_eq_true (all_at hA 10)
    kEN := of_decide_eq_true (all_at hA 11)
    cDaysB := He.int_ok X G (c.d.fact 50 (f := .int "MOST_DAYS_books" 48) rfl)
    cDaysR := He.int_ok X G (c.d.fact 51 (f := .int "MOST_DAYS_rows" 48) rfl)
    cLen := He.int_ok X G (c.d.fact 52 (f := .int "MOST_LENGTH" 48) rfl)
    cRules := He.int_ok X G (c.d.fact 53 (f := .int "MOST_RULES" 8) rfl)
    isi := (He.free_ok X G (c.d.fact 35 (f := .free "isinstance") rfl))
    int := (He.free_ok X G (c.d.fact 36 (f := .free "int") rfl))
    bool := (He.free_ok X G (c.d.fact 37 (f := .free "bool") rfl))
    list := (He.free_ok X G (c.d.fact 38 (f := .free "list") rfl))
    tuple := (He.free_ok X G (c.d.fact 39 (f := .free "tuple") rfl))
    all := (He.free_ok X G (c.d.fact 40 (f := .free "all") rfl))
    len := (He.free_ok X G (c.d.fact 41 (f := .free "len") rfl))
    range := (He.free_ok X G (c.d.fact 42 (f := .free "range") rfl))
    enumerate := (He.free_ok X G (c.d.fact 43 (f := .free "enumerate") rfl))
    max := (He.free_ok X G (c.d.fact 44 (f := .free "max") rfl))
    min := (He.free_ok X G (c.d.fact 45 (f := .free "min") rfl))
    sorted := (He.free_ok X G (c.d.fact 46 (f := .free "sorted") rfl))
    sum := (He.free_ok X G (c.d.fact 47 (f := .free "sum") rfl))
    abs := (He.free_ok X G (c.d.fact 48 (f := .free "abs") rfl))
    super := (He.free_ok X G (c.d.fact 49 (f := .free "super") rfl))
  }
theorem txtP_of (c : Says h K) : TxtP K := by
  have hB := exB_of c
  exact {
    rd := all_at hB 0
    fc := fcB_ok (all_at hB 1)
    nm := Option.isSome_iff_exists.mp (all_at hB 2)
    ox := ⟨oexB_ok (all_at hB 3), He.eqO_ok (all_at hB 4), of_decide_eq_true (all_at hB 5), of_decide_eq_true (all_at hB 6), all_at hB 7⟩
    np := He.eqO_ok (all_at hB 8)
    th := He.eqO_ok (all_at hB 9)
    ms := of_decide_eq_true (all_at hB 10)
  }
theorem txtH_of (c : Says h K) : TxtH K := by
  have hB := exB_of c
  have hC := exC_of c
  exact {
    exm := of_decide_eq_true (all_at hC 0)
    isI := all_at hC 1
    g1 := He.eqO_ok (all_at hC 2)
    g2 := Option.isSome_iff_exists.mp (all_at hC 3)
    sub := of_decide_eq_true (all_at hB 5)
    hd := all_at hC 4
  }
/-- a def whose code object is told by name -/
theorem fdc_of {x : Str} {st : Stmt} {f : Addr} {fd : FuncData} {p : He.Defn} (F : FN K x st f fd) (hf : He.fAd K p = f) : FDC K x x st f fd (He.codeOf K p) := by
  obtain ⟨oc, od, dV, kV, doc, pm, an, cdv, ct, osl, rfl, lk, hcd, hD, hK⟩ := F.ex
  rcases hD with ⟨_, rfl⟩ | ⟨e, _⟩
  · obtain ⟨cc, rfl⟩ := He.codeIn_ref hcd
    have e : He.codeOf K p = cc := He.codeOf_eq (by rw [hf]; exact lk) rfl
    rw [e]
    exact ⟨oc, od, kV, doc, pm, an, ct, osl, rfl, lk, hcd⟩
  · exact absurd rfl e
end
section
variable {w : World} {K : PySem.W.Frag} {h : Heap} {mg : Str → Option Value} {base : Heap}
theorem ctx_of (c : Says h K) (X : K.In h) (G : h.Ns mainGlobals mg) (hP : (eP.main.scope.names.lookup ("super" : Str)).isSome = false) : CtxR eP w K mg base ∧ ∀ TL, Cal eP w K mg base CX0 9 "_law_together_right" ["_law_days", "_law_rules", "_law_rows_here"] (spRight TL) → CtxL eP w K mg base TL := by
  have T : Txt K mg := txt_of c X G
  have TP := txtP_of c
  have TH := txtH_of c
  have hC := exC_of c
  obtain ⟨fd_isInt, F_isInt'⟩ := c.d.def_ 0 (d := gD "is_integer" sIsInt) rfl
  have F_isInt : FN K "is_integer" sIsInt (He.ga K "is_integer") fd_isInt := F_isInt'
  have B_isInt : Binds K fd_isInt ["value"] [] := FunD.bindsN (ps := ["value"]) F_isInt fun _ _ _ _ _ _ us hl => match us, hl with | [_], _ => rfl
  have c_isInt : Cal eP w K mg base CX0 1 "is_integer" ["value"] spIsInt := ⟨⟨_, _, ok_isInt F_isInt T, (He.glo_ok X G (c.d.fact 0 (f := .glo "is_integer") rfl)), F_isInt.kp, B_isInt⟩⟩
  obtain ⟨fd_within, F_within'⟩ := c.d.def_ 1 (d := gD "is_within" sIsWithin) rfl
  have F_within : FN K "is_within" sIsWithin (He.ga K "is_within") fd_within := F_within'
  have B_within : Binds K fd_within ["value", "least", "most"] [] := FunD.bindsN (ps := ["value", "least", "most"]) F_within fun _ _ _ _ _ _ us hl => match us, hl with | [_, _, _], _ => rfl
  have c_within : Cal eP w K mg base CX0 2 "is_within" ["value", "least", "most"] spWithin := ⟨⟨_, _, ok_within F_within c_isInt, (He.glo_ok X G (c.d.fact 1 (f := .glo "is_within") rfl)), F_within.kp, B_within⟩⟩
  obtain ⟨fd_areInts, F_areInts'⟩ := c.d.def_ 2 (d := gD "are_integers" sAreInts) rfl
  have F_areInts : FN K "are_integers" sAreInts (He.ga K "are_integers") fd_areInts := F_areInts'
  have B_areInts : Binds K fd_areInts ["value"] [] := FunD.bindsN (ps := ["value"]) F_areInts fun _ _ _ _ _ _ us hl => match us, hl with | [_], _ => rfl
  have c_areInts : Cal eP w K mg base CX0 2 "are_integers" ["value"] (spAreInts K) := ⟨⟨_, _, ok_areInts F_areInts T c_isInt, (He.glo_ok X G (c.d.fact 2 (f := .glo "are_integers") rfl)), F_areInts.kp, B_areInts⟩⟩
  obtain ⟨fd_need, F_need'⟩ := c.d.def_ 3 (d := gD "need_number" sNeedNum) rfl
  have F_need : FN K "need_number" sNeedNum (He.ga K "need_number") fd_need := F_need'
  have B_need : Binds K fd_need ["value", "part", "least", "most"] [] := FunD.bindsN (ps := ["value", "part", "least", "most"]) F_need fun _ _ _ _ _ _ us hl => match us, hl with | [_, _, _, _], _ => rfl
  have c_need : Cal eP w K mg base CX0 3 "need_number" ["value", "part", "least", "most"] spNeed := ⟨⟨_, _, ok_need F_need c_within, (He.glo_ok X G (c.d.fact 3 (f := .glo "need_number") rfl)), F_need.kp, B_need⟩⟩
  obtain ⟨fd_fixI, F_fixI'⟩ := c.d.def_ 4 (d := gD "fixed" sFixed) rfl
  have F_fixI : FN K "fixed" sFixed (He.ga K "fixed") fd_fixI := F_fixI'
  have B_fixI : Binds K fd_fixI ["value"] [] := FunD.bindsN (ps := ["value"]) F_fixI fun _ _ _ _ _ _ us hl => match us, hl with | [_], _ => rfl
  have c_fixI : Cal eP w K mg base CX0 1 "fixed" ["value"] spFixI := ⟨⟨_, _, ok_fixI F_fixI T, (He.glo_ok X G (c.d.fact 4 (f := .glo "fixed") rfl)), F_fixI.kp, B_fixI⟩⟩
  have c_fixT : Cal eP w K mg base CX0 2 "fixed" ["value"] spFixT := ⟨⟨_, _, ok_fixT F_fixI T c_fixI, (He.glo_ok X G (c.d.fact 4 (f := .glo "fixed") rfl)), F_fixI.kp, B_fixI⟩⟩
  obtain ⟨fd_needRow, F_needRow'⟩ := c.d.def_ 5 (d := gD "need_row" sNeedRow) rfl
  have F_needRow : FN K "need_row" sNeedRow (He.ga K "need_row") fd_needRow := F_needRow'
  have B_needRow : Binds K fd_needRow ["value", "part"] [] := FunD.bindsN (ps := ["value", "part"]) F_needRow fun _ _ _ _ _ _ us hl => match us, hl with | [_, _], _ => rfl
  have c_needRow : Cal eP w K mg base CX0 1 "need_row" ["value", "part"] (spNeedRow K) := ⟨⟨_, _, ok_needRow F_needRow T, (He.glo_ok X G (c.d.fact 5 (f := .glo "need_row") rfl)), F_needRow.kp, B_needRow⟩⟩
  obtain ⟨fd_heights, F_heights'⟩ := c.d.def_ 6 (d := gD "heights_of" sHeights) rfl
  have F_heights : FN K "heights_of" sHeights (He.ga K "heights_of") fd_heights := F_heights'
  have B_heights : Binds K fd_heights ["gains"] [] := FunD.bindsN (ps := ["gains"]) F_heights fun _ _ _ _ _ _ us hl => match us, hl with | [_], _ => rfl
  have c_heights : Cal eP w K mg base CX0 1 "heights_of" ["gains"] (spHeights K) := ⟨⟨_, _, ok_heights F_heights T, (He.glo_ok X G (c.d.fact 6 (f := .glo "heights_of") rfl)), F_heights.kp, B_heights⟩⟩
  obtain ⟨fd_needBound, F_needBound'⟩ := c.d.def_ 7 (d := gD "need_bound" sNeedBound) rfl
  have F_needBound : FN K "need_bound" sNeedBound (He.ga K "need_bound") fd_needBound := F_needBound'
  have B_needBound : Binds K fd_needBound ["value", "part"] [] := FunD.bindsN (ps := ["value", "part"]) F_needBound fun _ _ _ _ _ _ us hl => match us, hl with | [_, _], _ => rfl
  have c_needBound : Cal eP w K mg base CX0 2 "need_bound" ["value", "part"] spBound := ⟨⟨_, _, ok_needBound F_needBound c_isInt, (He.glo_ok X G (c.d.fact 7 (f := .glo "need_bound") rfl)), F_needBound.kp, B_needBound⟩⟩
  obtain ⟨fd_areBounds, F_areBounds'⟩ := c.d.def_ 8 (d := gD "are_bounds" sAreBounds) rfl
  have F_areBounds : FN K "are_bounds" sAreBounds (He.ga K "are_bounds") fd_areBounds := F_areBounds'
  have B_areBounds : Binds K fd_areBounds ["low", "high"] [] := FunD.bindsN (ps := ["low", "high"]) F_areBounds fun _ _ _ _ _ _ us hl => match us, hl with | [_, _], _ => rfl
  have c_areBounds : Cal eP w K mg base CX0 1 "are_bounds" ["low", "high"] spBounds := ⟨⟨_, _, ok_areBounds F_areBounds, (He.glo_ok X G (c.d.fact 8 (f := .glo "are_bounds") rfl)), F_areBounds.kp, B_areBounds⟩⟩
  obtain ⟨fd_areRules, F_areRules'⟩ := c.d.def_ 9 (d := gD "are_rules" sAreRules) rfl
  have F_areRules : FN K "are_rules" sAreRules (He.ga K "are_rules") fd_areRules := F_areRules'
  have B_areRules : Binds K fd_areRules ["value"] [] := FunD.bindsN (ps := ["value"]) F_areRules fun _ _ _ _ _ _ us hl => match us, hl with | [_], _ => rfl
  have c_areRules : Cal eP w K mg base CX0 1 "are_rules" ["value"] (spAreRules K) := ⟨⟨_, _, ok_areRules F_areRules T, (He.glo_ok X G (c.d.fact 9 (f := .glo "are_rules") rfl)), F_areRules.kp, B_areRules⟩⟩
  obtain ⟨fd_areEmpty, F_areEmpty'⟩ := c.d.def_ 10 (d := gD "are_empty" sAreEmpty) rfl
  have F_areEmpty : FN K "are_empty" sAreEmpty (He.ga K "are_empty") fd_areEmpty := F_areEmpty'
  have B_areEmpty : Binds K fd_areEmpty ["one", "other"] [] := FunD.bindsN (ps := ["one", "other"]) F_areEmpty fun _ _ _ _ _ _ us hl => match us, hl with | [_, _], _ => rfl
  have c_areEmpty : Cal eP w K mg base CX0 1 "are_empty" ["one", "other"] (spAreEmpty K) := ⟨⟨_, _, ok_areEmpty F_areEmpty T, (He.glo_ok X G (c.d.fact 10 (f := .glo "are_empty") rfl)), F_areEmpty.kp, B_areEmpty⟩⟩
  obtain ⟨fd_emptyPair, F_emptyPair'⟩ := c.d.def_ 11 (d := gD "empty_pair" sEmptyPair) rfl
  have F_emptyPair : FN K "empty_pair" sEmptyPair (He.ga K "empty_pair") fd_emptyPair := F_emptyPair'
  have B_emptyPair : Binds K fd_emptyPair ["book"] [] := FunD.bindsN (ps := ["book"]) F_emptyPair fun _ _ _ _ _ _ us hl => match us, hl with | [_], _ => rfl
  have c_emptyPair : Cal eP w K mg base CX0 2 "empty_pair" ["book"] (spPair K) := ⟨⟨_, _, ok_emptyPair F_emptyPair T c_areEmpty, (He.glo_ok X G (c.d.fact 11 (f := .glo "empty_pair") rfl)), F_emptyPair.kp, B_emptyPair⟩⟩
  obtain ⟨fd_ruleI, F_ruleI'⟩ := c.d.def_ 31 (d := mD "Rule" "__init__" "Rule.__init__" sRuleI [.non, .non]) rfl
  have F_ruleI : FunD K "__init__" "Rule.__init__" (defArgs sRuleI) (defBody sRuleI) (defScope sRuleI) [V.non, V.non] [] (He.ma K (He.ga K "Rule") "__init__") fd_ruleI := F_ruleI'
  obtain ⟨ds_ruleI, vd_ruleI, B_ruleI'⟩ := FunD.binds1 (ps := ["self", "length", "low", "high"]) F_ruleI 4 2 (by decide) (by decide) fun T kV doc pm an cdv ct us its hl hi => match us, hl, its, hi with | [_, _, _, _], _, [_, _], _ => ⟨_, rfl, rfl⟩
  have B_ruleI : Binds K fd_ruleI ["self", "length", "low", "high"] [] := by
    cases vd_ruleI
    exact B_ruleI'
  have c_ruleI : CalC eP w K mg base CX0 4 (cR K) "Rule" ["self", "length", "low", "high"] (spRuleI K) := ⟨⟨_, _, ok_ruleI F_ruleI T c_need c_needBound c_areBounds, He.mkr_ok (c.d.fact 58 (f := .mkr "Rule") rfl), T.mR, B_ruleI⟩⟩
  obtain ⟨fd_drawn, F_drawn'⟩ := c.d.def_ 12 (d := gD "drawn_together" sDrawn) rfl
  have F_drawn : FN K "drawn_together" sDrawn (He.ga K "drawn_together") fd_drawn := F_drawn'
  have B_drawn : Binds K fd_drawn ["rules", "length"] [] := FunD.bindsN (ps := ["rules", "length"]) F_drawn fun _ _ _ _ _ _ us hl => match us, hl with | [_, _], _ => rfl
  have c_drawn : Cal eP w K mg base CX0 6 "drawn_together" ["rules", "length"] (spDrawn K) := ⟨⟨_, _, ok_drawn F_drawn T c_ruleI, (He.glo_ok X G (c.d.fact 12 (f := .glo "drawn_together") rfl)), F_drawn.kp, B_drawn⟩⟩
  obtain ⟨fd_paperI, F_paperI'⟩ := c.d.def_ 27 (d := mD "Paper" "__init__" "Paper.__init__" sPaperI []) rfl
  have F_paperI : FD K "__init__" "Paper.__init__" sPaperI (He.ma K (He.ga K "Paper") "__init__") fd_paperI := F_paperI'
  obtain ⟨fd_eeq, F_eeq'⟩ := c.d.def_ 28 (d := mD "Empty" "__eq__" "Paper.__eq__" sPaperE []) rfl
  have F_eeq : FD K "__eq__" "Paper.__eq__" sPaperE (He.ma K (He.ga K "Empty") "__eq__") fd_eeq := F_eeq'
  have B_eeq : Binds K fd_eeq ["self", "other"] [] := FunD.bindsN (ps := ["self", "other"]) F_eeq fun _ _ _ _ _ _ us hl => match us, hl with | [_, _], _ => rfl
  have c_eeq : CalM eP w K mg base CX0 1 (cE K) "__eq__" ["self", "other"] (spEq (rPaper K)) := ⟨⟨_, _, ok_paperE F_eeq T TP, He.meth_ok (c.d.fact 81 (f := .meth "Empty" "__eq__") rfl), B_eeq⟩⟩
  obtain ⟨fd_ebool, F_ebool'⟩ := c.d.def_ 29 (d := mD "Empty" "__bool__" "Denial.__bool__" sDenialB []) rfl
  have F_ebool : FD K "__bool__" "Denial.__bool__" sDenialB (He.ma K (He.ga K "Empty") "__bool__") fd_ebool := F_ebool'
  have B_ebool : Binds K fd_ebool ["self"] [] := FunD.bindsN (ps := ["self"]) F_ebool fun _ _ _ _ _ _ us hl => match us, hl with | [_], _ => rfl
  have c_ebool : CalM eP w K mg base CX0 1 (cE K) "__bool__" ["self"] spFalse := ⟨⟨_, _, ok_denialB F_ebool, He.meth_ok (c.d.fact 82 (f := .meth "Empty" "__bool__") rfl), B_ebool⟩⟩
  obtain ⟨fd_rowI, F_rowI'⟩ := c.d.def_ 30 (d := mD "Row" "__init__" "Row.__init__" sRowI []) rfl
  have F_rowI : FD K "__init__" "Row.__init__" sRowI (He.ma K (He.ga K "Row") "__init__") fd_rowI := F_rowI'
  have B_rowI : Binds K fd_rowI ["self", "gains"] [] := FunD.bindsN (ps := ["self", "gains"]) F_rowI fun _ _ _ _ _ _ us hl => match us, hl with | [_, _], _ => rfl
  have c_rowI : CalC eP w K mg base CX0 3 (cW K) "Row" ["self", "gains"] (spRowI K) := ⟨⟨_, _, ok_rowI F_rowI T c_areInts c_heights, He.mkr_ok (c.d.fact 60 (f := .mkr "Row") rfl), T.mW, B_rowI⟩⟩
  obtain ⟨fd_ruleF, F_ruleF'⟩ := c.d.def_ 32 (d := mD "Rule" "first_broken" "Rule.first_broken" sRuleF []) rfl
  have F_ruleF : FD K "first_broken" "Rule.first_broken" sRuleF (He.ma K (He.ga K "Rule") "first_broken") fd_ruleF := F_ruleF'
  have B_ruleF : Binds K fd_ruleF ["self", "row"] [] := FunD.bindsN (ps := ["self", "row"]) F_ruleF fun _ _ _ _ _ _ us hl => match us, hl with | [_, _], _ => rfl
  have c_ruleF : CalM eP w K mg base CX0 3 (cR K) "first_broken" ["self", "row"] (spRuleF K) := ⟨⟨_, _, ok_ruleF F_ruleF T c_needRow c_within, He.meth_ok (c.d.fact 75 (f := .meth "Rule" "first_broken") rfl), B_ruleF⟩⟩
  obtain ⟨fd_ruleE, F_ruleE'⟩ := c.d.def_ 33 (d := mD "Rule" "__eq__" "Rule.__eq__" sRuleE []) rfl
  have F_ruleE : FD K "__eq__" "Rule.__eq__" sRuleE (He.ma K (He.ga K "Rule") "__eq__") fd_ruleE := F_ruleE'
  have B_ruleE : Binds K fd_ruleE ["self", "other"] [] := FunD.bindsN (ps := ["self", "other"]) F_ruleE fun _ _ _ _ _ _ us hl => match us, hl with | [_, _], _ => rfl
  have c_ruleE : CalM eP w K mg base CX0 1 (cR K) "__eq__" ["self", "other"] (spEq (rRule K)) := ⟨⟨_, _, ok_ruleE F_ruleE T, He.meth_ok (c.d.fact 76 (f := .meth "Rule" "__eq__") rfl), B_ruleE⟩⟩
  obtain ⟨fd_bookI, F_bookI'⟩ := c.d.def_ 34 (d := mD "Book" "__init__" "Book.__init__" sBookI []) rfl
  have F_bookI : FD K "__init__" "Book.__init__" sBookI (He.ma K (He.ga K "Book") "__init__") fd_bookI := F_bookI'
  have B_bookI : Binds K fd_bookI ["self", "days", "rules"] [] := FunD.bindsN (ps := ["self", "days", "rules"]) F_bookI fun _ _ _ _ _ _ us hl => match us, hl with | [_, _, _], _ => rfl
  have c_bookI : CalC eP w K mg base CX0 4 (cB K) "Book" ["self", "days", "rules"] (spBookI K) := ⟨⟨_, _, ok_bookI F_bookI T c_need c_areRules, He.mkr_ok (c.d.fact 59 (f := .mkr "Book") rfl), T.mB, B_bookI⟩⟩
  obtain ⟨fd_bookF, F_bookF'⟩ := c.d.def_ 36 (d := mD "Book" "first_broken" "Book.first_broken" sBookF []) rfl
  have F_bookF : FD K "first_broken" "Book.first_broken" sBookF (He.ma K (He.ga K "Book") "first_broken") fd_bookF := F_bookF'
  have B_bookF : Binds K fd_bookF ["self", "row"] [] := FunD.bindsN (ps := ["self", "row"]) F_bookF fun _ _ _ _ _ _ us hl => match us, hl with | [_, _], _ => rfl
  have c_bookF : CalM eP w K mg base CX0 4 (cB K) "first_broken" ["self", "row"] (spBookF K) := ⟨⟨_, _, ok_bookF F_bookF T c_needRow c_ruleF, He.meth_ok (c.d.fact 77 (f := .meth "Book" "first_broken") rfl), B_bookF⟩⟩
  obtain ⟨fd_bookK, F_bookK'⟩ := c.d.def_ 35 (d := mD "Book" "keeps" "Book.keeps" sBookK []) rfl
  have F_bookK : FD K "keeps" "Book.keeps" sBookK (He.ma K (He.ga K "Book") "keeps") fd_bookK := F_bookK'
  have B_bookK : Binds K fd_bookK ["self", "row"] [] := FunD.bindsN (ps := ["self", "row"]) F_bookK fun _ _ _ _ _ _ us hl => match us, hl with | [_, _], _ => rfl
  have c_bookK : CalM eP w K mg base CX0 5 (cB K) "keeps" ["self", "row"] (spBookK K) := ⟨⟨_, _, ok_bookK F_bookK T c_bookF, He.meth_ok (c.d.fact 78 (f := .meth "Book" "keeps") rfl), B_bookK⟩⟩
  obtain ⟨fd_bookE, F_bookE'⟩ := c.d.def_ 38 (d := mD "Book" "__eq__" "Book.__eq__" sBookE []) rfl
  have F_bookE : FD K "__eq__" "Book.__eq__" sBookE (He.ma K (He.ga K "Book") "__eq__") fd_bookE := F_bookE'
  have B_bookE : Binds K fd_bookE ["self", "other"] [] := FunD.bindsN (ps := ["self", "other"]) F_bookE fun _ _ _ _ _ _ us hl => match us, hl with | [_, _], _ => rfl
  have c_bookE : CalM eP w K mg base CX0 3 (cB K) "__eq__" ["self", "other"] (spEq (rBook K)) := ⟨⟨_, _, ok_bookE F_bookE T c_ruleE, He.meth_ok (c.d.fact 80 (f := .meth "Book" "__eq__") rfl), B_bookE⟩⟩
  obtain ⟨fd_impI, F_impI'⟩ := c.d.def_ 39 (d := mD "Impossible" "__init__" "Impossible.__init__" sImpI []) rfl
  have F_impI : FD K "__init__" "Impossible.__init__" sImpI (He.ma K (He.ga K "Impossible") "__init__") fd_impI := F_impI'
  have B_impI : Binds K fd_impI ["self", "paper"] [] := FunD.bindsN (ps := ["self", "paper"]) F_impI fun _ _ _ _ _ _ us hl => match us, hl with | [_, _], _ => rfl
  obtain ⟨oc, od, osl, kV, doc, pm, an, cda, ct, cc, ccl, cdd, vs, ccs, file, tf, cl, cld, csl, lkE, cdE, lkC, vsF, flE, lkD⟩ := sup_of c.sup (all_at hC 10)
  have S_E : SupFn eP K "__init__" "Empty.__init__" sEmptyI (cE K) (He.ma K (cE K) "__init__") (PySem.W.ksFn "__init__" "Empty.__init__" (defArgs sEmptyI) (defBody sEmptyI) (defScope sEmptyI) .none kV doc pm an (.ref cda) ct cc) :=
    ⟨⟨oc, od, osl, .none, kV, doc, pm, an, cda, ct, cc, ccl, cdd, vs, ccs, file, tf, cl, cld, csl, rfl, lkE, cdE, lkC, vsF, flE, lkD⟩, Option.isSome_iff_exists.mp (all_at hC 11)⟩
  have ok_E : FnOk eP w K mg base CX0 4 (He.ma K (cE K) "__init__") _ ["self", "one", "other"] (spEmptyI K) := ok_emptyI S_E T TP hP (ok_paperI F_paperI T c_fixT) (of_decide_eq_true (all_at hC 8)) (all_at hC 9) (He.eqO_ok (all_at hC 7))
  have B_E : Binds K (PySem.W.ksFn "__init__" "Empty.__init__" (defArgs sEmptyI) (defBody sEmptyI) (defScope sEmptyI) .none kV doc pm an (.ref cda) ct cc) ["self", "one", "other"] [] := .all fun us hl => match us, hl with | [_, _, _], _ => rfl
  have KB_E : KBn K (PySem.W.ksFn "__init__" "Empty.__init__" (defArgs sEmptyI) (defBody sEmptyI) (defScope sEmptyI) .none kV doc pm an (.ref cda) ct cc) ["self", "one", "other"] 1 ["other", "one"] (fun us ws => us ++ ws.reverse) (fun vs zs => vs ++ zs.reverse) :=
    ⟨fun s us ws _ h1 h2 => match us, h1, ws, h2 with | [_], _, [_, _], _ => .of_eq rfl, fun r1 r2 => r1.append r2.reverse⟩
  have c_empty : CalC eP w K mg base CX0 4 (cE K) "Empty" ["self", "one", "other"] (spEmptyI K) := ⟨⟨_, _, ok_E, He.mkr_ok (c.d.fact 61 (f := .mkr "Empty") rfl), T.mE, B_E⟩⟩
  have c_emptyK : CalKE eP w K mg base := ⟨⟨_, _, ok_E, He.mkr_ok (c.d.fact 61 (f := .mkr "Empty") rfl), T.mE, KB_E⟩⟩
  obtain ⟨fd_tog, F_tog'⟩ := c.d.def_ 37 (d := mD "Book" "together" "Book.together" sBookT []) rfl
  have F_tog : FD K "together" "Book.together" sBookT (He.ma K (He.ga K "Book") "together") fd_tog := F_tog'
  have B_tog : Binds K fd_tog ["self"] [] := FunD.bindsN (ps := ["self"]) F_tog fun _ _ _ _ _ _ us hl => match us, hl with | [_], _ => rfl
  have c_tog : CalM eP w K mg base CX0 7 (cB K) "together" ["self"] (spTog K) := ⟨⟨_, _, ok_bookT F_tog T c_emptyPair c_drawn c_bookI, He.meth_ok (c.d.fact 79 (f := .meth "Book" "together") rfl), B_tog⟩⟩
  have iI := (He.meth_ok (c.d.fact 83 (f := .meth "Impossible" "__init__") rfl)).at_
  have c_togX : CalM eP w K mg base (L2.CX eP w) 6 (cB K) "together" ["self"] (spTogX K) := ⟨⟨_, _, ok_bookTX (f1 := 0) (fE := 0) F_tog T TP c_emptyPair c_empty iI (of_decide_eq_true (all_at hC 12)) (ok_impI F_impI TP) B_impI, He.meth_ok (c.d.fact 79 (f := .meth "Book" "together") rfl), B_tog⟩⟩
  obtain ⟨fd_pen, F_pen'⟩ := c.d.def_ 13 (d := gD "_law_pen" sPen) rfl
  have F_pen : FN K "_law_pen" sPen (He.ga K "_law_pen") fd_pen := F_pen'
  have B_pen : Binds K fd_pen ["_law_script"] [] := FunD.bindsN (ps := ["_law_script"]) F_pen fun _ _ _ _ _ _ us hl => match us, hl with | [_], _ => rfl
  have c_pen : Cal eP w K mg base CX0 1 "_law_pen" ["_law_script"] (spPen K) := ⟨⟨_, _, ok_pen F_pen T, (He.glo_ok X G (c.d.fact 13 (f := .glo "_law_pen") rfl)), F_pen.kp, B_pen⟩⟩
  obtain ⟨fd_draw, F_draw'⟩ := c.d.def_ 14 (d := gD "_law_draw" sDraw) rfl
  have F_draw : FN K "_law_draw" sDraw (He.ga K "_law_draw") fd_draw := F_draw'
  have B_draw : Binds K fd_draw ["_law_pen_here", "_law_many"] [] := FunD.bindsN (ps := ["_law_pen_here", "_law_many"]) F_draw fun _ _ _ _ _ _ us hl => match us, hl with | [_, _], _ => rfl
  have c_draw : Cal eP w K mg base CX0 1 "_law_draw" ["_law_pen_here", "_law_many"] spDrawL := ⟨⟨_, _, ok_draw F_draw T, (He.glo_ok X G (c.d.fact 14 (f := .glo "_law_draw") rfl)), F_draw.kp, B_draw⟩⟩
  obtain ⟨fd_of, F_of'⟩ := c.d.def_ 15 (d := gD "_law_of" sOf) rfl
  have F_of : FN K "_law_of" sOf (He.ga K "_law_of") fd_of := F_of'
  have B_of : Binds K fd_of ["_law_pen_here", "_law_some"] [] := FunD.bindsN (ps := ["_law_pen_here", "_law_some"]) F_of fun _ _ _ _ _ _ us hl => match us, hl with | [_, _], _ => rfl
  have c_of : Cal eP w K mg base CX0 2 "_law_of" ["_law_pen_here", "_law_some"] spOf := ⟨⟨_, _, ok_of F_of T c_draw, (He.glo_ok X G (c.d.fact 15 (f := .glo "_law_of") rfl)), F_of.kp, B_of⟩⟩
  obtain ⟨fd_number, F_number'⟩ := c.d.def_ 16 (d := gD "_law_number" sNumber) rfl
  have F_number : FN K "_law_number" sNumber (He.ga K "_law_number") fd_number := F_number'
  have B_number : Binds K fd_number ["_law_pen_here"] [] := FunD.bindsN (ps := ["_law_pen_here"]) F_number fun _ _ _ _ _ _ us hl => match us, hl with | [_], _ => rfl
  have c_number : Cal eP w K mg base CX0 2 "_law_number" ["_law_pen_here"] spNumber := ⟨⟨_, _, ok_number F_number c_draw, (He.glo_ok X G (c.d.fact 16 (f := .glo "_law_number") rfl)), F_number.kp, B_number⟩⟩
  obtain ⟨fd_ruleD, F_ruleD'⟩ := c.d.def_ 17 (d := gD "_law_rule" sRuleD) rfl
  have F_ruleD : FN K "_law_rule" sRuleD (He.ga K "_law_rule") fd_ruleD := F_ruleD'
  have B_ruleD : Binds K fd_ruleD ["_law_pen_here", "_law_lengths"] [] := FunD.bindsN (ps := ["_law_pen_here", "_law_lengths"]) F_ruleD fun _ _ _ _ _ _ us hl => match us, hl with | [_, _], _ => rfl
  have c_ruleD : Cal eP w K mg base CX0 3 "_law_rule" ["_law_pen_here", "_law_lengths"] spRuleD := ⟨⟨_, _, ok_ruleD F_ruleD c_draw c_of c_number, (He.glo_ok X G (c.d.fact 17 (f := .glo "_law_rule") rfl)), F_ruleD.kp, B_ruleD⟩⟩
  obtain ⟨fd_made, F_made'⟩ := c.d.def_ 18 (d := gD "_law_made" sMade) rfl
  have F_made : FN K "_law_made" sMade (He.ga K "_law_made") fd_made := F_made'
  have B_made : Binds K fd_made ["_law_rules"] [] := FunD.bindsN (ps := ["_law_rules"]) F_made fun _ _ _ _ _ _ us hl => match us, hl with | [_], _ => rfl
  have c_made : Cal eP w K mg base CX0 6 "_law_made" ["_law_rules"] (spMade K) := ⟨⟨_, _, ok_made F_made T c_ruleI, (He.glo_ok X G (c.d.fact 18 (f := .glo "_law_made") rfl)), F_made.kp, B_made⟩⟩
  obtain ⟨fd_plain, F_plain'⟩ := c.d.def_ 19 (d := gD "_law_plain" sPlain) rfl
  have F_plain : FN K "_law_plain" sPlain (He.ga K "_law_plain") fd_plain := F_plain'
  have B_plain : Binds K fd_plain ["_law_book"] [] := FunD.bindsN (ps := ["_law_book"]) F_plain fun _ _ _ _ _ _ us hl => match us, hl with | [_], _ => rfl
  have c_plain : Cal eP w K mg base CX0 1 "_law_plain" ["_law_book"] (spPlain K) := ⟨⟨_, _, ok_plain F_plain T, (He.glo_ok X G (c.d.fact 19 (f := .glo "_law_plain") rfl)), F_plain.kp, B_plain⟩⟩
  obtain ⟨fd_pair, F_pair'⟩ := c.d.def_ 20 (d := gD "_law_pair" sPair) rfl
  have F_pair : FN K "_law_pair" sPair (He.ga K "_law_pair") fd_pair := F_pair'
  have B_pair : Binds K fd_pair ["_law_days", "_law_rules"] [] := FunD.bindsN (ps := ["_law_days", "_law_rules"]) F_pair fun _ _ _ _ _ _ us hl => match us, hl with | [_, _], _ => rfl
  have c_pair : Cal eP w K mg base CX0 1 "_law_pair" ["_law_days", "_law_rules"] spPairL := ⟨⟨_, _, ok_pair F_pair T, (He.glo_ok X G (c.d.fact 20 (f := .glo "_law_pair") rfl)), F_pair.kp, B_pair⟩⟩
  obtain ⟨fd_due, F_due'⟩ := c.d.def_ 21 (d := gD "_law_due" sDue) rfl
  have F_due : FN K "_law_due" sDue (He.ga K "_law_due") fd_due := F_due'
  have B_due : Binds K fd_due ["_law_days", "_law_rules"] [] := FunD.bindsN (ps := ["_law_days", "_law_rules"]) F_due fun _ _ _ _ _ _ us hl => match us, hl with | [_, _], _ => rfl
  have c_due : Cal eP w K mg base CX0 1 "_law_due" ["_law_days", "_law_rules"] spDue := ⟨⟨_, _, ok_due F_due T, (He.glo_ok X G (c.d.fact 21 (f := .glo "_law_due") rfl)), F_due.kp, B_due⟩⟩
  obtain ⟨fd_rows, F_rows'⟩ := c.d.def_ 22 (d := gD "_law_rows" sRows) rfl
  have F_rows : FN K "_law_rows" sRows (He.ga K "_law_rows") fd_rows := F_rows'
  have B_rows : Binds K fd_rows ["_law_days"] [] := FunD.bindsN (ps := ["_law_days"]) F_rows fun _ _ _ _ _ _ us hl => match us, hl with | [_], _ => rfl
  have c_rows : Cal eP w K mg base CX0 1 "_law_rows" ["_law_days"] spRows := ⟨⟨_, _, ok_rows F_rows T, (He.glo_ok X G (c.d.fact 22 (f := .glo "_law_rows") rfl)), F_rows.kp, B_rows⟩⟩
  obtain ⟨fd_keeps, F_keeps'⟩ := c.d.def_ 23 (d := gD "_law_keeps" sKeeps) rfl
  have F_keeps : FN K "_law_keeps" sKeeps (He.ga K "_law_keeps") fd_keeps := F_keeps'
  have B_keeps : Binds K fd_keeps ["_law_gains", "_law_rules"] [] := FunD.bindsN (ps := ["_law_gains", "_law_rules"]) F_keeps fun _ _ _ _ _ _ us hl => match us, hl with | [_, _], _ => rfl
  have c_keeps : Cal eP w K mg base CX0 1 "_law_keeps" ["_law_gains", "_law_rules"] spKeepsL := ⟨⟨_, _, ok_keeps F_keeps T, (He.glo_ok X G (c.d.fact 23 (f := .glo "_law_keeps") rfl)), F_keeps.kp, B_keeps⟩⟩
  obtain ⟨fd_heard, F_heard'⟩ := c.d.def_ 24 (d := gD "_law_heard" sHeard) rfl
  have F_heard : FN K "_law_heard" sHeard (He.ga K "_law_heard") fd_heard := F_heard'
  have B_heard : Binds K fd_heard ["_law_ask"] [] := FunD.bindsN (ps := ["_law_ask"]) F_heard fun _ _ _ _ _ _ us hl => match us, hl with | [_], _ => rfl
  refine ⟨{ T := T, TP := TP, TH := TH, bookI := c_bookI, rowI := c_rowI, emptyK := c_emptyK, made := c_made, pair := c_pair, due := c_due, plain := c_plain, keeps := c_keeps, tog := c_tog, togX := c_togX, bkeeps := c_bookK, beq := c_bookE, neB := He.eqO_ok (all_at hC 5), eeq := c_eeq, neE := He.eqO_ok (all_at hC 6), ebool := c_ebool, heard := ⟨_, _, F_heard, (He.glo_ok X G (c.d.fact 24 (f := .glo "_law_heard") rfl)), B_heard⟩ }, fun TL cr => { T := T, pen := c_pen, draw := c_draw, of := c_of, rule := c_ruleD, rows := c_rows, right := cr }⟩
end
end K15

/-! K15H4: the end. -/
namespace K15
open PySem PySem.Spec PyProof.Rows L2
abbrev l15 : PySem.W.OpenLaw := PySem.Challenge.rw_anyseven_k15_whole_rules_of_one_length_t
theorem law_at (w : World) {K : PySem.W.Frag} {h : Heap} {mg : Str → Option Value} {f : Addr} (X : K.In h) (G : h.Ns mainGlobals mg) (hfa : mg ("law" : Str) = some (.ref f)) (c : Says h K) (hP : (eP.main.scope.names.lookup ("super" : Str)).isSome = false) :
    LamX.LawAtS l15 w K L2.CX0 10 63 "_law_script" mg f h := by
  obtain ⟨fdL, F_law'⟩ := c.d.def_ 26 (d := gD "law" sLaw) rfl
  have F_law : FN K "law" sLaw (He.ga K "law") fdL := F_law'
  obtain ⟨fdR, F_right'⟩ := c.d.def_ 25 (d := gD "_law_together_right" sRight) rfl
  have F_right : FN K "_law_together_right" sRight (He.ga K "_law_together_right") fdR := F_right'
  have B_right : Binds K fdR ["_law_days", "_law_rules", "_law_rows_here"] [] := FunD.bindsN (ps := ["_law_days", "_law_rules", "_law_rows_here"]) F_right fun _ _ _ _ _ _ us hl => match us, hl with | [_, _, _], _ => rfl
  have bL := FunD.bindsA (ps := ["_law_script"]) F_law fun _ _ _ _ _ _ us hl => match us, hl with | [_], _ => rfl
  have e := hfa.symm.trans (He.glo_ok X G (c.d.fact 26 (f := .glo "law") rfl))
  cases e
  refine ⟨fdL, [He.cT K pT], spLaw K [((He.cT K pT).2, qLam)], fun p hp => ?_, fun p hp => ?_, fun p hp => ?_, fun s u => bL s [u] rfl, fun H a ns hl _ hT hS => ?_, fun base Xb Gb TB => ?_⟩
  · rw [List.mem_singleton.mp hp]
    exact c.empty
  · rw [List.mem_singleton.mp hp]
    exact c.out
  · rw [List.mem_singleton.mp hp]
    exact PySem.W.codeHd_of_K X c.hd
  · refine ⟨a, ns, rfl, hS, Nat.le_trans hl (by decide), fun p hp => ?_, fun _ => rfl⟩
    rw [List.mem_singleton.mp hp]
    exact LamX.TabS.nil (hT _ List.mem_cons_self)
  · obtain ⟨CR, CL⟩ := ctx_of (w := w) (base := base) c X G hP
    refine ok_law F_law (CL _ ⟨⟨_, _, ok_right (fdc_of (p := pT) F_right rfl) CR (TB _ List.mem_cons_self), He.glo_ok X G (c.d.fact 25 (f := .glo "_law_together_right") rfl), F_right.kp, B_right⟩⟩)
end K15
open PySem PySem.W PySem.Calls PyProof.Rows
theorem PySem.Challenge.cw_anyseven_k15_whole_rules_of_one_length_t_holds : PySem.Challenge.rw_anyseven_k15_whole_rules_of_one_length_t.Holds := by
  w_on; o_law
  refine HandSHeadRun.head_any (r := K15.R15) (q := K15.qv15) (H := K15.hook15) (ob := K15.ob15) (M := 20000) (loose := K15.names15) (d := HandSHeadRun.topDef K15.R15.prog 72) (kwd := []) K15.ob15_eq
    (by kernel_rfl) (fun s => by kernel_rfl) K15.run15 (by kernel_rfl) (by kernel_rfl) (by kernel_rfl) (by rfl) (by first | assumption | decide +kernel) (by decide +kernel) ⟨rfl, rfl, rfl, rfl, rfl, by decide +kernel⟩ ?hw ?hc
  case hw => w_witness2
  case hc =>
    refine LamX.walk_ofTsE (l := PySem.Challenge.rw_anyseven_k15_whole_rules_of_one_length_t) (n := 63) (k := 10) (x := "_law_script") (CX := fun _ => L2.CX0) rfl (by decide) (by kernel_rfl) ⟨rfl, by decide, by decide⟩ ?F (fun _ _ _ _ _ z => z)
    intro w mg fa h Y G hmg0
    obtain ⟨K, KX, c⟩ := Y
    have hmg : mg ("law" : PySem.Str) = some (.ref fa) := by
      have e : (HandSHeadRun.topDef K15.R15.prog 72).name = ("law" : PySem.Str) := by kernel_rfl
      rw [← e]
      exact hmg0
    exact ⟨K, KX, K15.law_at w KX G hmg c (by decide +kernel)⟩
