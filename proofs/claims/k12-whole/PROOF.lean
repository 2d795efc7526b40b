import PyProof.Rows.All
import Wide.All
import OpenK.AllK
import Wide.FinOn
import HandS.ForMost
import HandS.IsInst
import HandS.Strs
import HandS.SetFor
import KE.KIndexOf
import KE.DatumOrd
import KE.GoesEnum
import PyProof.Rows.TupDisplay
import PyProof.Claim2Refuses
import PySem.Challenge.RW_latestword_k12_whole_begins_and_goes_on
import HandS.DictComp
import HandS.TupAny
import HandS.TupLe
import HandS.Conv
import HandS.ListItems
import HandS.Walk
set_option Elab.async false
set_option linter.all false
set_option maxRecDepth 100000
set_option maxHeartbeats 4000000
/-! Rows up to exchange, in plain Lean. m a b: the works a and b meet. -/
namespace LW
section
variable (m : Int → Int → Bool)

/-- the row without the first w, if w can come first -/
def take1 : List Int → Int → Option (List Int)
  | [], _ => none
  | x :: r, w => if x = w then some r else if m x w = true then none else (take1 r w).map (x :: ·)
/-- the place of a w that can come first -/
def freeAt : List Int → Int → Option Nat
  | [], _ => none
  | x :: r, w => if x = w then some 0 else if m x w = true then none else (freeAt r w).map (· + 1)
/-- what is left of other behind row -/
def left : List Int → List Int → Option (List Int)
  | [], o => some o
  | w :: r, o => (take1 m o w).bind (left r)
/-- least item of a list -/
def minOf : List Int → Option Int
  | [] => none
  | x :: r => match minOf r with
    | none => some x
    | some y => if y < x then some y else some x
/-- the works that can come first -/
def firsts (row : List Int) : List Int := row.filter fun w => (freeAt m row w).isSome
def leastN : Nat → List Int → List Int
  | 0, _ => []
  | n + 1, row => match minOf (firsts m row) with
    | none => []
    | some w => w :: leastN n (row.erase w)
def least (row : List Int) : List Int := leastN m row.length row

inductive Sw : List Int → List Int → Prop
  | here (a b : Int) (y : List Int) : m a b = false → Sw (a :: b :: y) (b :: a :: y)
  | cons (a : Int) {u v : List Int} : Sw u v → Sw (a :: u) (a :: v)
inductive Al : List Int → List Int → Prop
  | refl (u : List Int) : Al u u
  | step {u v w : List Int} : Al u v → Sw m v w → Al u w
end
variable {m : Int → Int → Bool}

theorem Al.trans {u v w : List Int} (a : Al m u v) (b : Al m v w) : Al m u w := by
  induction b with
  | refl => exact a
  | step _ s ih => exact .step ih s
theorem Sw.symm (hs : ∀ a b, m a b = m b a) {u v : List Int} (s : Sw m u v) : Sw m v u := by
  induction s with
  | here a b y h => exact .here b a y (by rw [hs]; exact h)
  | cons a _ ih => exact .cons a ih
theorem Al.symm (hs : ∀ a b, m a b = m b a) {u v : List Int} (a : Al m u v) : Al m v u := by
  induction a with
  | refl => exact .refl _
  | step _ s ih => exact (Al.step (.refl _) (s.symm hs)).trans ih
theorem Al.one {u v : List Int} (s : Sw m u v) : Al m u v := .step (.refl _) s
theorem Al.cons (x : Int) {u v : List Int} (a : Al m u v) : Al m (x :: u) (x :: v) := by
  induction a with
  | refl => exact .refl _
  | step _ s ih => exact .step ih (.cons x s)
theorem Sw.app (z : List Int) {u v : List Int} (s : Sw m u v) : Sw m (u ++ z) (v ++ z) := by
  induction s with
  | here a b y h => exact .here a b (y ++ z) h
  | cons a _ ih => exact .cons a ih
theorem Al.app (z : List Int) {u v : List Int} (a : Al m u v) : Al m (u ++ z) (v ++ z) := by
  induction a with
  | refl => exact .refl _
  | step _ s ih => exact .step ih (s.app z)
theorem Al.pre (z : List Int) {u v : List Int} (a : Al m u v) : Al m (z ++ u) (z ++ v) := by
  induction z with
  | nil => exact a
  | cons x r ih => exact .cons x ih
theorem Sw.perm {u v : List Int} (s : Sw m u v) : u.Perm v := by
  induction s with
  | here a b y h => exact .swap b a y
  | cons a _ ih => exact .cons a ih
theorem Al.perm {u v : List Int} (a : Al m u v) : u.Perm v := by
  induction a with
  | refl => exact .refl _
  | step _ s ih => exact ih.trans s.perm
theorem Al.length {u v : List Int} (a : Al m u v) : u.length = v.length := a.perm.length_eq

/-! ### taking one away -/
theorem take1_al (hs : ∀ a b, m a b = m b a) : ∀ {row : List Int} {w : Int} {r : List Int}, take1 m row w = some r → Al m row (w :: r)
  | [], _, _, h => by cases h
  | x :: q, w, r, h => by
    unfold take1 at h
    split at h
    · rename_i e
      cases h
      rw [e]
      exact .refl _
    · split at h
      · cases h
      · rename_i hm
        cases e : take1 m q w with
        | none => rw [e] at h; cases h
        | some t =>
          rw [e] at h
          cases h
          have ih := take1_al hs e
          refine (ih.cons x).trans (.one (.here x w t ?_))
          cases hx : m x w with
          | true => exact absurd hx hm
          | false => rfl
theorem take1_sw (hr : ∀ a, m a a = true) (hs : ∀ a b, m a b = m b a) {u v : List Int} (s : Sw m u v) : ∀ {w : Int} {r : List Int}, take1 m u w = some r → ∃ r', take1 m v w = some r' ∧ Al m r r' := by
  induction s with
  | here a b y h =>
    intro w r e
    have nab : a ≠ b := fun z => by rw [z, hr] at h; cases h
    have hba : m b a = false := by rw [hs]; exact h
    unfold take1 at e
    by_cases e1 : a = w
    · rw [if_pos e1] at e
      cases e
      have e2 : b ≠ w := fun z => nab (e1.trans z.symm)
      refine ⟨b :: y, ?_, .refl _⟩
      unfold take1
      rw [if_neg e2, if_neg (by rw [← e1, hba]; exact Bool.false_ne_true)]
      unfold take1
      rw [if_pos e1]
      rfl
    · rw [if_neg e1] at e
      by_cases e3 : m a w = true
      · rw [if_pos e3] at e; cases e
      · rw [if_neg e3] at e
        unfold take1 at e
        by_cases e2 : b = w
        · rw [if_pos e2] at e
          cases e
          refine ⟨a :: y, ?_, .refl _⟩
          unfold take1
          rw [if_pos e2]
        · rw [if_neg e2] at e
          by_cases e4 : m b w = true
          · rw [if_pos e4] at e; cases e
          · rw [if_neg e4] at e
            cases e5 : take1 m y w with
            | none => rw [e5] at e; cases e
            | some t =>
              rw [e5] at e
              cases e
              refine ⟨b :: a :: t, ?_, .one (.here a b t h)⟩
              unfold take1
              rw [if_neg e2, if_neg e4]
              unfold take1
              rw [if_neg e1, if_neg e3, e5]
              rfl
  | cons a s ih =>
    intro w r e
    unfold take1 at e
    by_cases e1 : a = w
    · rw [if_pos e1] at e
      cases e
      refine ⟨_, ?_, .one s⟩
      unfold take1
      rw [if_pos e1]
    · rw [if_neg e1] at e
      by_cases e3 : m a w = true
      · rw [if_pos e3] at e; cases e
      · rw [if_neg e3] at e
        rename_i u v
        cases e5 : take1 m u w with
        | none => rw [e5] at e; cases e
        | some t =>
          rw [e5] at e
          cases e
          obtain ⟨t', e6, a6⟩ := ih e5
          refine ⟨a :: t', ?_, a6.cons a⟩
          unfold take1
          rw [if_neg e1, if_neg e3, e6]
          rfl
theorem take1_inv (hr : ∀ a, m a a = true) (hs : ∀ a b, m a b = m b a) {u v : List Int} (a : Al m u v) : ∀ {w : Int} {r : List Int}, take1 m u w = some r → ∃ r', take1 m v w = some r' ∧ Al m r r' := by
  induction a with
  | refl => intro w r h; exact ⟨r, h, .refl _⟩
  | step _ s ih =>
    intro w r h
    obtain ⟨r1, h1, a1⟩ := ih h
    obtain ⟨r2, h2, a2⟩ := take1_sw hr hs s h1
    exact ⟨r2, h2, a1.trans a2⟩
theorem take1_head (w : Int) (r : List Int) : take1 m (w :: r) w = some r := by
  unfold take1
  rw [if_pos rfl]
theorem take1_isSome (hr : ∀ a, m a a = true) (hs : ∀ a b, m a b = m b a) {u v : List Int} (a : Al m u v) (w : Int) : (take1 m u w).isSome = (take1 m v w).isSome := by
  cases e : take1 m u w with
  | some r =>
    obtain ⟨r', h, _⟩ := take1_inv hr hs a e
    rw [h]; rfl
  | none =>
    cases e2 : take1 m v w with
    | none => rfl
    | some r =>
      obtain ⟨r', h, _⟩ := take1_inv hr hs (a.symm hs) e2
      rw [h] at e
      cases e

/-! ### a row taken away -/
theorem left_al (hs : ∀ a b, m a b = m b a) : ∀ {row o r : List Int}, left m row o = some r → Al m o (row ++ r)
  | [], o, r, h => by cases h; exact .refl _
  | w :: q, o, r, h => by
    unfold left at h
    cases e : take1 m o w with
    | none => rw [e] at h; cases h
    | some t =>
      rw [e] at h
      exact (take1_al hs e).trans ((left_al hs (show left m q t = some r from h)).cons w)
theorem left_of (hr : ∀ a, m a a = true) (hs : ∀ a b, m a b = m b a) : ∀ {row s o : List Int}, Al m (row ++ s) o → ∃ r, left m row o = some r ∧ Al m s r
  | [], s, o, h => ⟨o, rfl, h⟩
  | w :: q, s, o, h => by
    obtain ⟨t, e, a⟩ := take1_inv hr hs h (take1_head w (q ++ s))
    obtain ⟨r, e2, a2⟩ := left_of hr hs a
    refine ⟨r, ?_, a2⟩
    unfold left
    rw [e]
    exact e2

/-! ### places -/
theorem freeAt_take1 : ∀ {row : List Int} {w : Int}, (∀ k, freeAt m row w = some k → k < row.length ∧ row[k]? = some w ∧ take1 m row w = some (row.eraseIdx k) ∧ row.eraseIdx k = row.erase w ∧ (∀ j, j < k → row[j]? ≠ some w) ∧ row.take k ++ row.drop (k + 1) = row.eraseIdx k)
      ∧ (freeAt m row w = none → take1 m row w = none)
  | [], w => ⟨fun k h => (nomatch h), fun _ => rfl⟩
  | x :: r, w => by
    obtain ⟨ih1, ih2⟩ := freeAt_take1 (row := r) (w := w)
    unfold freeAt take1
    by_cases e : x = w
    · rw [if_pos e, if_pos e]
      refine ⟨fun k h => ?_, fun h => nomatch h⟩
      cases h
      refine ⟨Nat.zero_lt_succ _, by rw [e]; rfl, rfl, ?_, fun j hj => absurd hj (Nat.not_lt_zero _), rfl⟩
      rw [e, List.erase_cons_head]
      rfl
    · rw [if_neg e, if_neg e]
      by_cases hm : m x w = true
      · rw [if_pos hm, if_pos hm]
        exact ⟨fun k h => (nomatch h), fun _ => rfl⟩
      · rw [if_neg hm, if_neg hm]
        refine ⟨fun k h => ?_, fun h => ?_⟩
        · clear ih2
          cases e2 : freeAt m r w with
          | none => rw [e2] at h; cases h
          | some j =>
            rw [e2] at h
            obtain rfl : j + 1 = k := Option.some.inj h
            obtain ⟨a1, a2, a3, a4, a5, a6⟩ := ih1 j e2
            refine ⟨by simpa using a1, by simpa using a2, by rw [a3]; rfl, ?_, fun i hi => ?_, ?_⟩
            · rw [List.erase_cons_tail (by simpa using e)]
              show x :: r.eraseIdx j = _
              rw [a4]
            · cases i with
              | zero => simpa using e
              | succ i => simpa using a5 i (by omega)
            · show x :: (r.take j ++ r.drop (j + 1)) = x :: r.eraseIdx j
              rw [a6]
        · cases e2 : freeAt m r w with
          | none => rw [ih2 e2]; rfl
          | some j => rw [e2] at h; cases h
theorem freeAt_isSome {row : List Int} {w : Int} : (freeAt m row w).isSome = (take1 m row w).isSome := by
  cases e : freeAt m row w with
  | none => rw [(freeAt_take1 (m := m)).2 e]; rfl
  | some k => rw [((freeAt_take1 (m := m)).1 k e).2.2.1]; rfl

/-! ### least rows -/
theorem minOf_mem : ∀ {l : List Int} {x : Int}, minOf l = some x → x ∈ l
  | [], _, h => nomatch h
  | y :: r, x, h => by
    unfold minOf at h
    cases e : minOf r with
    | none =>
      rw [e] at h
      cases h
      exact List.mem_cons_self
    | some z =>
      rw [e] at h
      simp only at h
      split at h
      · cases h
        exact List.mem_cons_of_mem _ (minOf_mem e)
      · cases h
        exact List.mem_cons_self
theorem minOf_none {l : List Int} (h : minOf l = none) : l = [] := by
  cases l with
  | nil => rfl
  | cons y r =>
    unfold minOf at h
    split at h
    · cases h
    · split at h <;> cases h
theorem minOf_le : ∀ {l : List Int} {x : Int}, minOf l = some x → ∀ y ∈ l, x ≤ y
  | [], _, h => nomatch h
  | y :: r, x, h => by
    intro z hz
    unfold minOf at h
    cases e : minOf r with
    | none =>
      rw [e] at h
      cases h
      rw [minOf_none e] at hz
      rw [List.mem_singleton.mp hz]
      exact Int.le_refl _
    | some q =>
      rw [e] at h
      simp only at h
      have ih := minOf_le e
      rcases List.mem_cons.mp hz with e2 | hz
      · split at h
        · cases h; omega
        · cases h; omega
      · have := ih z hz
        split at h
        · cases h; exact this
        · cases h; omega
theorem minOf_eq {l : List Int} {x : Int} (hm : x ∈ l) (hl : ∀ y ∈ l, x ≤ y) : minOf l = some x := by
  cases e : minOf l with
  | none => rw [minOf_none e] at hm; cases hm
  | some y =>
    have h1 := minOf_le e x hm
    have h2 := hl y (minOf_mem e)
    rw [show y = x by omega]
theorem mem_firsts {row : List Int} {w : Int} : w ∈ firsts m row ↔ (take1 m row w).isSome = true := by
  unfold firsts
  rw [List.mem_filter, freeAt_isSome]
  refine ⟨fun h => h.2, fun h => ⟨?_, h⟩⟩
  rw [← freeAt_isSome] at h
  cases e : freeAt m row w with
  | none => rw [e] at h; cases h
  | some k => exact List.mem_of_getElem? ((freeAt_take1 (m := m)).1 k e).2.1
theorem minFirst_inv (hr : ∀ a, m a a = true) (hs : ∀ a b, m a b = m b a) {u v : List Int} (a : Al m u v) : minOf (firsts m u) = minOf (firsts m v) := by
  have hi : ∀ w, w ∈ firsts m u ↔ w ∈ firsts m v := fun w => by rw [mem_firsts, mem_firsts, take1_isSome hr hs a]
  cases e : minOf (firsts m v) with
  | none =>
    have e2 := minOf_none e
    cases e3 : minOf (firsts m u) with
    | none => rfl
    | some w =>
      have := (hi w).mp (minOf_mem e3)
      rw [e2] at this
      cases this
  | some w => exact minOf_eq ((hi w).mpr (minOf_mem e)) fun y hy => minOf_le e y ((hi y).mp hy)
theorem take1_erase {row : List Int} {w : Int} (h : w ∈ firsts m row) : take1 m row w = some (row.erase w) := by
  have h := mem_firsts.mp h
  rw [← freeAt_isSome] at h
  cases e : freeAt m row w with
  | none => rw [e] at h; cases h
  | some k =>
    obtain ⟨_, _, a, b, _⟩ := (freeAt_take1 (m := m)).1 k e
    rw [a, b]
theorem leastN_inv (hr : ∀ a, m a a = true) (hs : ∀ a b, m a b = m b a) : ∀ (n : Nat) {u v : List Int}, Al m u v → leastN m n u = leastN m n v
  | 0, _, _, _ => rfl
  | n + 1, u, v, a => by
    unfold leastN
    rw [minFirst_inv hr hs a]
    cases e : minOf (firsts m v) with
    | none => rfl
    | some w =>
      have hv := take1_erase (minOf_mem e)
      have hu := take1_erase (minOf_mem ((minFirst_inv hr hs a).trans e))
      obtain ⟨r, h1, h2⟩ := take1_inv hr hs a hu
      rw [hv] at h1
      cases h1
      show w :: leastN m n (u.erase w) = w :: leastN m n (v.erase w)
      rw [leastN_inv hr hs n h2]
theorem least_inv (hr : ∀ a, m a a = true) (hs : ∀ a b, m a b = m b a) {u v : List Int} (a : Al m u v) : least m u = least m v := by
  unfold least
  rw [a.length]
  exact leastN_inv hr hs _ a
theorem firsts_ne {x : Int} {r : List Int} : ∃ w, minOf (firsts m (x :: r)) = some w := by
  cases e : minOf (firsts m (x :: r)) with
  | some w => exact ⟨w, rfl⟩
  | none =>
    have : x ∈ firsts m (x :: r) := mem_firsts.mpr (by rw [take1_head]; rfl)
    rw [minOf_none e] at this
    cases this
theorem leastN_al (hs : ∀ a b, m a b = m b a) : ∀ (n : Nat) {u : List Int}, u.length = n → Al m u (leastN m n u)
  | 0, u, h => by
    rw [List.length_eq_zero_iff.mp h]
    exact .refl _
  | n + 1, u, h => by
    cases u with
    | nil => cases h
    | cons x r =>
      obtain ⟨w, e⟩ := firsts_ne (m := m) (x := x) (r := r)
      unfold leastN
      rw [e]
      have ht := take1_erase (minOf_mem e)
      have a := take1_al hs ht
      have hl : ((x :: r).erase w).length = n := by
        have := a.length
        rw [List.length_cons (a := w)] at this
        omega
      exact a.trans ((leastN_al hs n hl).cons w)
theorem least_al (hs : ∀ a b, m a b = m b a) (u : List Int) : Al m u (least m u) := leastN_al hs _ rfl
/-- u is v, or comes ahead of it in the order of tuples -/
def leL : List Int → List Int → Prop
  | [], _ => True
  | _ :: _, [] => False
  | x :: u, y :: v => x < y ∨ (x = y ∧ leL u v)
theorem leastN_le (hr : ∀ a, m a a = true) (hs : ∀ a b, m a b = m b a) : ∀ (n : Nat) {u v : List Int}, u.length = n → Al m u v → leL (leastN m n u) v
  | 0, u, v, h, a => True.intro
  | n + 1, u, v, h, a => by
    cases u with
    | nil => cases h
    | cons x r =>
      obtain ⟨w, e⟩ := firsts_ne (m := m) (x := x) (r := r)
      unfold leastN
      rw [e]
      cases v with
      | nil => have := a.length; cases this
      | cons y t =>
        have hy : y ∈ firsts m (x :: r) := mem_firsts.mpr (by rw [take1_isSome hr hs a, take1_head]; rfl)
        have hle := minOf_le e y hy
        by_cases hlt : w < y
        · exact .inl hlt
        · have ew : w = y := by omega
          refine .inr ⟨ew, ?_⟩
          have ht := take1_erase (minOf_mem e)
          obtain ⟨r', h1, h2⟩ := take1_inv hr hs a ht
          rw [ew, take1_head] at h1
          cases h1
          have hl : ((x :: r).erase w).length = n := by
            have := (take1_al hs ht).length
            rw [List.length_cons (a := w)] at this
            omega
          exact leastN_le hr hs n hl h2
theorem least_le (hr : ∀ a, m a a = true) (hs : ∀ a b, m a b = m b a) {u v : List Int} (a : Al m u v) : leL (least m u) v := leastN_le hr hs _ rfl a
theorem least_nil : least m [] = [] := rfl
theorem leL_antisymm : ∀ {u v : List Int}, leL u v → leL v u → u = v
  | [], [], _, _ => rfl
  | [], _ :: _, _, h => h.elim
  | _ :: _, [], h, _ => h.elim
  | x :: u, y :: v, h1, h2 => by
    rcases h1 with h1 | ⟨e1, h1⟩
    · rcases h2 with h2 | ⟨e2, _⟩ <;> omega
    · rcases h2 with h2 | ⟨_, h2⟩
      · omega
      · rw [e1, leL_antisymm h1 h2]

/-! ### what the law says -/
/-- the due answer -/
def due (m : Int → Int → Bool) (row o : List Int) : Option (List Int) := (left m row o).map (least m)
/-- of all s such that a row alike to row, with s behind it, is alike to o, due is the least one -/
theorem due_some (hr : ∀ a, m a a = true) (hs : ∀ a b, m a b = m b a) {row o d : List Int} (h : due m row o = some d) :
    Al m o (row ++ d) ∧ ∀ s p, Al m row p → Al m o (p ++ s) → leL d s := by
  unfold due at h
  cases e : left m row o with
  | none => rw [e] at h; cases h
  | some r =>
    rw [e] at h
    cases h
    refine ⟨(left_al hs e).trans ((least_al hs r).pre row), fun s p a b => ?_⟩
    obtain ⟨r', e', a'⟩ := left_of hr hs ((a.app s).trans (b.symm hs))
    rw [e] at e'
    cases e'
    exact least_le hr hs (a'.symm hs)
theorem due_none (hr : ∀ a, m a a = true) (hs : ∀ a b, m a b = m b a) {row o : List Int} (h : due m row o = none) : ∀ s p, Al m row p → ¬ Al m o (p ++ s) := fun s p a b => by
  obtain ⟨r', e', a'⟩ := left_of hr hs ((a.app s).trans (b.symm hs))
  unfold due at h
  rw [e'] at h
  cases h
theorem left_pre (hr : ∀ a, m a a = true) (hs : ∀ a b, m a b = m b a) {o far : List Int} (a : Al m o far) (k : Nat) : ∃ r, left m (o.take k) far = some r ∧ Al m (o.drop k) r :=
  left_of hr hs (by rw [List.take_append_drop]; exact a)
theorem due_alike (hr : ∀ a, m a a = true) (hs : ∀ a b, m a b = m b a) {row o d : List Int} (h : due m row o = some d) : least m (row ++ d) = least m o :=
  (least_inv hr hs (due_some hr hs h).1).symm
theorem due_whole (hr : ∀ a, m a a = true) (hs : ∀ a b, m a b = m b a) (o : List Int) : due m o o = some [] := by
  obtain ⟨r, e, a⟩ := left_of hr hs (row := o) (s := []) (o := o) (by rw [List.append_nil]; exact .refl _)
  have : r = [] := List.length_eq_zero_iff.mp (by rw [← a.length]; rfl)
  unfold due
  rw [e, this]
  rfl
theorem due_empty (o : List Int) : due m [] o = some (least m o) := rfl
end LW
/-! Places where a work can come first. -/
namespace LW
variable {m : Int → Int → Bool}
theorem freeAt_iff (hr : ∀ a, m a a = true) : ∀ {ns : List Int} {w : Int} {i : Nat}, freeAt m ns w = some i ↔ ns[i]? = some w ∧ ∀ x ∈ ns.take i, m x w = false
  | [], w, i => by
    constructor
    · intro h; cases h
    · intro h; cases h.1
  | x :: r, w, i => by
    have ih := fun i => freeAt_iff hr (ns := r) (w := w) (i := i)
    unfold freeAt
    by_cases e : x = w
    · rw [if_pos e]
      constructor
      · intro h
        cases h
        exact ⟨by rw [e]; rfl, fun y hy => by simp at hy⟩
      · rintro ⟨h1, h2⟩
        cases i with
        | zero => rfl
        | succ i =>
          have := h2 x (by simp)
          rw [e, hr] at this
          cases this
    · rw [if_neg e]
      by_cases hm : m x w = true
      · rw [if_pos hm]
        constructor
        · intro h; cases h
        · rintro ⟨h1, h2⟩
          cases i with
          | zero => exact absurd (Option.some.inj h1) e
          | succ i =>
            have := h2 x (by simp)
            rw [hm] at this
            cases this
      · rw [if_neg hm]
        cases i with
        | zero =>
          constructor
          · intro h
            cases q : freeAt m r w with
            | none => rw [q] at h; cases h
            | some k => rw [q] at h; cases h
          · rintro ⟨h1, _⟩
            exact absurd (Option.some.inj h1) e
        | succ i =>
          constructor
          · intro h
            cases q : freeAt m r w with
            | none => rw [q] at h; cases h
            | some k =>
              rw [q] at h
              have hk : k + 1 = i + 1 := Option.some.inj h
              obtain rfl : k = i := Nat.succ.inj hk
              obtain ⟨a, b⟩ := (ih k).mp q
              refine ⟨by simpa using a, fun y hy => ?_⟩
              rw [List.take_succ_cons] at hy
              rcases List.mem_cons.mp hy with rfl | hy
              · cases hz : m y w with
                | true => exact absurd hz hm
                | false => rfl
              · exact b y hy
          · rintro ⟨h1, h2⟩
            have q : freeAt m r w = some i := (ih i).mpr ⟨by simpa using h1, fun y hy => h2 y (by rw [List.take_succ_cons]; exact List.mem_cons_of_mem _ hy)⟩
            rw [q]
            rfl
/-- the look back from a place -/
theorem free_here (mm : (∀ a, m a a = true) ∧ ∀ a b, m a b = m b a) {ns : List Int} {w : Int} {i : Nat} (h : ns[i]? = some w) : (!(ns.take i).any fun y => m w y) = true ↔ freeAt m ns w = some i := by
  rw [freeAt_iff mm.1]
  constructor
  · intro q
    refine ⟨h, fun x hx => ?_⟩
    rw [Bool.not_eq_true'] at q
    have := List.any_eq_false.mp q x hx
    rw [mm.2]
    cases hz : m w x with
    | true => exact absurd hz this
    | false => rfl
  · rintro ⟨_, q⟩
    rw [Bool.not_eq_true', List.any_eq_false]
    intro x hx
    rw [mm.2, q x hx]
    exact Bool.false_ne_true
theorem free_lt {ns : List Int} {w : Int} {i : Nat} (h : freeAt m ns w = some i) : i < ns.length ∧ ns[i]? = some w := ⟨((freeAt_take1 (m := m)).1 i h).1, ((freeAt_take1 (m := m)).1 i h).2.1⟩
theorem free_mem {ns : List Int} {w : Int} (h : (freeAt m ns w).isSome = true) : w ∈ ns := by
  cases e : freeAt m ns w with
  | none => rw [e] at h; cases h
  | some k => exact List.mem_of_getElem? (free_lt e).2
/-- the least of an ascending list is its first -/
theorem minOf_sorted {x : Int} {r : List Int} (h : (x :: r).Pairwise (· ≤ ·)) : minOf (x :: r) = some x :=
  minOf_eq List.mem_cons_self fun y hy => by
    rcases List.mem_cons.mp hy with rfl | hy
    · exact Int.le_refl _
    · exact (List.pairwise_cons.mp h).1 y hy
theorem minOf_congr {u v : List Int} (h : ∀ x, x ∈ u ↔ x ∈ v) : minOf u = minOf v := by
  cases e : minOf v with
  | some x => exact minOf_eq ((h x).mpr (minOf_mem e)) fun y hy => minOf_le e y ((h y).mp hy)
  | none =>
    cases e2 : minOf u with
    | none => rfl
    | some x =>
      have := (h x).mp (minOf_mem e2)
      rw [minOf_none e] at this
      cases this
theorem mem_firsts2 {row : List Int} {w : Int} : w ∈ firsts m row ↔ (freeAt m row w).isSome = true := by rw [mem_firsts, freeAt_isSome]
theorem firsts_min {row ws : List Int} (hs : ws.Pairwise (· ≤ ·)) (h : ∀ w, w ∈ ws ↔ (freeAt m row w).isSome = true) : minOf (firsts m row) = ws.head? := by
  rw [minOf_congr (v := ws) fun x => by rw [mem_firsts2, h]]
  cases ws with
  | nil => rfl
  | cons x r => exact minOf_sorted hs
/-- one step of the least row -/
theorem least_step {n : Nat} {cur : List Int} {w : Int} {k : Nat} (hw : minOf (firsts m cur) = some w) (hk : freeAt m cur w = some k) :
    leastN m (n + 1) cur = w :: leastN m n (cur.take k ++ cur.drop (k + 1)) := by
  show (match minOf (firsts m cur) with | none => [] | some w => w :: leastN m n (cur.erase w)) = _
  rw [hw]
  obtain ⟨_, _, _, a, _, b⟩ := (freeAt_take1 (m := m)).1 k hk
  rw [b, a]
end LW
namespace LW
variable {m : Int → Int → Bool}
theorem idx_first : ∀ {cur : List Int} {w : Int}, w ∈ cur → cur[cur.idxOf w]? = some w ∧ ∀ j, j < cur.idxOf w → cur[j]? ≠ some w
  | [], w, h => nomatch h
  | x :: r, w, h => by
    by_cases e : x = w
    · rw [e, List.idxOf_cons_self]
      exact ⟨rfl, fun j hj => absurd hj (Nat.not_lt_zero _)⟩
    · have hr : w ∈ r := by
        rcases List.mem_cons.mp h with q | q
        · exact absurd q.symm e
        · exact q
      obtain ⟨a, b⟩ := idx_first hr
      have e1 : (x :: r).idxOf w = r.idxOf w + 1 := by
        rw [List.idxOf_cons, show (x == w) = false from beq_eq_false_iff_ne.mpr e]
        rfl
      rw [e1]
      refine ⟨by simpa using a, fun j hj q => ?_⟩
      cases j with
      | zero => exact e (Option.some.inj q)
      | succ j => exact b j (by omega) (by simpa using q)
theorem free_idx {cur : List Int} {w : Int} {j : Nat} (h : freeAt m cur w = some j) : j = cur.idxOf w := by
  obtain ⟨_, h1, _, _, h2, _⟩ := (freeAt_take1 (m := m)).1 j h
  obtain ⟨a, b⟩ := idx_first (List.mem_of_getElem? h1)
  rcases Nat.lt_trichotomy j (cur.idxOf w) with lt | eq | gt
  · exact absurd h1 (b j lt)
  · exact eq
  · exact absurd a (h2 _ gt)
theorem left_cons (w : Int) (r o : List Int) : left m (w :: r) o = (take1 m o w).bind (left m r) := rfl
theorem drop_cons {l : List Int} {i : Nat} {x : Int} (h : l[i]? = some x) : l.drop i = x :: l.drop (i + 1) := by
  obtain ⟨h1, h2⟩ := List.getElem?_eq_some_iff.mp h
  rw [← h2]
  exact List.drop_eq_getElem_cons h1
end LW
/-! Rows exchanged: one step by its place, how many rows there are. -/
namespace LW
variable {m : Int → Int → Bool}
def swapAt (u : List Int) (j : Nat) (x y : Int) : List Int := u.take j ++ [y, x] ++ u.drop (j + 2)
theorem sw_at {u v : List Int} (s : Sw m u v) : ∃ j x y, u[j]? = some x ∧ u[j + 1]? = some y ∧ m x y = false ∧ v = swapAt u j x y := by
  induction s with
  | here a b y h => exact ⟨0, a, b, rfl, rfl, h, rfl⟩
  | cons a s ih =>
    obtain ⟨j, x, y, h1, h2, h3, h4⟩ := ih
    refine ⟨j + 1, x, y, by simpa using h1, by simpa using h2, h3, ?_⟩
    rw [h4]
    rfl
theorem at_sw : ∀ {u : List Int} {j : Nat} {x y : Int}, u[j]? = some x → u[j + 1]? = some y → m x y = false → Sw m u (swapAt u j x y)
  | [], j, x, y, h, _, _ => by cases h
  | [a], j, x, y, _, h, _ => by cases h
  | a :: b :: r, 0, x, y, h1, h2, hm => by
    cases h1
    cases h2
    exact .here _ _ _ hm
  | a :: b :: r, j + 1, x, y, h1, h2, hm => .cons a (at_sw (u := b :: r) (j := j) (by simpa using h1) (by simpa using h2) hm)
theorem al_closed {K : List (List Int)} {ns : List Int} (h0 : ns ∈ K) (hc : ∀ k ∈ K, ∀ v, Sw m k v → v ∈ K) : ∀ {ms : List Int}, Al m ns ms → ms ∈ K := by
  intro ms a
  induction a with
  | refl => exact h0
  | step a s ih => exact hc _ ih _ s
/-! how many -/
theorem nodup_le : ∀ (N : Nat) (l : List Nat), l.Nodup → (∀ x ∈ l, x < N) → l.length ≤ N
  | 0, [], _, _ => Nat.le_refl _
  | 0, x :: r, _, h => absurd (h x List.mem_cons_self) (Nat.not_lt_zero _)
  | N + 1, l, nd, h => by
    by_cases hm : N ∈ l
    · have h1 := nodup_le N (l.erase N) (nd.erase N) fun x hx => by
        have h2 := (List.Nodup.mem_erase_iff nd).mp hx
        have := h x h2.2
        have := h2.1
        omega
      rw [List.length_erase_of_mem hm] at h1
      omega
    · have := nodup_le N l nd fun x hx => by
        have h1 := h x hx
        have : x ≠ N := fun e => hm (e ▸ hx)
        omega
      omega
/-- a row as a number -/
def code : List Int → Nat
  | [] => 0
  | x :: r => x.toNat + 10 * code r
theorem code_lt : ∀ {u : List Int}, (∀ x ∈ u, 0 ≤ x ∧ x < 10) → code u < 10 ^ u.length
  | [], _ => Nat.one_pos
  | x :: r, h => by
    have h1 := code_lt (u := r) fun y hy => h y (List.mem_cons_of_mem _ hy)
    obtain ⟨a, b⟩ := h x List.mem_cons_self
    rw [List.length_cons, Nat.pow_succ]
    show x.toNat + 10 * code r < 10 ^ r.length * 10
    omega
theorem code_inj : ∀ {u v : List Int}, u.length = v.length → (∀ x ∈ u, 0 ≤ x ∧ x < 10) → (∀ x ∈ v, 0 ≤ x ∧ x < 10) → code u = code v → u = v
  | [], [], _, _, _, _ => rfl
  | [], _ :: _, h, _, _, _ => nomatch h
  | _ :: _, [], h, _, _, _ => nomatch h
  | x :: r, y :: t, hl, hu, hv, e => by
    obtain ⟨a, b⟩ := hu x List.mem_cons_self
    obtain ⟨c, d⟩ := hv y List.mem_cons_self
    have e2 : x.toNat + 10 * code r = y.toNat + 10 * code t := e
    have h1 : code r = code t := by omega
    have h2 : x = y := by omega
    rw [h2, code_inj (u := r) (v := t) (Nat.succ.inj hl) (fun z hz => hu z (List.mem_cons_of_mem _ hz)) (fun z hz => hv z (List.mem_cons_of_mem _ hz)) h1]
theorem nodup_map_inj {α β : Type} {f : α → β} : ∀ {l : List α}, l.Nodup → (∀ x ∈ l, ∀ y ∈ l, f x = f y → x = y) → (l.map f).Nodup
  | [], _, _ => List.nodup_nil
  | x :: r, nd, h => by
    rw [List.nodup_cons] at nd
    rw [List.map_cons, List.nodup_cons]
    refine ⟨fun hm => ?_, nodup_map_inj nd.2 fun a ha b hb => h a (List.mem_cons_of_mem _ ha) b (List.mem_cons_of_mem _ hb)⟩
    obtain ⟨y, hy, e⟩ := List.mem_map.mp hm
    have := h y (List.mem_cons_of_mem _ hy) x List.mem_cons_self e
    exact nd.1 (this ▸ hy)
theorem rows_le {K : List (List Int)} {L : Nat} (nd : K.Nodup) (h : ∀ k ∈ K, k.length = L ∧ ∀ x ∈ k, 0 ≤ x ∧ x < 10) (hL : L ≤ 6) : K.length ≤ 1000000 := by
  have h1 := nodup_le (10 ^ L) (K.map code) (nodup_map_inj nd fun x hx y hy e => code_inj ((h x hx).1.trans (h y hy).1.symm) (h x hx).2 (h y hy).2 e) fun z hz => by
    obtain ⟨k, hk, rfl⟩ := List.mem_map.mp hz
    have := code_lt (h k hk).2
    rw [(h k hk).1] at this
    exact this
  rw [List.length_map] at h1
  have h2 : 10 ^ L ≤ 10 ^ 6 := Nat.pow_le_pow_right (by decide) hL
  exact Nat.le_trans h1 h2
end LW
/-! What stands in the heap: rows, matrices, dice, parts, offices; what stays. -/
namespace LW
open PySem PySem.Spec PyProof.Rows L2

theorem same_new {H : Hp} {p : Addr} {o : HO} (h : H p = none) : Same H (upd H p o) := fun b x e => by
  rw [upd_ne (ne_of_none e h)]
  exact e
/-- an object that H does not know is written -/
theorem same_mut {H H' : Hp} {p : Addr} {o : HO} (s : Same H H') (h : H p = none) : Same H (upd H' p o) := fun b x e => by
  rw [upd_ne (ne_of_none e h)]
  exact s b x e
theorem fresh_of {H H' : Hp} {p : Addr} (s : Same H H') (h : H' p = none) : H p = none := s.free h

/-! ### dice -/
def DiceO (o : HO) : Prop := ∃ (l : Addr) (i b s c : Int), o = .lst [.ref l, .int i, .int b, .int s, .int c]
/-- all but the dice is as it was -/
structure Stay (H H' : Hp) : Prop where
  keep : ∀ b o, H b = some o → ¬ DiceO o → H' b = some o
  there : ∀ b, H' b = none → H b = none
instance {H H' : Hp} : CoeFun (Stay H H') (fun _ => ∀ b o, H b = some o → ¬ DiceO o → H' b = some o) := ⟨Stay.keep⟩
theorem Stay.of {H H' : Hp} (s : Same H H') : Stay H H' := ⟨fun b o e _ => s b o e, fun b e => s.free e⟩
theorem Stay.refl (H : Hp) : Stay H H := ⟨fun _ _ e _ => e, fun _ e => e⟩
theorem Stay.trans {H H1 H2 : Hp} (a : Stay H H1) (b : Stay H1 H2) : Stay H H2 := ⟨fun c o e n => b c o (a c o e n) n, fun c e => a.there c (b.there c e)⟩
theorem Stay.thenS {H H1 H2 : Hp} (a : Stay H H1) (b : Same H1 H2) : Stay H H2 := a.trans (.of b)
theorem stay_mut {H H' : Hp} {p : Addr} {o : HO} (s : Stay H H') (h : H p = none) : Stay H (upd H' p o) := by
  refine ⟨fun b x e n => ?_, fun b e => ?_⟩
  · rw [upd_ne (ne_of_none e h)]
    exact s b x e n
  · by_cases hb : b = p
    · rw [hb]
      exact h
    · rw [upd_ne hb] at e
      exact s.there b e
theorem nd_tup {xs : List V} : ¬ DiceO (.tup xs) := fun ⟨_, _, _, _, _, e⟩ => nomatch e
theorem nd_ins {C dx : Addr} {fs : List (Str × V)} : ¬ DiceO (.ins C dx fs) := fun ⟨_, _, _, _, _, e⟩ => nomatch e
theorem nd_own {x : Addr} : ¬ DiceO (.own x) := fun ⟨_, _, _, _, _, e⟩ => nomatch e
theorem nd_dT {kvs : List (List Key × V)} : ¬ DiceO (.dT kvs) := fun ⟨_, _, _, _, _, e⟩ => nomatch e
theorem nd_frz {o : Obj} {u : HO} : ¬ DiceO (.frz o u) := fun ⟨_, _, _, _, _, e⟩ => nomatch e
theorem nd_refs {as : List Addr} : ¬ DiceO (.lst (as.map V.ref)) := fun ⟨_, _, _, _, _, e⟩ => by
  injection e with e
  match as, e with
  | [], e => cases e
  | [_], e => cases e
  | _ :: _ :: _, e => injection e with e1 e2; injection e2 with e3 e4; cases e3
theorem nd_ints {ns : List Int} : ¬ DiceO (.lst (ns.map V.int)) := fun ⟨_, _, _, _, _, e⟩ => by
  injection e with e
  cases ns with
  | nil => cases e
  | cons x r => injection e with e1 e2; cases e1
theorem nd_bls {α : Type} {f : α → Bool} {l : List α} : ¬ DiceO (.lst (l.map fun x => V.bl (f x))) := fun ⟨_, _, _, _, _, e⟩ => by
  injection e with e
  cases l with
  | nil => cases e
  | cons x r => injection e with e1 e2; cases e1
structure DiceAt (H : Hp) (d : Addr) : Prop where
  ex : ∃ (l : Addr) (ns : List Int) (i b s c : Int), H d = some (.lst [.ref l, .int i, .int b, .int s, .int c]) ∧ H l = some (.lst (ns.map V.int)) ∧ ns.length ≤ 63 ∧ (∀ n ∈ ns, 0 ≤ n) ∧
    0 ≤ i ∧ 0 ≤ b ∧ 0 ≤ s ∧ s < 2147483647 ∧ 0 ≤ c
theorem DiceAt.same {H H' : Hp} {d : Addr} (D : DiceAt H d) (s : Same H H') : DiceAt H' d := by
  obtain ⟨l, ns, i, b, z, c, h1, h2, r⟩ := D.ex
  exact ⟨l, ns, i, b, z, c, s _ _ h1, s _ _ h2, r⟩

/-! ### rows -/
/-- a plain tuple of ints -/
def Lot (H : Hp) (a : Addr) (ns : List Int) : Prop := H a = some (.tup (ns.map V.int))
theorem Lot.stay {H H' : Hp} {a : Addr} {ns : List Int} (r : Lot H a ns) (s : Stay H H') : Lot H' a ns := s a _ r nd_tup
theorem Lot.same {H H' : Hp} {a : Addr} {ns : List Int} (r : Lot H a ns) (s : Same H H') : Lot H' a ns := s a _ r
/-- a tuple of ints, perhaps one that is known to the object -/
def Row (H : Hp) (a : Addr) (ns : List Int) : Prop := Rd H a (.tup (ns.map V.int))
theorem Lot.row {H : Hp} {a : Addr} {ns : List Int} (r : Lot H a ns) : Row H a ns := .inl r
theorem Row.stay {H H' : Hp} {a : Addr} {ns : List Int} (r : Row H a ns) (s : Stay H H') : Row H' a ns := by
  rcases r with e | ⟨o, e⟩
  · exact .inl (s a _ e nd_tup)
  · exact .inr ⟨o, s a _ e nd_frz⟩
theorem Row.same {H H' : Hp} {a : Addr} {ns : List Int} (r : Row H a ns) (s : Same H H') : Row H' a ns := r.stay (.of s)
theorem Row.sq {K : PySem.W.Frag} {H : Hp} {a : Addr} {ns : List Int} (r : Row H a ns) : SqT K H a (ns.map V.int) := .inl r
theorem Row.ty {K : PySem.W.Frag} {H : Hp} {a : Addr} {ns : List Int} (r : Row H a ns) : TyX K H (.ref a) (.type "tuple") := by
  rcases r with e | ⟨o, e⟩
  · exact .base (.tup e)
  · exact .fTuple e
/-- a row whose object has no dict of its own: methods may be called on it -/
def RowN (H : Hp) (a : Addr) (ns : List Int) : Prop := ∃ o : Obj, H a = some (.frz o (.tup (ns.map V.int))) ∧ o.dict = none
theorem RowN.row {H : Hp} {a : Addr} {ns : List Int} (r : RowN H a ns) : Row H a ns := let ⟨o, e, _⟩ := r; .inr ⟨o, e⟩
theorem RowN.stay {H H' : Hp} {a : Addr} {ns : List Int} (r : RowN H a ns) (s : Stay H H') : RowN H' a ns := let ⟨o, e, d⟩ := r; ⟨o, s a _ e nd_frz, d⟩
theorem RowN.same {H H' : Hp} {a : Addr} {ns : List Int} (r : RowN H a ns) (s : Same H H') : RowN H' a ns := r.stay (.of s)
theorem ints_inj : ∀ {ns ms : List Int}, ns.map V.int = ms.map V.int → ns = ms
  | [], [], _ => rfl
  | [], _ :: _, e => nomatch e
  | _ :: _, [], e => nomatch e
  | x :: r, y :: t, e => by
    injection e with e1 e2
    rw [V.int.inj e1, ints_inj e2]
def RowIn (n : Nat) (ns : List Int) : Prop := ∀ x ∈ ns, 0 ≤ x ∧ x < (n : Int)
theorem RowIn.al {n : Nat} {m : Int → Int → Bool} {u v : List Int} (h : RowIn n u) (a : Al m u v) : RowIn n v := fun x hx => h x (a.perm.mem_iff.mpr hx)
/-- None, or a row -/
def OptRow (H : Hp) (v : V) : Option (List Int) → Prop
  | none => v = .non
  | some ns => ∃ a, v = .ref a ∧ Row H a ns
theorem OptRow.stay {H H' : Hp} {v : V} {o : Option (List Int)} (r : OptRow H v o) (s : Stay H H') : OptRow H' v o := by
  cases o with
  | none => exact r
  | some ns =>
    obtain ⟨a, e, q⟩ := r
    exact ⟨a, e, q.stay s⟩
theorem OptRow.same {H H' : Hp} {v : V} {o : Option (List Int)} (r : OptRow H v o) (s : Same H H') : OptRow H' v o := r.stay (.of s)

/-! ### matrices of flags -/
structure Mat (H : Hp) (l : Addr) (n : Nat) (m : Int → Int → Bool) : Prop where
  ex : ∃ as : List Addr, H l = some (.lst (as.map V.ref)) ∧ as.length = n ∧ ∀ (i : Nat) (a : Addr), as[i]? = some a → H a = some (.lst ((List.range n).map fun (j : Nat) => V.bl (m (i : Nat) (j : Nat))))
theorem Mat.stay {H H' : Hp} {l : Addr} {n : Nat} {m : Int → Int → Bool} (M : Mat H l n m) (s : Stay H H') : Mat H' l n m := by
  obtain ⟨as, h1, h2, h3⟩ := M.ex
  exact ⟨as, s _ _ h1 nd_refs, h2, fun i a e => s _ _ (h3 i a e) nd_bls⟩
theorem Mat.same {H H' : Hp} {l : Addr} {n : Nat} {m : Int → Int → Bool} (M : Mat H l n m) (s : Same H H') : Mat H' l n m := M.stay (.of s)
/-- its row, its flag -/
theorem Mat.row {H : Hp} {l : Addr} {n : Nat} {m : Int → Int → Bool} (M : Mat H l n m) {x : Int} (h0 : 0 ≤ x) (h1 : x < (n : Int)) :
    ∃ (as : List Addr) (a : Addr), H l = some (.lst (as.map V.ref)) ∧ atI (as.map V.ref) x = some (.ref a) ∧ H a = some (.lst ((List.range n).map fun (j : Nat) => V.bl (m x (j : Nat)))) := by
  obtain ⟨as, e1, e2, e3⟩ := M.ex
  obtain ⟨j, ej⟩ : ∃ j : Nat, x = (j : Int) := ⟨x.toNat, by omega⟩
  subst ej
  have hj : j < as.length := by omega
  refine ⟨as, as[j], e1, at_of (j := j) rfl (by rw [List.getElem?_map, List.getElem?_eq_getElem hj]; rfl), e3 j _ (List.getElem?_eq_getElem hj)⟩
theorem flag_at {n : Nat} {f : Int → Bool} {y : Int} (h0 : 0 ≤ y) (h1 : y < (n : Int)) : atI ((List.range n).map fun (j : Nat) => V.bl (f (j : Nat))) y = some (.bl (f y)) := by
  obtain ⟨j, ej⟩ : ∃ j : Nat, y = (j : Int) := ⟨y.toNat, by omega⟩
  subst ej
  have hj : j < n := by omega
  exact at_of (j := j) rfl (by rw [List.getElem?_map, List.getElem?_range hj]; rfl)

/-! ### an office -/
structure OfficeAt (K : PySem.W.Frag) (H : Hp) (p : Addr) (n : Nat) (m : Int → Int → Bool) : Prop where
  ex : ∃ (C dx wa km : Addr) (fs : List (Str × V)) (ws : List V), Cls K C ∧ NoAttr K C "works" ∧ NoAttr K C "kept_meets" ∧ H p = some (.ins C dx fs) ∧ fs.lookup ("works" : Str) = some (.ref wa) ∧ H wa = some (.tup ws) ∧ ws.length = n ∧
    fs.lookup ("kept_meets" : Str) = some (.ref km) ∧ Mat H km n m
theorem OfficeAt.stay {K : PySem.W.Frag} {H H' : Hp} {p : Addr} {n : Nat} {m : Int → Int → Bool} (O : OfficeAt K H p n m) (s : Stay H H') : OfficeAt K H' p n m := by
  obtain ⟨C, dx, wa, km, fs, ws, h1, h2, h3, h4, h5, h6, h7, h8, h9⟩ := O.ex
  exact ⟨C, dx, wa, km, fs, ws, h1, h2, h3, s _ _ h4 nd_ins, h5, s _ _ h6 nd_tup, h7, h8, h9.stay s⟩
theorem OfficeAt.same {K : PySem.W.Frag} {H H' : Hp} {p : Addr} {n : Nat} {m : Int → Int → Bool} (O : OfficeAt K H p n m) (s : Same H H') : OfficeAt K H' p n m := O.stay (.of s)
/-- the relation of meeting -/
structure Meets (m : Int → Int → Bool) : Prop where
  r : ∀ a, m a a = true
  s : ∀ a b, m a b = m b a

/-! ### drawn parts -/
def LotOk (D : Int) (lot : List Int) : Prop := lot ≠ [] ∧ lot.Pairwise (· < ·) ∧ lot.length ≤ 6 ∧ ∀ d ∈ lot, 0 ≤ d ∧ d < D
/-- a tuple of lots -/
def LotsAt (H : Hp) (wa : Addr) (lots : List (List Int)) : Prop := ∃ as : List Addr, H wa = some (.tup (as.map V.ref)) ∧ as.length = lots.length ∧ ∀ (i : Nat) (a : Addr) (lot : List Int), as[i]? = some a → lots[i]? = some lot → Lot H a lot
theorem LotsAt.stay {H H' : Hp} {wa : Addr} {lots : List (List Int)} (h : LotsAt H wa lots) (s : Stay H H') : LotsAt H' wa lots := by
  obtain ⟨as, h1, h2, h3⟩ := h
  exact ⟨as, s _ _ h1 nd_tup, h2, fun i a lot e1 e2 => (h3 i a lot e1 e2).stay s⟩
theorem LotsAt.same {H H' : Hp} {wa : Addr} {lots : List (List Int)} (h : LotsAt H wa lots) (s : Same H H') : LotsAt H' wa lots := h.stay (.of s)
structure LotsOk (D : Int) (lots : List (List Int)) : Prop where
  d1 : 1 ≤ D
  d6 : D ≤ 6
  l1 : 1 ≤ lots.length
  l10 : lots.length ≤ 10
  ok : ∀ lot ∈ lots, LotOk D lot
structure PartsAt (H : Hp) (p : Addr) (D : Int) (lots : List (List Int)) : Prop where
  ex : ∃ wa : Addr, H p = some (.tup [.int D, .ref wa]) ∧ LotsAt H wa lots
  ok : LotsOk D lots
theorem PartsAt.stay {H H' : Hp} {p : Addr} {D : Int} {lots : List (List Int)} (h : PartsAt H p D lots) (s : Stay H H') : PartsAt H' p D lots := by
  obtain ⟨wa, h1, h2⟩ := h.ex
  exact ⟨⟨wa, s _ _ h1 nd_tup, h2.stay s⟩, h.ok⟩
theorem PartsAt.same {H H' : Hp} {p : Addr} {D : Int} {lots : List (List Int)} (h : PartsAt H p D lots) (s : Same H H') : PartsAt H' p D lots := h.stay (.of s)
/-- the lots meet -/
def lotAt (lots : List (List Int)) (i : Int) : List Int := lots.getD i.toNat []
def over (u v : List Int) : Bool := u.any fun d => v.any fun e => decide (e = d)
def MM (lots : List (List Int)) (i j : Int) : Bool := decide (i = j) || over (lotAt lots i) (lotAt lots j)
theorem over_symm (u v : List Int) : over u v = over v u := by
  unfold over
  rw [Bool.eq_iff_iff]
  simp only [List.any_eq_true, decide_eq_true_eq]
  exact ⟨fun ⟨d, hd, e, he, z⟩ => ⟨e, he, d, hd, z.symm⟩, fun ⟨d, hd, e, he, z⟩ => ⟨e, he, d, hd, z.symm⟩⟩
theorem mm_meets (lots : List (List Int)) : Meets (MM lots) :=
  ⟨fun a => by unfold MM; rw [decide_eq_true rfl]; rfl, fun a b => by
    unfold MM
    rw [over_symm, show decide (a = b) = decide (b = a) from decide_eq_decide.mpr ⟨Eq.symm, Eq.symm⟩]⟩
/-- of works of an office the lots decide -/
theorem mm_over {D : Int} {lots : List (List Int)} (ok : LotsOk D lots) {i j : Nat} {u v : List Int} (hi : lots[i]? = some u) (hj : lots[j]? = some v) : over u v = MM lots (i : Nat) (j : Nat) := by
  have ei : lotAt lots (i : Nat) = u := by
    unfold lotAt
    rw [Int.toNat_natCast, List.getD_eq_getElem?_getD, hi]
    rfl
  have ej : lotAt lots (j : Nat) = v := by
    unfold lotAt
    rw [Int.toNat_natCast, List.getD_eq_getElem?_getD, hj]
    rfl
  unfold MM
  rw [ei, ej]
  by_cases h : i = j
  · subst h
    rw [hi] at hj
    cases hj
    obtain ⟨ne, _, _, _⟩ := ok.ok u (List.mem_of_getElem? hi)
    have : over u u = true := by
      cases u with
      | nil => exact absurd rfl ne
      | cons x r =>
        unfold over
        rw [List.any_cons, List.any_cons, decide_eq_true rfl]
        rfl
    rw [this, decide_eq_true rfl]
    rfl
  · rw [decide_eq_false (fun z => h (Int.ofNat_inj.mp z))]
    rfl
end LW
/-! Rules of one's own over the hand layer: t.index(k), {t: v}, a dict locked where it comes from a call, min of tuples, enumerate of a tuple, set(list). -/
namespace LW
open PySem PySem.Spec PyProof.Rows L2
section
variable {X : Cx}
/-- t.index(k), t a tuple of ints that has k -/
def rTupIx (K : PySem.W.Frag) : V → List V → Hp → VK → Prop := fun x xs H Q => ∃ (p : Addr) (ns : List Int) (k : Int),
  x = .ref p ∧ xs = [.int k] ∧ SqT K H p (ns.map V.int) ∧ k ∈ ns ∧ Q (.int (ns.idxOf k : Nat)) H
theorem mt_tupIx : MtR X "tuple.index" (rTupIx X.K) := by
  intro pins s σ H x xs v us Q I rx rs h
  obtain ⟨p, ns, k, rfl, rfl, hq, hk, q⟩ := h
  cases rx
  obtain ⟨u, rfl, t, rfl⟩ := vals1 rs
  obtain ⟨its, r, pl, hz⟩ := I.tuple hq
  exact SeqAt.tuple_index_ints (ns := ns) pl r.ints hk ⟨V.int (ns.idxOf k : Nat), H, I.tok _, ⟨_, rfl⟩, q⟩

/-- an expression that gives a dict: the dict is locked from then on -/
def tLockV (t : TE) : TE := fun σ H Q => t σ H fun x H1 => ∃ d u, x = .ref d ∧ H1 d = some u ∧ Mut (some u) ∧ ∀ od, Q x (upd H1 d (.frz od u))
theorem pe_lockV {e : Expr} {t : TE} (h : PE X e t) : PE X e (tLockV t) := by
  refine ⟨fun pins s σ H Q I hw => ?_⟩
  refine thn (h.run pins s σ H _ I hw) fun v s1 hv => ?_
  obtain ⟨x, H1, J, r, d, u, ex, hd, mu, q⟩ := hv
  obtain ⟨od, J2⟩ := J.lock hd mu
  exact ⟨x, _, J2, r, q od⟩

/-- {k: v}, one entry, k a tuple of ints and texts -/
def rDispT (p : Addr) (ps : List (V × V)) (H2 : Hp) (Q : VK) : Prop := ∃ (b : Addr) (k : List Key) (y : V), ps = [(.ref b, y)] ∧ H2 p = some (.dT []) ∧ H2 b = some (.tup (k.map kV)) ∧
  Q (.ref p) (upd H2 p (.dT [(k, y)]))
def tDispT (tk tv : TE) : TE := fun σ H Q => ∀ p, H p = none → tk σ (upd H p (.dT [])) fun x H1 => tv σ H1 fun y H2 => rDispT p [(x, y)] H2 Q
theorem pe_dispT {pos : Pos} {ke ve : Expr} {tk tv : TE} (hu : X.A.units + 1 < cLine) (hk : PE X ke tk) (hv : PE X ve tv) : PE X (.Dict [some ke] [ve] pos) (tDispT tk tv) := by
  refine ⟨fun pins s σ H Q I q => ?_⟩
  have hn : H s.heap.objs.size = none := I.hok.fresh (Nat.le_refl s.heap.objs.size)
  have J := I.laid (a := s.heap.objs.size) (o := .dT []) (h' := s.heap.push { cls := .type "dict", data := .dict #[] }) (t' := s.toks)
    (fun _ _ z => Heap.get?_push_of_some _ z) (Nat.le_refl _) (dt_empty s.heap I.big)
  have pp : PPs X pos [some ke] [ve] [(tk, tv)] := pps_cons hk hv pps_nil
  refine wpAny_Dict_any (by rfl) (by rfl) (by intro z; cases z) (Nat.le_of_ble_eq_true rfl) ?_
  refine thn (pp.run pins _ σ _ (fun ps H2 => rDispT s.heap.objs.size ps H2 Q) J (q _ hn)) fun ws s2 hw => ?_
  obtain ⟨ps, H2, J2, rel, b, k, y, rfl, hp, hb, qq⟩ := hw
  cases rel with
  | cons r1 r2 =>
    cases r2
    rename_i w1
    obtain ⟨k1, v1⟩ := w1
    obtain ⟨ra, rb⟩ := r1
    obtain rfl : k1 = Value.ref b := ra
    obtain ⟨z, hd, xs, rl, dd⟩ := dt_of J2.hok hp
    cases rl
    show wpAny _ _ (forIn [(Value.ref b, v1)] PUnit.unit _) _ _ s2
    rw [List.forIn_cons]
    refine wpAny_bind (wpAny_bind (wpAny_dictSet_heap (knd := tupleKind (mixKind X.prog X.w)) (hsz := Nat.zero_le _) (show X.A.units < cLine by omega) (key_of J2.hok hb) dd fun h' dd' hs => wpAny_pure ?_))
    show wpAny _ _ (forIn ([] : List (Value × Value)) PUnit.unit _) _ _ _
    rw [List.forIn_nil]
    refine wpAny_pure ?_
    obtain ⟨o, es, ep, ho, c2, c3, c4, _, c5⟩ := dd'
    refine ⟨.ref s.heap.objs.size, upd H2 s.heap.objs.size (.dT [(k, y)]), ?_, rfl, qq⟩
    have kt : KT H2 (putK [] k y) (storedH [] k b v1) := KT.put .nil k hb rb
    refine d_write J2 (by rw [hp]; exact True.intro) hs ⟨o, ho⟩ ⟨Nat.le_of_ble_eq_true rfl, hd, storedH [] k b v1, kt.keeps fun c ys ec => ?_, o, es, ep, ho, c2, c3, c4, c5⟩
    have ne : c ≠ s.heap.objs.size := ne_of ec hp (fun z => nomatch z)
    rw [upd_ne ne]
    exact ec

/-! ### min of a list of tuples of ints -/
theorem holds_row {pins : List (Addr × Obj)} {σ : L2.St} {H : Hp} {s : Shared} {a : Addr} {ns : List Int} (I : Inv X pins σ H s) (h : SqT X.K H a (ns.map V.int)) : PySem.W.Holds s.heap (.ref a) (PySem.W.Tup.mk ns) := by
  obtain ⟨its, r, pl, hz⟩ := I.tuple h
  exact PySem.W.holds_tup pl (PySem.W.HoldAll.of_ints r.ints)
/-- the rows at the addresses as, one by one -/
def RowsAt (K : PySem.W.Frag) (H : Hp) : List Addr → List (List Int) → Prop := Paired fun a ns => SqT K H a (ns.map V.int)
theorem holds_rows {pins : List (Addr × Obj)} {σ : L2.St} {H : Hp} {s : Shared} (I : Inv X pins σ H s) : ∀ {as : List Addr} {rs : List (List Int)} {us : List Value}, RowsAt X.K H as rs → Vals (as.map V.ref) us → PySem.W.HoldAll s.heap us (rs.map PySem.W.Tup.mk)
  | _, _, _, .nil, .nil => PySem.W.HoldAll.nil
  | _, _, _, .cons h t, .cons r q => by
    cases r
    exact PySem.W.HoldAll.cons (holds_row I h) (holds_rows I t q)
theorem vals_ref_at : ∀ {as : List Addr} {us : List Value} {i : Nat} {v : Value}, Vals (as.map V.ref) us → us[i]? = some v → ∃ a, as[i]? = some a ∧ v = .ref a
  | [], _, i, v, .nil, h => by cases h
  | a :: as, _, 0, v, .cons r t, h => by
    cases r
    cases h
    exact ⟨a, rfl, rfl⟩
  | a :: as, _, i + 1, v, .cons r t, h => vals_ref_at (as := as) t h
theorem rows_at {K : PySem.W.Frag} {H : Hp} : ∀ {as : List Addr} {rs : List (List Int)} {i : Nat} {a : Addr}, Paired (fun a (ns : List Int) => SqT K H a (ns.map V.int)) as rs → as[i]? = some a → ∃ ns, rs[i]? = some ns ∧ SqT K H a (ns.map V.int)
  | _, _, i, _, .nil, h => by cases h
  | _, _, 0, _, .cons q t, h => by
    cases h
    exact ⟨_, rfl, q⟩
  | _ :: _, _, i + 1, _, .cons q t, h => rows_at (i := i) t (by simpa using h)
/-- min(l), l a list of tuples of ints: one of them, and its row is the least one -/
def rMinT (K : PySem.W.Frag) : List V → Hp → VK → Prop := fun vs H Q => ∃ (l : Addr) (as : List Addr) (r0 : List Int) (rs : List (List Int)), vs = [V.ref l] ∧ SqL K H l (as.map V.ref) ∧ RowsAt K H as (r0 :: rs) ∧
  ∀ (a : Addr) (ns : List Int), SqT K H a (ns.map V.int) → PySem.W.Tup.mk ns = PySem.W.minOf (PySem.W.Tup.mk r0) (rs.map PySem.W.Tup.mk) → Q (.ref a) H
theorem holds_inj {h : Heap} {v : Value} {x y : PySem.W.Tup Int} (a : PySem.W.Holds h v x) (b : PySem.W.Holds h v y) : x = y := by
  obtain ⟨as, r⟩ := a
  obtain ⟨bs, q⟩ := b
  have e := (Reads.unique r _ _ q).1
  have z := PySem.W.Datum.eqv x y
  rw [← e, PySem.W.Datum.eqv x x] at z
  exact of_decide_eq_true (z.symm.trans (decide_eq_true rfl))
theorem cr_minT (hc : X.calm = true) (hu : X.A.units + 64 < cLine) : CallR X (.builtin "min") (rMinT X.K) := by
  intro pins s σ H vs us Q I r h
  obtain ⟨l, as, r0, rs, rfl, hl, hr, q⟩ := h
  obtain ⟨its, rv, pl, hz⟩ := I.list hl
  rw [Vals.ref1 r]
  have ha := holds_rows I hr rv
  refine PySem.W.min_list_datum (I.ok.hd hc) pl.isList ha (show X.A.units + 1 + (0 + 1) < cLine by omega) fun i v h' tk hi hm hk => ?_
  obtain ⟨a, hai, rfl⟩ := vals_ref_at rv (by simpa using hi)
  obtain ⟨ns, hn, hs⟩ := rows_at hr hai
  have J : Inv X pins σ H { s with heap := h', toks := tk } := I.kept hk
  exact ⟨.ref a, H, J, rfl, q a ns hs (holds_inj (holds_row J hs) hm)⟩

/-! ### enumerate of a tuple -/
/-- the tuple at a as it stands, each item in a new pair -/
def IteT (K : PySem.W.Frag) (a : Addr) : It :=
  ⟨fun i H => ∃ (xs : List V) (x : V), SqT K H a xs ∧ xs[i]? = some x, fun i H v H' => ∃ T x, v = .ref T ∧ H T = none ∧ H' = upd H T (.tup [.int (i : Nat), x]) ∧ ∀ xs, SqT K H a xs → xs[i]? = some x,
    fun i H => ∃ xs : List V, SqT K H a xs ∧ xs.length ≤ i⟩
/-- enumerate's new cells over a thing whose iterator begins as o -/
theorem enum1 {v : Value} {o : Obj} {G : Heap → Prop} (B : Begins v o G) : PySem.Meets (Builtin.«enumerate.__new__» ⟨[.type "enumerate", v], []⟩) (fun _ R s => G s.heap ∧
    R (.ok (.ret (.ref (s.heap.push o).objs.size))) { s with heap := (s.heap.push o).push { cls := .type "enumerate", data := .fields #[.none, .bool false, .ref s.heap.objs.size, rawInt 0, .none, .none] } }) := .of_wp fun prog w A R s h => by
  obtain ⟨hp, g, d, tk, os⟩ := s
  obtain ⟨hG, h⟩ := h
  have hsub := sub_enumerate
  have walk : ∀ {A' : Around} {E : Value → Shared → Prop} {Q : Value → Shared → Prop}, Q (.ref hp.objs.size) ⟨hp.push o, g, d, tk, os⟩ → wpAny (model prog w) A' (pyIter v) Q E ⟨hp, g, d, tk, os⟩ :=
    fun q => B.iter prog w _ _ ⟨hp, g, d, tk, os⟩ _ hG q
  wp_walk using walk
  refine wpAny_stack_any fun st => wpAny_pure ?_
  split
  · rename_i c _ _ _ _ _
    cases hb : (c == Value.type "enumerate") <;> (wp_walk using walk; exact ⟨_, rfl, h⟩)
  · wp_walk using walk
    exact ⟨_, rfl, h⟩
theorem turn_enumT {P : Program} {w : World} {K : PySem.W.Frag} {elts : List Expr} {kk : Nat} {tpos : Pos} (a en it : Addr) :
    Turn P w K (.Tuple elts kk tpos) (IteT K a) [en, it] en (fun i h => (∃ old, IsEnum h en it ((i : Nat) : Int) old) ∧ h.IsTupleIter it a i ∧ en ≠ it ∧ a ≠ it ∧ a ≠ en) where
  mem := List.mem_cons_self
  obj := fun i h ⟨⟨old, he⟩, ⟨o, ho, _, hd⟩, _⟩ b hb => by
    rcases List.mem_cons.mp hb with rfl | hb
    · exact ⟨_, he, fun v z => nomatch z⟩
    · rcases List.mem_singleton.mp hb with rfl
      exact ⟨o, ho, fun v z => by rw [hd] at z; exact nomatch z⟩
  keep := fun i h h' ⟨⟨old, he⟩, hi, r⟩ k => ⟨⟨old, k en List.mem_cons_self _ he⟩, hi.at fun o z => k it (List.mem_cons_of_mem _ List.mem_cons_self) o z, r⟩
  item := by
    intro X hP hw hK hc i pins s σ H E I hf ⟨⟨old, he⟩, hit, n1, n2, n3⟩ ⟨xs, x, hq, hx⟩
    subst hP hw hK
    obtain ⟨its, rv, pl, hz⟩ := I.tuple hq
    obtain ⟨u, hu, ru⟩ := rv.get hx
    have D := Draws.tuple (prog := X.prog) (w := X.w) (A := X.A.in1) (show X.A.in1.handled = none from I.ok.hd hc) it a n2 its.toArray
    have hlt : i < its.toArray.size := by
      rw [List.size_toArray]
      exact (List.getElem?_eq_some_iff.mp hu).1
    have le : en < s.heap.objs.size := Heap.lt_size he
    have li : it < s.heap.objs.size := by
      obtain ⟨o, ho, _⟩ := hit
      exact Heap.lt_size ho
    have nf : en ∉ [it, a] := fun z => by
      rcases List.mem_cons.mp z with z | z
      · exact n1 z
      · exact n3 (List.mem_singleton.mp z).symm
    refine wpAny_pyNext_enum_itemD D he ⟨hit, pl⟩ hlt n1 nf fun y h1 tk hy ho st hT hs hk => ⟨_, rfl, ?_⟩
    have ey : y = u := by
      rw [List.getElem?_toArray, hu] at hy
      exact (Option.some.inj hy).symm
    subst ey
    refine wpAny_letOwnedTupleGo_enum (s := { s with heap := h1, toks := tk + 1 }) ho fun h2 he2 sb => ?_
    have hT2 : h2.get? s.heap.objs.size = some { cls := .type "tuple", data := .seq #[.int i tk, y] } := (sb.2 _ (Nat.ne_of_gt le)).trans hT
    have two : ([V.int (i : Nat), x] : List V).length ≤ sizeLine := Nat.le_of_ble_eq_true rfl
    have J : Inv X pins σ (upd H s.heap.objs.size (.tup [.int (i : Nat), x])) { s with heap := h2, toks := tk + 1 } := by
      refine I.turnedNew (ch := [en, it]) (fun b ob hb z => ?_) hf (Nat.le_refl _) ⟨two, [.int i tk, y], .cons ⟨tk, rfl⟩ (.cons ru .nil), ⟨_, hT2, rfl, _, rfl⟩⟩
      have b1 : b ≠ en := fun q => hb (by rw [q]; exact List.mem_cons_self)
      have b2 : b ≠ it := fun q => hb (by rw [q]; exact List.mem_cons_of_mem _ List.mem_cons_self)
      exact (sb.2 b b1).trans (hk b ob b1 b2 z)
    refine ⟨.ref s.heap.objs.size, _, J, rfl, ⟨_, x, rfl, I.hok.fresh (Nat.le_refl _), rfl, fun ys hy2 => by rw [I.tuple_inj hy2 hq]; exact hx⟩, ⟨⟨y, ?_⟩, ?_, n1, n2, n3⟩, fun b hb => ?_⟩
    · have ei : ((i + 1 : Nat) : Int) = (i : Int) + 1 := by omega
      rw [ei]
      exact he2
    · exact st.1.at fun o z => (sb.2 it (Ne.symm n1)).trans z
    · have hb2 : b < s.heap.objs.size := by
        rcases List.mem_cons.mp hb with rfl | hb
        · exact le
        · rcases List.mem_singleton.mp hb with rfl
          exact li
      rw [upd_ne (Nat.ne_of_lt hb2)]
      exact (hf b hb).1
  done := by
    intro X hP hw hK hc i pins s σ H E I hf ⟨⟨old, he⟩, hit, n1, n2, n3⟩ ⟨xs, hq, hx⟩
    subst hP hw hK
    obtain ⟨its, rv, pl, hz⟩ := I.tuple hq
    have hh : X.A.in1.handled = none := I.ok.hd hc
    have D : Draws X.prog X.w X.A.in1 it [it, a] i (fun _ _ => True) (fun j h => j = i ∧ h.IsTupleIter it a j ∧ h.IsTuple a its.toArray) :=
      { live := fun j h st => let ⟨o, ho, _⟩ := st.2.1; ⟨o, ho⟩
        frame := fun j h h' st k => ⟨st.1, st.2.1.at fun o z => k it List.mem_cons_self o z, st.2.2.at fun o z => k a (List.mem_cons_of_mem _ List.mem_cons_self) o z⟩
        item := fun j s Q E hj st _ => absurd st.1 (Nat.ne_of_lt hj)
        done := fun s Q E st hE => wpAny_nextOf_tuple_end hh st.2.1 st.2.2 (by rw [List.getElem?_toArray]; exact List.getElem?_eq_none (by rw [← rv.length]; exact hx)) hE }
    exact wpAny_pyNext_enum_endD D he ⟨rfl, hit, pl⟩ fun h' eb => ⟨rfl, I.turned (t' := s.toks) (fun b o hb z => eb b o hb z)
      (hf it (List.mem_cons_of_mem _ List.mem_cons_self)).1 (hf it (List.mem_cons_of_mem _ List.mem_cons_self)).2.1 (hf it (List.mem_cons_of_mem _ List.mem_cons_self)).2.2.2.1
      (hf it (List.mem_cons_of_mem _ List.mem_cons_self)).2.2.2.2.1 (hf it (List.mem_cons_of_mem _ List.mem_cons_self)).2.2.2.2.2⟩
  self := fun A i s Q E ⟨⟨old, he⟩, _⟩ q => wpAny_pyIter_enum he q
/-- for i, x in enumerate(t), t a tuple -/
def iEnumT (K : PySem.W.Frag) (ta : TA) : TI := fun σ H R => ta σ H fun vs H1 => ∃ a xs, vs = [.ref a] ∧ SqT K H1 a xs ∧ R (IteT K a) H1
theorem pi_enumT {e : Expr} {ta : TA} {p pos tpos : Pos} {elts : List Expr} {kk : Nat} (hg : Gl X "enumerate") (hm : X.mg "enumerate" = none) (ha : PA X [e] ta) (hst : starEach [e] X.env = [(false, eval e X.env)] := by rfl) :
    PI X (.Tuple elts kk tpos) (.Call (.Name "enumerate" p) [e] [] pos) (iEnumT X.K ta) := by
  refine ⟨fun pins s σ H R I h => ?_⟩
  refine Call_ (ld_blt I hg hm boot_enumerate (PyProof.Rows.callWith_type1 (thn (ha.run pos pins s σ H _ I h) fun us s1 hz => ?_) hst rfl))
  obtain ⟨vs, H1, J, r1, a, xs, rfl, hq, q⟩ := hz
  obtain ⟨u, rfl, rx⟩ := vals1 r1
  cases rx
  obtain ⟨its, rv, pl, hz⟩ := J.tuple hq
  have z1 : (s1.heap.push { cls := .type "tuple_iterator", data := .fields #[.ref a, .int 0 0] }).objs.size = s1.heap.objs.size + 1 := Heap.size_push ..
  refine callType_new F.called_enumerate (by decide) (F.typeCall_enumerate_1 _) (F.newCall_enumerate_1 _) (fun ob => F.args_object_init_2 ob _) F.entry_enumerate_new
    (enum1 (begins_tuple a its.toArray)) ⟨pl, ?_⟩
  have hit := Heap.get?_push_size s1.heap (o := { cls := .type "tuple_iterator", data := .fields #[.ref a, .int 0 0] }) rfl
  have hen := Heap.get?_push_size (s1.heap.push { cls := .type "tuple_iterator", data := .fields #[.ref a, .int 0 0] })
    (o := { cls := .type "enumerate", data := .fields #[.none, .bool false, .ref s1.heap.objs.size, rawInt 0, .none, .none] }) rfl
  show _ ∧ _
  rw [z1] at hen ⊢
  have la : a < s1.heap.objs.size := pl.lt
  refine ⟨⟨_, hen, rfl⟩, wpAny_pyIter_enum (i := 0) (old := .none) hen ?_⟩
  refine ⟨s1.heap.objs.size + 1, [s1.heap.objs.size + 1, s1.heap.objs.size], _, _, H1, rfl, J.kept (t' := s1.toks) fun b ob z => Heap.get?_push_of_some _ (Heap.get?_push_of_some _ z),
    turn_enumT a (s1.heap.objs.size + 1) s1.heap.objs.size, ⟨⟨.none, hen⟩, ⟨_, Heap.get?_push_of_some _ hit, rfl, rfl⟩, Nat.succ_ne_self _, Nat.ne_of_lt la, Nat.ne_of_lt (Nat.lt_succ_of_lt la)⟩, fun b hb => ?_, q⟩
  have hle : s1.heap.objs.size ≤ b := by
    rcases List.mem_cons.mp hb with z | z
    · rw [z]
      exact Nat.le_succ _
    · rw [List.mem_singleton.mp z]
      exact Nat.le_refl _
  exact J.fpOk hle (J.hok.fresh hle)
end
end LW
/-! set(l), l a list of ints: with all that sorted(..) asks of the set. -/
namespace LW
open PySem PySem.Spec PyProof.Rows L2
/-- the object that set() lays -/
abbrev setO0 (w : World) : Obj := { cls := .type "set", dict := none, data := .set #[] 0 (.fresh 0 0 (!w.params.followText "set-order")) }
section
variable {P : Program} {w : World} {A : Around} {E : Value → Shared → Prop} {s : Shared}
theorem set_init_list {l : Addr} {items : Array Value} (ns : List Int) (hh : A.handled = none) (hl : s.heap.IsList l items) (hi : IntsAre items.toList ns) (hb : ns.length + 1 < scanBound)
    {Q : Value → Shared → Prop} (h : ∀ (h' : Heap) (tk c : Nat), SetR w h' s.heap.objs.size (fun j => decide (j ∈ ns)) c → c ≤ ns.length → (∀ b o, s.heap.get? b = some o → h'.get? b = some o) → Q .none { s with heap := h', toks := tk }) :
    wpAny (model P w) A (Builtin.«set.__init__» ⟨[.ref s.heap.objs.size, .ref l], []⟩) (fun fin s' => ∃ v, fin = .done (.ret v) ∧ Q v s') E { s with heap := s.heap.push (setO0 w) } := by
  have n0 : items.size = ns.length := by
    rw [← Array.length_toList]
    exact hi.length
  have hS : (s.heap.push (setO0 w)).get? s.heap.objs.size = some (setO0 w) := Heap.get?_push_size _ rfl
  have hT : Shared.TypeIs { s with heap := s.heap.push (setO0 w) } (.ref s.heap.objs.size) "set" := ⟨_, hS, rfl⟩
  obtain ⟨⟨cl, di, da, so⟩, hol, hcl, nl, hdl⟩ := id hl
  replace hcl : cl = .type "list" := hcl
  replace hdl : da = .seq items nl := hdl
  subst hcl hdl
  have lS : l < s.heap.objs.size := Heap.lt_size hol
  have hol2 : (s.heap.push (setO0 w)).get? l = some { cls := .type "list", dict := di, data := .seq items nl, slots := so } := Heap.get?_push_of_some _ hol
  have hl2 : (s.heap.push (setO0 w)).IsList l items := ⟨_, hol2, rfl, nl, rfl⟩
  have f1 := F.sub_list_set
  have f2 := F.sub_list_frozenset
  have f3 : (Value.type "list" == Value.type "dict") = false := by decide
  unfold Builtin.«set.__init__» noKeywords Builtin.Frozenset.updateFrom
  generalize hPI : pyIter = PI
  wp_walk
  subst hPI
  have z1 : (s.heap.push (setO0 w)).objs.size = s.heap.objs.size + 1 := Heap.size_push ..
  have n1 : l ≠ (s.heap.push (setO0 w)).objs.size := by
    rw [z1]
    exact Nat.ne_of_lt (Nat.lt_succ_of_lt lS)
  have n2 : s.heap.objs.size ∉ [(s.heap.push (setO0 w)).objs.size, l] := fun z => by
    rcases List.mem_cons.mp z with z | z
    · rw [z1] at z
      exact Nat.ne_of_lt (Nat.lt_succ_self _) z
    · exact Nat.ne_of_gt lS (List.mem_singleton.mp z)
  have val : ∀ (i : Nat) (v : Value), items[i]? = some v → ∃ k t, ns[i]? = some k ∧ v = .int k t := fun i v hv => by
    have hlt : i < ns.length := by
      rw [← n0]
      exact (Array.getElem?_eq_some_iff.mp hv).1
    obtain ⟨t, e⟩ := IntsAre.int_at hi i v (by rw [Array.getElem?_toList]; exact hv)
    have e2 : ns.getD i 0 = ns[i] := by
      rw [List.getD_eq_getElem?_getD, List.getElem?_eq_getElem hlt]
      rfl
    exact ⟨ns[i], t, List.getElem?_eq_getElem hlt, by rw [e, e2]⟩
  refine wpAny_pyIter_list hl2 (wpAny_bind (wpAny_runValue ?_))
  have W := (Walks.list (prog := P) (w := w) (A := A.in1) (show A.in1.handled = none from hh) (s.heap.push (setO0 w)).objs.size l n1 items).toS
  have hS2 : ((s.heap.push (setO0 w)).push { cls := .type "list_iterator", data := .fields #[.ref l, .int 0 0] }).get? s.heap.objs.size = some (setO0 w) := Heap.get?_push_of_some _ hS
  refine set_update_ints W s.heap.objs.size n2 ns n0 hb val items.size 0 _ (Nat.sub_zero _) (Nat.zero_le _) ⟨⟨_, Heap.get?_push_size _ rfl, rfl, rfl⟩, hl2.push _⟩ ⟨0, Nat.le_refl 0, setR_new_at hS2⟩ ?_
  intro s9 c hm hc hR
  obtain ⟨h9, g9, d9, t9, o9⟩ := s9
  obtain rfl : g9 = s.gens := hm.gens
  obtain rfl : d9 = s.drawn := hm.drawn
  obtain rfl : o9 = s.os := hm.os
  show wpAny _ _ _ _ _ _
  refine wpAny_pure ?_
  show wpAny _ _ (ret Value.none) _ _ _
  refine wpAny_pure ⟨.none, rfl, h h9 t9 c hR (by rw [← n0]; exact hc) fun b o e => ?_⟩
  have b0 : b < s.heap.objs.size := Heap.lt_size e
  refine hm.heap b o (fun z => ?_) (Heap.get?_push_of_some _ (Heap.get?_push_of_some _ e))
  rcases List.mem_cons.mp z with z | z
  · exact Nat.ne_of_lt b0 z
  · have z2 := List.mem_singleton.mp z
    rw [z1] at z2
    exact Nat.ne_of_lt (Nat.lt_succ_of_lt b0) z2
/-- set(l), l a list of ints -/
theorem set_of_list {l : Addr} {items : Array Value} (ns : List Int) (hh : A.handled = none) (hl : s.heap.IsList l items) (hi : IntsAre items.toList ns) (hb : ns.length + 1 < scanBound)
    {Q : Value → Shared → Prop} (h : ∀ (h' : Heap) (tk c : Nat), SetR w h' s.heap.objs.size (fun j => decide (j ∈ ns)) c → c ≤ ns.length → (∀ b o, s.heap.get? b = some o → h'.get? b = some o) → Q (.ref s.heap.objs.size) { s with heap := h', toks := tk }) :
    wpAny (model P w) A (call (.type "set") [.ref l]) Q E s := by
  have T := F.called_set
  obtain ⟨cc, tl, g0⟩ := T.mro
  have g1 := T.made; have g2 := T.sub; have g3 := T.notType; have g4 := T.canCreate
  have g5 := F.typeCall_set_1 (.ref l)
  refine wpAny_call (codeAny_of_tree (show wpAny _ _ (callAny (.type "set") _) _ _ _ from wpAny_pure ⟨Code.quiet_builtin _ (by decide +kernel), codeAny_builtin F.entry_type_call ?_⟩))
  rw [Around.under_plain (weight_type_call_type "set" [.ref l] []) (units_type_call_type "set" [.ref l] [])]
  repeat any_goals (first | assumption | wp_step)
  refine codeAny_mono (code_set_led1 (P := P) (w := w) (.ref l) (E := E) (Q₁ := fun ob s1 => ob = .ref s.heap.objs.size ∧ s1 = { s with heap := s.heap.push (setO0 w) }) ⟨rfl, rfl⟩) fun r0 s0 hr0 => ?_
  cases r0 with
  | error e => exact hr0
  | ok f0 =>
    cases f0 with
    | ret ob =>
      obtain ⟨rfl, rfl⟩ := hr0
      have hT : Shared.TypeIs { s with heap := s.heap.push (setO0 w) } (.ref s.heap.objs.size) "set" := ⟨_, Heap.get?_push_size _ rfl, rfl⟩
      have g6 := T.init.lookup; have g7 := T.init.bind (.ref s.heap.objs.size)
      repeat any_goals (first | assumption | wp_step)
      have body := fun (A' : Around) (hA : A'.handled = none) => set_init_list (P := P) (A := A') (E := fun e s' => wants (fun r s₂ => r = Value.none ∧ Q (.ref s.heap.objs.size) s₂) E (.error e) s') ns hA hl hi hb
        (Q := fun r s₂ => r = Value.none ∧ Q (.ref s.heap.objs.size) s₂) fun h' tk c a b k => ⟨rfl, h h' tk c a b k⟩
      refine codeAny_mono (codeAny_call_builtin (R := wants (fun r s₂ => r = Value.none ∧ Q (.ref s.heap.objs.size) s₂) E) T.init.plain F.entry_set_init
        (check_set_init_1 hT (wpAny_mono (body _ hh) (fun fin s2 hf => ?_) fun _ _ z => z))) fun r9 s9 hr9 => ?_
      · obtain ⟨v, rfl, hv⟩ := hf
        exact hv
      · cases r9 with
        | error e => exact hr9
        | ok f9 =>
          cases f9 with
          | ret r =>
            obtain ⟨rfl, hq⟩ := hr9
            repeat any_goals (first | assumption | wp_step)
          | _ => exact hr9.elim
    | _ => exact hr0.elim
end
section
variable {X : Cx}
/-- set(l): its members are those of l -/
def rSetOfL (K : PySem.W.Frag) (w : World) : List V → Hp → VK → Prop := fun vs H Q => ∃ (l : Addr) (ns : List Int), vs = [.ref l] ∧ SqL K H l (ns.map V.int) ∧ ns.length ≤ 1000 ∧
  ∀ (p : Addr) (c : Nat), c ≤ ns.length → H p = none → Q (.ref p) (upd H p (SetO w p (fun j => decide (j ∈ ns)) c))
theorem cr_setOfL (hc : X.calm = true) : CallR X (.type "set") (rSetOfL X.K X.w) := by
  intro pins s σ H vs us Q I r h
  obtain ⟨l, ns, rfl, hl, hn, q⟩ := h
  obtain ⟨u, rfl, rx⟩ := vals1 r
  cases rx
  obtain ⟨its, rv, pl, hz⟩ := I.list hl
  refine set_of_list ns (I.ok.hd hc) pl.isList rv.ints (by unfold scanBound; omega) fun h' tk c R hc2 kp => ?_
  exact ⟨.ref s.heap.objs.size, _, I.laid (a := s.heap.objs.size) (t' := tk) kp (Nat.le_refl _) (setO_new R), rfl, q _ c hc2 (I.hok.fresh (Nat.le_refl _))⟩
end
end LW
/-! Printed by gen_text.py: the text by places, what the top leaves. -/
namespace LW
open PySem PySem.Spec PyProof.Rows L2
def topS (i : Nat) : Stmt := PySem.Challenge.pw_latestword_k12_whole_begins_and_goes_on.main.body.getD i (.Pass ⟨0, 0, 0, 0⟩)
abbrev t_is_integer : Stmt := topS 5
abbrev n_is_integer : List Str := ["thing"]
abbrev p_is_integer : List Str := ["thing"]
theorem sc_is_integer : FnScope n_is_integer p_is_integer (defScope t_is_integer) := ⟨rfl, rfl, rfl, by decide +kernel, rfl, by decide +kernel, by decide +kernel⟩
abbrev t_is_within : Stmt := topS 6
abbrev n_is_within : List Str := ["thing", "least", "most"]
abbrev p_is_within : List Str := ["thing", "least", "most"]
theorem sc_is_within : FnScope n_is_within p_is_within (defScope t_is_within) := ⟨rfl, rfl, rfl, by decide +kernel, rfl, by decide +kernel, by decide +kernel⟩
abbrev t_is_lot : Stmt := topS 7
abbrev n_is_lot : List Str := ["thing", "below", "at", "item"]
abbrev p_is_lot : List Str := ["thing", "below"]
theorem sc_is_lot : FnScope n_is_lot p_is_lot (defScope t_is_lot) := ⟨rfl, rfl, rfl, by decide +kernel, rfl, by decide +kernel, by decide +kernel⟩
abbrev t_are_works : Stmt := topS 11
abbrev n_are_works : List Str := ["desks", "thing", "lot"]
abbrev p_are_works : List Str := ["desks", "thing"]
theorem sc_are_works : FnScope n_are_works p_are_works (defScope t_are_works) := ⟨rfl, rfl, rfl, by decide +kernel, rfl, by decide +kernel, by decide +kernel⟩
abbrev t_office : Stmt := inClass (topS 12) 0
abbrev n_office : List Str := ["self", "desks", "works", "desk", "lot", "other", "work"]
abbrev p_office : List Str := ["self", "desks", "works"]
theorem sc_office : FnScope n_office p_office (defScope t_office) := ⟨rfl, rfl, rfl, by decide +kernel, rfl, by decide +kernel, by decide +kernel⟩
abbrev t_is_work : Stmt := topS 13
abbrev n_is_work : List Str := ["office", "thing"]
abbrev p_is_work : List Str := ["office", "thing"]
theorem sc_is_work : FnScope n_is_work p_is_work (defScope t_is_work) := ⟨rfl, rfl, rfl, by decide +kernel, rfl, by decide +kernel, by decide +kernel⟩
abbrev t_is_row_of : Stmt := topS 14
abbrev n_is_row_of : List Str := ["office", "thing", "work"]
abbrev p_is_row_of : List Str := ["office", "thing"]
theorem sc_is_row_of : FnScope n_is_row_of p_is_row_of (defScope t_is_row_of) := ⟨rfl, rfl, rfl, by decide +kernel, rfl, by decide +kernel, by decide +kernel⟩
abbrev t_check_row : Stmt := topS 15
abbrev n_check_row : List Str := ["office", "thing"]
abbrev p_check_row : List Str := ["office", "thing"]
theorem sc_check_row : FnScope n_check_row p_check_row (defScope t_check_row) := ⟨rfl, rfl, rfl, by decide +kernel, rfl, by decide +kernel, by decide +kernel⟩
abbrev t_can_begin : Stmt := topS 17
abbrev n_can_begin : List Str := ["office", "left", "place", "meets", "work"]
abbrev p_can_begin : List Str := ["office", "left", "place"]
theorem sc_can_begin : FnScope n_can_begin p_can_begin (defScope t_can_begin) := ⟨rfl, rfl, rfl, by decide +kernel, rfl, by decide +kernel, by decide +kernel⟩
abbrev t_beginners : Stmt := topS 18
abbrev n_beginners : List Str := ["office", "left", "found", "place", "work"]
abbrev p_beginners : List Str := ["office", "left"]
theorem sc_beginners : FnScope n_beginners p_beginners (defScope t_beginners) := ⟨rfl, rfl, rfl, by decide +kernel, rfl, by decide +kernel, by decide +kernel⟩
abbrev t_least_of : Stmt := topS 19
abbrev n_least_of : List Str := ["office", "row", "found", "left", "work", "place"]
abbrev p_least_of : List Str := ["office", "row"]
theorem sc_least_of : FnScope n_least_of p_least_of (defScope t_least_of) := ⟨rfl, rfl, rfl, by decide +kernel, rfl, by decide +kernel, by decide +kernel⟩
abbrev t_are_alike : Stmt := topS 20
abbrev n_are_alike : List Str := ["office", "row", "other"]
abbrev p_are_alike : List Str := ["office", "row", "other"]
theorem sc_are_alike : FnScope n_are_alike p_are_alike (defScope t_are_alike) := ⟨rfl, rfl, rfl, by decide +kernel, rfl, by decide +kernel, by decide +kernel⟩
abbrev t_alike : Stmt := topS 21
abbrev n_alike : List Str := ["office", "row", "other"]
abbrev p_alike : List Str := ["office", "row", "other"]
theorem sc_alike : FnScope n_alike p_alike (defScope t_alike) := ⟨rfl, rfl, rfl, by decide +kernel, rfl, by decide +kernel, by decide +kernel⟩
abbrev t_rest_behind : Stmt := topS 23
abbrev n_rest_behind : List Str := ["office", "row", "other", "left", "work", "place"]
abbrev p_rest_behind : List Str := ["office", "row", "other"]
theorem sc_rest_behind : FnScope n_rest_behind p_rest_behind (defScope t_rest_behind) := ⟨rfl, rfl, rfl, by decide +kernel, rfl, by decide +kernel, by decide +kernel⟩
abbrev t_check_two : Stmt := topS 24
abbrev n_check_two : List Str := ["office", "row", "other"]
abbrev p_check_two : List Str := ["office", "row", "other"]
theorem sc_check_two : FnScope n_check_two p_check_two (defScope t_check_two) := ⟨rfl, rfl, rfl, by decide +kernel, rfl, by decide +kernel, by decide +kernel⟩
abbrev t_begins : Stmt := topS 25
abbrev n_begins : List Str := ["office", "row", "other"]
abbrev p_begins : List Str := ["office", "row", "other"]
theorem sc_begins : FnScope n_begins p_begins (defScope t_begins) := ⟨rfl, rfl, rfl, by decide +kernel, rfl, by decide +kernel, by decide +kernel⟩
abbrev t_gone_on : Stmt := topS 26
abbrev n_gone_on : List Str := ["office", "row", "other", "left"]
abbrev p_gone_on : List Str := ["office", "row", "other"]
theorem sc_gone_on : FnScope n_gone_on p_gone_on (defScope t_gone_on) := ⟨rfl, rfl, rfl, by decide +kernel, rfl, by decide +kernel, by decide +kernel⟩
abbrev t_l_dice : Stmt := topS 28
abbrev n_l_dice : List Str := ["_law_script", "_law_cell"]
abbrev p_l_dice : List Str := ["_law_script"]
theorem sc_l_dice : FnScope n_l_dice p_l_dice (defScope t_l_dice) := ⟨rfl, rfl, rfl, by decide +kernel, rfl, by decide +kernel, by decide +kernel⟩
abbrev t_l_draw : Stmt := topS 29
abbrev n_l_draw : List Str := ["_law_dice_here", "_law_sides", "_law_mixed_here", "_law_cell", "_law_digit"]
abbrev p_l_draw : List Str := ["_law_dice_here", "_law_sides"]
theorem sc_l_draw : FnScope n_l_draw p_l_draw (defScope t_l_draw) := ⟨rfl, rfl, rfl, by decide +kernel, rfl, by decide +kernel, by decide +kernel⟩
abbrev t_l_parts : Stmt := topS 30
abbrev n_l_parts : List Str := ["_law_dice_here", "_law_most", "_law_desks", "_law_kind", "_law_lots", "_law_turn", "_law_lot", "_law_desk"]
abbrev p_l_parts : List Str := ["_law_dice_here", "_law_most"]
theorem sc_l_parts : FnScope n_l_parts p_l_parts (defScope t_l_parts) := ⟨rfl, rfl, rfl, by decide +kernel, rfl, by decide +kernel, by decide +kernel⟩
abbrev t_l_made : Stmt := topS 31
abbrev n_l_made : List Str := ["_law_parts_here"]
abbrev p_l_made : List Str := ["_law_parts_here"]
theorem sc_l_made : FnScope n_l_made p_l_made (defScope t_l_made) := ⟨rfl, rfl, rfl, by decide +kernel, rfl, by decide +kernel, by decide +kernel⟩
abbrev t_l_some_parts : Stmt := topS 32
abbrev n_l_some_parts : List Str := ["_law_dice_here"]
abbrev p_l_some_parts : List Str := ["_law_dice_here"]
theorem sc_l_some_parts : FnScope n_l_some_parts p_l_some_parts (defScope t_l_some_parts) := ⟨rfl, rfl, rfl, by decide +kernel, rfl, by decide +kernel, by decide +kernel⟩
abbrev t_l_row : Stmt := topS 33
abbrev n_l_row : List Str := ["_law_dice_here", "_law_parts_here", "_law_most", "_law_turn"]
abbrev p_l_row : List Str := ["_law_dice_here", "_law_parts_here", "_law_most"]
theorem sc_l_row : FnScope n_l_row p_l_row (defScope t_l_row) := ⟨rfl, rfl, rfl, by decide +kernel, rfl, by decide +kernel, by decide +kernel⟩
abbrev t_l_meets : Stmt := topS 34
abbrev n_l_meets : List Str := ["_law_parts_here", "_law_one", "_law_other", "_law_desk"]
abbrev p_l_meets : List Str := ["_law_parts_here", "_law_one", "_law_other"]
theorem sc_l_meets : FnScope n_l_meets p_l_meets (defScope t_l_meets) := ⟨rfl, rfl, rfl, by decide +kernel, rfl, by decide +kernel, by decide +kernel⟩
abbrev t_l_flag : Stmt := topS 35
abbrev n_l_flag : List Str := ["_law_shown", "_law_due"]
abbrev p_l_flag : List Str := ["_law_shown", "_law_due"]
theorem sc_l_flag : FnScope n_l_flag p_l_flag (defScope t_l_flag) := ⟨rfl, rfl, rfl, by decide +kernel, rfl, by decide +kernel, by decide +kernel⟩
abbrev t_l_whole : Stmt := topS 36
abbrev n_l_whole : List Str := ["_law_shown", "_law_due"]
abbrev p_l_whole : List Str := ["_law_shown", "_law_due"]
theorem sc_l_whole : FnScope n_l_whole p_l_whole (defScope t_l_whole) := ⟨rfl, rfl, rfl, by decide +kernel, rfl, by decide +kernel, by decide +kernel⟩
abbrev t_l_same : Stmt := topS 37
abbrev n_l_same : List Str := ["_law_shown", "_law_due", "_law_at"]
abbrev p_l_same : List Str := ["_law_shown", "_law_due"]
theorem sc_l_same : FnScope n_l_same p_l_same (defScope t_l_same) := ⟨rfl, rfl, rfl, by decide +kernel, rfl, by decide +kernel, by decide +kernel⟩
abbrev t_l_near : Stmt := topS 38
abbrev n_l_near : List Str := ["_law_parts_here", "_law_numbers", "_law_one", "_law_other"]
abbrev p_l_near : List Str := ["_law_parts_here"]
theorem sc_l_near : FnScope n_l_near p_l_near (defScope t_l_near) := ⟨rfl, rfl, rfl, by decide +kernel, rfl, by decide +kernel, by decide +kernel⟩
abbrev t_l_exchanged : Stmt := topS 39
abbrev n_l_exchanged : List Str := ["_law_near_here", "_law_row_here", "_law_found", "_law_layer", "_law_later", "_law_here", "_law_at", "_law_there"]
abbrev p_l_exchanged : List Str := ["_law_near_here", "_law_row_here"]
theorem sc_l_exchanged : FnScope n_l_exchanged p_l_exchanged (defScope t_l_exchanged) := ⟨rfl, rfl, rfl, by decide +kernel, rfl, by decide +kernel, by decide +kernel⟩
abbrev t_l_mixed : Stmt := topS 40
abbrev n_l_mixed : List Str := ["_law_dice_here", "_law_near_here", "_law_row_here", "_law_turns", "_law_here", "_law_turn", "_law_at"]
abbrev p_l_mixed : List Str := ["_law_dice_here", "_law_near_here", "_law_row_here", "_law_turns"]
theorem sc_l_mixed : FnScope n_l_mixed p_l_mixed (defScope t_l_mixed) := ⟨rfl, rfl, rfl, by decide +kernel, rfl, by decide +kernel, by decide +kernel⟩
abbrev t_l_changed : Stmt := topS 41
abbrev n_l_changed : List Str := ["_law_dice_here", "_law_near_here", "_law_row_here", "_law_here", "_law_kind", "_law_at"]
abbrev p_l_changed : List Str := ["_law_dice_here", "_law_near_here", "_law_row_here"]
theorem sc_l_changed : FnScope n_l_changed p_l_changed (defScope t_l_changed) := ⟨rfl, rfl, rfl, by decide +kernel, rfl, by decide +kernel, by decide +kernel⟩
abbrev t_l_free_at : Stmt := topS 42
abbrev n_l_free_at : List Str := ["_law_near_here", "_law_row_here", "_law_work", "_law_at"]
abbrev p_l_free_at : List Str := ["_law_near_here", "_law_row_here", "_law_work"]
theorem sc_l_free_at : FnScope n_l_free_at p_l_free_at (defScope t_l_free_at) := ⟨rfl, rfl, rfl, by decide +kernel, rfl, by decide +kernel, by decide +kernel⟩
abbrev t_l_least : Stmt := topS 43
abbrev n_l_least : List Str := ["_law_near_here", "_law_row_here", "_law_left_here", "_law_found", "_law_turn", "_law_work", "_law_at"]
abbrev p_l_least : List Str := ["_law_near_here", "_law_row_here"]
theorem sc_l_least : FnScope n_l_least p_l_least (defScope t_l_least) := ⟨rfl, rfl, rfl, by decide +kernel, rfl, by decide +kernel, by decide +kernel⟩
abbrev t_l_left : Stmt := topS 44
abbrev n_l_left : List Str := ["_law_near_here", "_law_row_here", "_law_other", "_law_left_here", "_law_work", "_law_at"]
abbrev p_l_left : List Str := ["_law_near_here", "_law_row_here", "_law_other"]
theorem sc_l_left : FnScope n_l_left p_l_left (defScope t_l_left) := ⟨rfl, rfl, rfl, by decide +kernel, rfl, by decide +kernel, by decide +kernel⟩
abbrev t_l_by_all : Stmt := topS 45
abbrev n_l_by_all : List Str := ["_law_near_here", "_law_row_here", "_law_other", "_law_mine", "_law_found", "_law_whole_here"]
abbrev p_l_by_all : List Str := ["_law_near_here", "_law_row_here", "_law_other"]
theorem sc_l_by_all : FnScope n_l_by_all p_l_by_all (defScope t_l_by_all) := ⟨rfl, rfl, rfl, by decide +kernel, rfl, by decide +kernel, by decide +kernel⟩
abbrev t_l_right : Stmt := topS 46
abbrev n_l_right : List Str := ["_law_near_here", "_law_office", "_law_row_here", "_law_other", "_law_due"]
abbrev p_l_right : List Str := ["_law_near_here", "_law_office", "_law_row_here", "_law_other", "_law_due"]
theorem sc_l_right : FnScope n_l_right p_l_right (defScope t_l_right) := ⟨rfl, rfl, rfl, by decide +kernel, rfl, by decide +kernel, by decide +kernel⟩
abbrev t_law : Stmt := topS 47
abbrev n_law : List Str := ["_law_script", "_law_dice_here", "_law_turn", "_law_parts_here", "_law_office", "_law_near_here", "_law_whole_here", "_law_change", "_law_far", "_law_other", "_law_row_here", "_law_due", "_law_more"]
abbrev p_law : List Str := ["_law_script"]
theorem sc_law : FnScope n_law p_law (defScope t_law) := ⟨rfl, rfl, rfl, by decide +kernel, rfl, by decide +kernel, by decide +kernel⟩

/-- a def of the module under its name -/
structure Df (K : PySem.W.Frag) (mg : Str → Option Value) (x : Str) (st : Stmt) (ps : List Str) : Prop where
  ex : ∃ (f : Addr) (fd : FuncData), Fun K x x st f fd ∧ mg x = some (.ref f) ∧ Binds K fd ps []
/-- a def that may be called by its name -/
structure Cal (P : Program) (w : World) (K : PySem.W.Frag) (mg : Str → Option Value) (base : Heap) (k : Nat) (x : Str) (sp : Sp) : Prop where
  ex : ∃ (f : Addr) (fd : FuncData) (ps : List Str), FnOk P w K mg base CX0 k f fd ps sp ∧ mg x = some (.ref f) ∧ PySem.W.keepIn K (.ref f) = true ∧ Binds K fd ps []
section
variable {P : Program} {w : World} {K : PySem.W.Frag} {mg : Str → Option Value} {base : Heap}
theorem cal0 {x : Str} {st : Stmt} {N ps : List Str} {k : Nat} {sp : Sp} (D : Df K mg x st ps) (S : FnScope N ps (defScope st)) (len : ∀ vs H Q E, sp vs H Q E → vs.length = ps.length)
    (hbody : ∀ (f : Addr) (cdv : Value) (A : Around) (outer : List Env) (s : Shared) (H : Hp) (vs : List V) (Q : VK) (E : XK), Room k (A.deeper (envOfC x (defScope st) s.heap.objs.size f cdv)) → sp vs H Q E →
      ∃ t, PSs (cxOf CX0 P w K mg base N x (defScope st) f cdv A outer s H E).nox (defBody st) t ∧ t { nx := fun _ H' => Q .non H', rt := Q } (start N vs) H) : Cal P w K mg base (k + 1) x sp := by
  obtain ⟨f, fd, F, m, b⟩ := D.ex
  exact ⟨f, fd, ps, F.ok S len (hbody f), m, F.kp, b⟩
theorem Cal.mono {x : Str} {j k : Nat} {sp : Sp} (c : Cal P w K mg base j x sp) (h : j ≤ k) : Cal P w K mg base k x sp := by
  obtain ⟨f, fd, ps, F, m, kp, b⟩ := c.ex
  exact ⟨f, fd, ps, F.mono h, m, kp, b⟩
end
theorem pe_cal {X : Cx} {k j : Nat} {x : Str} {sp : Sp} {p pos : Pos} {e : Expr} {es : List Expr} {t : TA} (c : Cal X.prog X.w X.K X.mg X.base k x sp) (hr : Room j X.A) (ha : PA X (e :: es) t) (hk : k ≤ j := by decide) (hg : Gl X x := by rfl)
    (hdb : (x == ("__debug__" : Str)) = false := by decide) (he : starEach (e :: es) X.env = (false, eval e X.env) :: starEach es X.env := by rfl) (hpl : (backTo pos (starEach es X.env)).any (·.1) = false := by rfl) :
    PE X (.Call (.Name x p) (e :: es) [] pos) (tCall sp [] E0 t) := by
  obtain ⟨f, fd, ps, F, hm, kp, b⟩ := c.ex
  exact pe_call F (hr.mono hk) hg hm kp b .nil pass0 ha hdb he hpl

/-- what the top leaves -/
structure Top (K : PySem.W.Frag) (mg : Str → Option Value) : Prop where
  d_is_integer : Df K mg "is_integer" t_is_integer p_is_integer
  d_is_within : Df K mg "is_within" t_is_within p_is_within
  d_is_lot : Df K mg "is_lot" t_is_lot p_is_lot
  d_are_works : Df K mg "are_works" t_are_works p_are_works
  d_is_work : Df K mg "is_work" t_is_work p_is_work
  d_is_row_of : Df K mg "is_row_of" t_is_row_of p_is_row_of
  d_check_row : Df K mg "check_row" t_check_row p_check_row
  d_can_begin : Df K mg "can_begin" t_can_begin p_can_begin
  d_beginners : Df K mg "beginners" t_beginners p_beginners
  d_least_of : Df K mg "least_of" t_least_of p_least_of
  d_are_alike : Df K mg "are_alike" t_are_alike p_are_alike
  d_alike : Df K mg "alike" t_alike p_alike
  d_rest_behind : Df K mg "rest_behind" t_rest_behind p_rest_behind
  d_check_two : Df K mg "check_two" t_check_two p_check_two
  d_begins : Df K mg "begins" t_begins p_begins
  d_gone_on : Df K mg "gone_on" t_gone_on p_gone_on
  d_l_dice : Df K mg "_law_dice" t_l_dice p_l_dice
  d_l_draw : Df K mg "_law_draw" t_l_draw p_l_draw
  d_l_parts : Df K mg "_law_parts" t_l_parts p_l_parts
  d_l_made : Df K mg "_law_made" t_l_made p_l_made
  d_l_some_parts : Df K mg "_law_some_parts" t_l_some_parts p_l_some_parts
  d_l_row : Df K mg "_law_row" t_l_row p_l_row
  d_l_meets : Df K mg "_law_meets" t_l_meets p_l_meets
  d_l_flag : Df K mg "_law_flag" t_l_flag p_l_flag
  d_l_whole : Df K mg "_law_whole" t_l_whole p_l_whole
  d_l_same : Df K mg "_law_same" t_l_same p_l_same
  d_l_near : Df K mg "_law_near" t_l_near p_l_near
  d_l_exchanged : Df K mg "_law_exchanged" t_l_exchanged p_l_exchanged
  d_l_mixed : Df K mg "_law_mixed" t_l_mixed p_l_mixed
  d_l_changed : Df K mg "_law_changed" t_l_changed p_l_changed
  d_l_free_at : Df K mg "_law_free_at" t_l_free_at p_l_free_at
  d_l_least : Df K mg "_law_least" t_l_least p_l_least
  d_l_left : Df K mg "_law_left" t_l_left p_l_left
  d_l_by_all : Df K mg "_law_by_all" t_l_by_all p_l_by_all
  d_l_right : Df K mg "_law_right" t_l_right p_l_right
  d_law : Df K mg "law" t_law p_law
  c_MOST_DESKS : ∃ t : Tok, mg "MOST_DESKS" = some (.int 6 t)
  c_MOST_WORKS : ∃ t : Tok, mg "MOST_WORKS" = some (.int 10 t)
  b_isinstance : mg "isinstance" = none
  b_all : mg "all" = none
  b_any : mg "any" = none
  b_len : mg "len" = none
  b_range : mg "range" = none
  b_tuple : mg "tuple" = none
  b_enumerate : mg "enumerate" = none
  b_list : mg "list" = none
  b_sorted : mg "sorted" = none
  b_abs : mg "abs" = none
  b_int : mg "int" = none
  b_set : mg "set" = none
  b_min : mg "min" = none
  b_bool : mg "bool" = none
  b_str : mg "str" = none
  office : ∃ (C f : Addr) (fd : FuncData), mg "Office" = some (.ref C) ∧ Mk K C f ∧ Fun K "__init__" "Office.__init__" t_office f fd ∧ Binds K fd p_office [] ∧ Cls K C ∧ NoAttr K C "desks" ∧ NoAttr K C "works" ∧ NoAttr K C "kept_own" ∧ NoAttr K C "kept_meets"
theorem top_mk {K : PySem.W.Frag} {h : Heap} {mg : Str → Option Value} (X : K.In h) (G : h.Ns mainGlobals mg)
    {C : Addr} {f0 : Addr} {od0 an0 : Option Addr} {sl0 : Array (Option Value)} {oc0 kV0 dc0 pm0 cd0 ct0 : Value}
    {f1 : Addr} {od1 an1 : Option Addr} {sl1 : Array (Option Value)} {oc1 kV1 dc1 pm1 cd1 ct1 : Value}
    {f2 : Addr} {od2 an2 : Option Addr} {sl2 : Array (Option Value)} {oc2 kV2 dc2 pm2 cd2 ct2 : Value}
    {f3 : Addr} {od3 an3 : Option Addr} {sl3 : Array (Option Value)} {oc3 kV3 dc3 pm3 cd3 ct3 : Value}
    {f4 : Addr} {od4 an4 : Option Addr} {sl4 : Array (Option Value)} {oc4 kV4 dc4 pm4 cd4 ct4 : Value}
    {f5 : Addr} {od5 an5 : Option Addr} {sl5 : Array (Option Value)} {oc5 kV5 dc5 pm5 cd5 ct5 : Value}
    {f6 : Addr} {od6 an6 : Option Addr} {sl6 : Array (Option Value)} {oc6 kV6 dc6 pm6 cd6 ct6 : Value}
    {f7 : Addr} {od7 an7 : Option Addr} {sl7 : Array (Option Value)} {oc7 kV7 dc7 pm7 cd7 ct7 : Value}
    {f8 : Addr} {od8 an8 : Option Addr} {sl8 : Array (Option Value)} {oc8 kV8 dc8 pm8 cd8 ct8 : Value}
    {f9 : Addr} {od9 an9 : Option Addr} {sl9 : Array (Option Value)} {oc9 kV9 dc9 pm9 cd9 ct9 : Value}
    {f10 : Addr} {od10 an10 : Option Addr} {sl10 : Array (Option Value)} {oc10 kV10 dc10 pm10 cd10 ct10 : Value}
    {f11 : Addr} {od11 an11 : Option Addr} {sl11 : Array (Option Value)} {oc11 kV11 dc11 pm11 cd11 ct11 : Value}
    {f12 : Addr} {od12 an12 : Option Addr} {sl12 : Array (Option Value)} {oc12 kV12 dc12 pm12 cd12 ct12 : Value}
    {f13 : Addr} {od13 an13 : Option Addr} {sl13 : Array (Option Value)} {oc13 kV13 dc13 pm13 cd13 ct13 : Value}
    {f14 : Addr} {od14 an14 : Option Addr} {sl14 : Array (Option Value)} {oc14 kV14 dc14 pm14 cd14 ct14 : Value}
    {f15 : Addr} {od15 an15 : Option Addr} {sl15 : Array (Option Value)} {oc15 kV15 dc15 pm15 cd15 ct15 : Value}
    {f16 : Addr} {od16 an16 : Option Addr} {sl16 : Array (Option Value)} {oc16 kV16 dc16 pm16 cd16 ct16 : Value}
    {f17 : Addr} {od17 an17 : Option Addr} {sl17 : Array (Option Value)} {oc17 kV17 dc17 pm17 cd17 ct17 : Value}
    {f18 : Addr} {od18 an18 : Option Addr} {sl18 : Array (Option Value)} {oc18 kV18 dc18 pm18 cd18 ct18 : Value}
    {f19 : Addr} {od19 an19 : Option Addr} {sl19 : Array (Option Value)} {oc19 kV19 dc19 pm19 cd19 ct19 : Value}
    {f20 : Addr} {od20 an20 : Option Addr} {sl20 : Array (Option Value)} {oc20 kV20 dc20 pm20 cd20 ct20 : Value}
    {f21 : Addr} {od21 an21 : Option Addr} {sl21 : Array (Option Value)} {oc21 kV21 dc21 pm21 cd21 ct21 : Value}
    {f22 : Addr} {od22 an22 : Option Addr} {sl22 : Array (Option Value)} {oc22 kV22 dc22 pm22 cd22 ct22 : Value}
    {f23 : Addr} {od23 an23 : Option Addr} {sl23 : Array (Option Value)} {oc23 kV23 dc23 pm23 cd23 ct23 : Value}
    {f24 : Addr} {od24 an24 : Option Addr} {sl24 : Array (Option Value)} {oc24 kV24 dc24 pm24 cd24 ct24 : Value}
    {f25 : Addr} {od25 an25 : Option Addr} {sl25 : Array (Option Value)} {oc25 kV25 dc25 pm25 cd25 ct25 : Value}
    {f26 : Addr} {od26 an26 : Option Addr} {sl26 : Array (Option Value)} {oc26 kV26 dc26 pm26 cd26 ct26 : Value}
    {f27 : Addr} {od27 an27 : Option Addr} {sl27 : Array (Option Value)} {oc27 kV27 dc27 pm27 cd27 ct27 : Value}
    {f28 : Addr} {od28 an28 : Option Addr} {sl28 : Array (Option Value)} {oc28 kV28 dc28 pm28 cd28 ct28 : Value}
    {f29 : Addr} {od29 an29 : Option Addr} {sl29 : Array (Option Value)} {oc29 kV29 dc29 pm29 cd29 ct29 : Value}
    {f30 : Addr} {od30 an30 : Option Addr} {sl30 : Array (Option Value)} {oc30 kV30 dc30 pm30 cd30 ct30 : Value}
    {f31 : Addr} {od31 an31 : Option Addr} {sl31 : Array (Option Value)} {oc31 kV31 dc31 pm31 cd31 ct31 : Value}
    {f32 : Addr} {od32 an32 : Option Addr} {sl32 : Array (Option Value)} {oc32 kV32 dc32 pm32 cd32 ct32 : Value}
    {f33 : Addr} {od33 an33 : Option Addr} {sl33 : Array (Option Value)} {oc33 kV33 dc33 pm33 cd33 ct33 : Value}
    {f34 : Addr} {od34 an34 : Option Addr} {sl34 : Array (Option Value)} {oc34 kV34 dc34 pm34 cd34 ct34 : Value}
    {f35 : Addr} {od35 an35 : Option Addr} {sl35 : Array (Option Value)} {oc35 kV35 dc35 pm35 cd35 ct35 : Value}
    {f36 : Addr} {od36 an36 : Option Addr} {sl36 : Array (Option Value)} {oc36 kV36 dc36 pm36 cd36 ct36 : Value}
    {t_MOST_DESKS : Tok}
    {t_MOST_WORKS : Tok}
    (a0 : PySem.W.nsIn K mainGlobals "is_integer" = some (some (.ref f0)))
    (l0 : K.lookup f0 = some ⟨oc0, od0, .func (PySem.W.fnOf "is_integer" "is_integer" (defArgs t_is_integer) (defBody t_is_integer) (defScope t_is_integer) .none kV0 dc0 pm0 an0 cd0 ct0), sl0⟩) (c0 : PySem.W.codeIn K cd0 "is_integer" = true) (k0 : PySem.W.keepIn K (.ref f0) = true)
    (a1 : PySem.W.nsIn K mainGlobals "is_within" = some (some (.ref f1)))
    (l1 : K.lookup f1 = some ⟨oc1, od1, .func (PySem.W.fnOf "is_within" "is_within" (defArgs t_is_within) (defBody t_is_within) (defScope t_is_within) .none kV1 dc1 pm1 an1 cd1 ct1), sl1⟩) (c1 : PySem.W.codeIn K cd1 "is_within" = true) (k1 : PySem.W.keepIn K (.ref f1) = true)
    (a2 : PySem.W.nsIn K mainGlobals "is_lot" = some (some (.ref f2)))
    (l2 : K.lookup f2 = some ⟨oc2, od2, .func (PySem.W.fnOf "is_lot" "is_lot" (defArgs t_is_lot) (defBody t_is_lot) (defScope t_is_lot) .none kV2 dc2 pm2 an2 cd2 ct2), sl2⟩) (c2 : PySem.W.codeIn K cd2 "is_lot" = true) (k2 : PySem.W.keepIn K (.ref f2) = true)
    (a3 : PySem.W.nsIn K mainGlobals "are_works" = some (some (.ref f3)))
    (l3 : K.lookup f3 = some ⟨oc3, od3, .func (PySem.W.fnOf "are_works" "are_works" (defArgs t_are_works) (defBody t_are_works) (defScope t_are_works) .none kV3 dc3 pm3 an3 cd3 ct3), sl3⟩) (c3 : PySem.W.codeIn K cd3 "are_works" = true) (k3 : PySem.W.keepIn K (.ref f3) = true)
    (aC : PySem.W.nsIn K mainGlobals "Office" = some (some (.ref C))) (a4 : PySem.W.findIn K (.ref C) "__init__" = some (some (.ref f4))) (i4 : PySem.W.isFn K (.ref f4) = true)
    (l4 : K.lookup f4 = some ⟨oc4, od4, .func (PySem.W.fnOf "__init__" "Office.__init__" (defArgs t_office) (defBody t_office) (defScope t_office) .none kV4 dc4 pm4 an4 cd4 ct4), sl4⟩) (c4 : PySem.W.codeIn K cd4 "Office.__init__" = true) (k4 : PySem.W.keepIn K (.ref f4) = true)
    (a5 : PySem.W.nsIn K mainGlobals "is_work" = some (some (.ref f5)))
    (l5 : K.lookup f5 = some ⟨oc5, od5, .func (PySem.W.fnOf "is_work" "is_work" (defArgs t_is_work) (defBody t_is_work) (defScope t_is_work) .none kV5 dc5 pm5 an5 cd5 ct5), sl5⟩) (c5 : PySem.W.codeIn K cd5 "is_work" = true) (k5 : PySem.W.keepIn K (.ref f5) = true)
    (a6 : PySem.W.nsIn K mainGlobals "is_row_of" = some (some (.ref f6)))
    (l6 : K.lookup f6 = some ⟨oc6, od6, .func (PySem.W.fnOf "is_row_of" "is_row_of" (defArgs t_is_row_of) (defBody t_is_row_of) (defScope t_is_row_of) .none kV6 dc6 pm6 an6 cd6 ct6), sl6⟩) (c6 : PySem.W.codeIn K cd6 "is_row_of" = true) (k6 : PySem.W.keepIn K (.ref f6) = true)
    (a7 : PySem.W.nsIn K mainGlobals "check_row" = some (some (.ref f7)))
    (l7 : K.lookup f7 = some ⟨oc7, od7, .func (PySem.W.fnOf "check_row" "check_row" (defArgs t_check_row) (defBody t_check_row) (defScope t_check_row) .none kV7 dc7 pm7 an7 cd7 ct7), sl7⟩) (c7 : PySem.W.codeIn K cd7 "check_row" = true) (k7 : PySem.W.keepIn K (.ref f7) = true)
    (a8 : PySem.W.nsIn K mainGlobals "can_begin" = some (some (.ref f8)))
    (l8 : K.lookup f8 = some ⟨oc8, od8, .func (PySem.W.fnOf "can_begin" "can_begin" (defArgs t_can_begin) (defBody t_can_begin) (defScope t_can_begin) .none kV8 dc8 pm8 an8 cd8 ct8), sl8⟩) (c8 : PySem.W.codeIn K cd8 "can_begin" = true) (k8 : PySem.W.keepIn K (.ref f8) = true)
    (a9 : PySem.W.nsIn K mainGlobals "beginners" = some (some (.ref f9)))
    (l9 : K.lookup f9 = some ⟨oc9, od9, .func (PySem.W.fnOf "beginners" "beginners" (defArgs t_beginners) (defBody t_beginners) (defScope t_beginners) .none kV9 dc9 pm9 an9 cd9 ct9), sl9⟩) (c9 : PySem.W.codeIn K cd9 "beginners" = true) (k9 : PySem.W.keepIn K (.ref f9) = true)
    (a10 : PySem.W.nsIn K mainGlobals "least_of" = some (some (.ref f10)))
    (l10 : K.lookup f10 = some ⟨oc10, od10, .func (PySem.W.fnOf "least_of" "least_of" (defArgs t_least_of) (defBody t_least_of) (defScope t_least_of) .none kV10 dc10 pm10 an10 cd10 ct10), sl10⟩) (c10 : PySem.W.codeIn K cd10 "least_of" = true) (k10 : PySem.W.keepIn K (.ref f10) = true)
    (a11 : PySem.W.nsIn K mainGlobals "are_alike" = some (some (.ref f11)))
    (l11 : K.lookup f11 = some ⟨oc11, od11, .func (PySem.W.fnOf "are_alike" "are_alike" (defArgs t_are_alike) (defBody t_are_alike) (defScope t_are_alike) .none kV11 dc11 pm11 an11 cd11 ct11), sl11⟩) (c11 : PySem.W.codeIn K cd11 "are_alike" = true) (k11 : PySem.W.keepIn K (.ref f11) = true)
    (a12 : PySem.W.nsIn K mainGlobals "alike" = some (some (.ref f12)))
    (l12 : K.lookup f12 = some ⟨oc12, od12, .func (PySem.W.fnOf "alike" "alike" (defArgs t_alike) (defBody t_alike) (defScope t_alike) .none kV12 dc12 pm12 an12 cd12 ct12), sl12⟩) (c12 : PySem.W.codeIn K cd12 "alike" = true) (k12 : PySem.W.keepIn K (.ref f12) = true)
    (a13 : PySem.W.nsIn K mainGlobals "rest_behind" = some (some (.ref f13)))
    (l13 : K.lookup f13 = some ⟨oc13, od13, .func (PySem.W.fnOf "rest_behind" "rest_behind" (defArgs t_rest_behind) (defBody t_rest_behind) (defScope t_rest_behind) .none kV13 dc13 pm13 an13 cd13 ct13), sl13⟩) (c13 : PySem.W.codeIn K cd13 "rest_behind" = true) (k13 : PySem.W.keepIn K (.ref f13) = true)
    (a14 : PySem.W.nsIn K mainGlobals "check_two" = some (some (.ref f14)))
    (l14 : K.lookup f14 = some ⟨oc14, od14, .func (PySem.W.fnOf "check_two" "check_two" (defArgs t_check_two) (defBody t_check_two) (defScope t_check_two) .none kV14 dc14 pm14 an14 cd14 ct14), sl14⟩) (c14 : PySem.W.codeIn K cd14 "check_two" = true) (k14 : PySem.W.keepIn K (.ref f14) = true)
    (a15 : PySem.W.nsIn K mainGlobals "begins" = some (some (.ref f15)))
    (l15 : K.lookup f15 = some ⟨oc15, od15, .func (PySem.W.fnOf "begins" "begins" (defArgs t_begins) (defBody t_begins) (defScope t_begins) .none kV15 dc15 pm15 an15 cd15 ct15), sl15⟩) (c15 : PySem.W.codeIn K cd15 "begins" = true) (k15 : PySem.W.keepIn K (.ref f15) = true)
    (a16 : PySem.W.nsIn K mainGlobals "gone_on" = some (some (.ref f16)))
    (l16 : K.lookup f16 = some ⟨oc16, od16, .func (PySem.W.fnOf "gone_on" "gone_on" (defArgs t_gone_on) (defBody t_gone_on) (defScope t_gone_on) .none kV16 dc16 pm16 an16 cd16 ct16), sl16⟩) (c16 : PySem.W.codeIn K cd16 "gone_on" = true) (k16 : PySem.W.keepIn K (.ref f16) = true)
    (a17 : PySem.W.nsIn K mainGlobals "_law_dice" = some (some (.ref f17)))
    (l17 : K.lookup f17 = some ⟨oc17, od17, .func (PySem.W.fnOf "_law_dice" "_law_dice" (defArgs t_l_dice) (defBody t_l_dice) (defScope t_l_dice) .none kV17 dc17 pm17 an17 cd17 ct17), sl17⟩) (c17 : PySem.W.codeIn K cd17 "_law_dice" = true) (k17 : PySem.W.keepIn K (.ref f17) = true)
    (a18 : PySem.W.nsIn K mainGlobals "_law_draw" = some (some (.ref f18)))
    (l18 : K.lookup f18 = some ⟨oc18, od18, .func (PySem.W.fnOf "_law_draw" "_law_draw" (defArgs t_l_draw) (defBody t_l_draw) (defScope t_l_draw) .none kV18 dc18 pm18 an18 cd18 ct18), sl18⟩) (c18 : PySem.W.codeIn K cd18 "_law_draw" = true) (k18 : PySem.W.keepIn K (.ref f18) = true)
    (a19 : PySem.W.nsIn K mainGlobals "_law_parts" = some (some (.ref f19)))
    (l19 : K.lookup f19 = some ⟨oc19, od19, .func (PySem.W.fnOf "_law_parts" "_law_parts" (defArgs t_l_parts) (defBody t_l_parts) (defScope t_l_parts) .none kV19 dc19 pm19 an19 cd19 ct19), sl19⟩) (c19 : PySem.W.codeIn K cd19 "_law_parts" = true) (k19 : PySem.W.keepIn K (.ref f19) = true)
    (a20 : PySem.W.nsIn K mainGlobals "_law_made" = some (some (.ref f20)))
    (l20 : K.lookup f20 = some ⟨oc20, od20, .func (PySem.W.fnOf "_law_made" "_law_made" (defArgs t_l_made) (defBody t_l_made) (defScope t_l_made) .none kV20 dc20 pm20 an20 cd20 ct20), sl20⟩) (c20 : PySem.W.codeIn K cd20 "_law_made" = true) (k20 : PySem.W.keepIn K (.ref f20) = true)
    (a21 : PySem.W.nsIn K mainGlobals "_law_some_parts" = some (some (.ref f21)))
    (l21 : K.lookup f21 = some ⟨oc21, od21, .func (PySem.W.fnOf "_law_some_parts" "_law_some_parts" (defArgs t_l_some_parts) (defBody t_l_some_parts) (defScope t_l_some_parts) .none kV21 dc21 pm21 an21 cd21 ct21), sl21⟩) (c21 : PySem.W.codeIn K cd21 "_law_some_parts" = true) (k21 : PySem.W.keepIn K (.ref f21) = true)
    (a22 : PySem.W.nsIn K mainGlobals "_law_row" = some (some (.ref f22)))
    (l22 : K.lookup f22 = some ⟨oc22, od22, .func (PySem.W.fnOf "_law_row" "_law_row" (defArgs t_l_row) (defBody t_l_row) (defScope t_l_row) .none kV22 dc22 pm22 an22 cd22 ct22), sl22⟩) (c22 : PySem.W.codeIn K cd22 "_law_row" = true) (k22 : PySem.W.keepIn K (.ref f22) = true)
    (a23 : PySem.W.nsIn K mainGlobals "_law_meets" = some (some (.ref f23)))
    (l23 : K.lookup f23 = some ⟨oc23, od23, .func (PySem.W.fnOf "_law_meets" "_law_meets" (defArgs t_l_meets) (defBody t_l_meets) (defScope t_l_meets) .none kV23 dc23 pm23 an23 cd23 ct23), sl23⟩) (c23 : PySem.W.codeIn K cd23 "_law_meets" = true) (k23 : PySem.W.keepIn K (.ref f23) = true)
    (a24 : PySem.W.nsIn K mainGlobals "_law_flag" = some (some (.ref f24)))
    (l24 : K.lookup f24 = some ⟨oc24, od24, .func (PySem.W.fnOf "_law_flag" "_law_flag" (defArgs t_l_flag) (defBody t_l_flag) (defScope t_l_flag) .none kV24 dc24 pm24 an24 cd24 ct24), sl24⟩) (c24 : PySem.W.codeIn K cd24 "_law_flag" = true) (k24 : PySem.W.keepIn K (.ref f24) = true)
    (a25 : PySem.W.nsIn K mainGlobals "_law_whole" = some (some (.ref f25)))
    (l25 : K.lookup f25 = some ⟨oc25, od25, .func (PySem.W.fnOf "_law_whole" "_law_whole" (defArgs t_l_whole) (defBody t_l_whole) (defScope t_l_whole) .none kV25 dc25 pm25 an25 cd25 ct25), sl25⟩) (c25 : PySem.W.codeIn K cd25 "_law_whole" = true) (k25 : PySem.W.keepIn K (.ref f25) = true)
    (a26 : PySem.W.nsIn K mainGlobals "_law_same" = some (some (.ref f26)))
    (l26 : K.lookup f26 = some ⟨oc26, od26, .func (PySem.W.fnOf "_law_same" "_law_same" (defArgs t_l_same) (defBody t_l_same) (defScope t_l_same) .none kV26 dc26 pm26 an26 cd26 ct26), sl26⟩) (c26 : PySem.W.codeIn K cd26 "_law_same" = true) (k26 : PySem.W.keepIn K (.ref f26) = true)
    (a27 : PySem.W.nsIn K mainGlobals "_law_near" = some (some (.ref f27)))
    (l27 : K.lookup f27 = some ⟨oc27, od27, .func (PySem.W.fnOf "_law_near" "_law_near" (defArgs t_l_near) (defBody t_l_near) (defScope t_l_near) .none kV27 dc27 pm27 an27 cd27 ct27), sl27⟩) (c27 : PySem.W.codeIn K cd27 "_law_near" = true) (k27 : PySem.W.keepIn K (.ref f27) = true)
    (a28 : PySem.W.nsIn K mainGlobals "_law_exchanged" = some (some (.ref f28)))
    (l28 : K.lookup f28 = some ⟨oc28, od28, .func (PySem.W.fnOf "_law_exchanged" "_law_exchanged" (defArgs t_l_exchanged) (defBody t_l_exchanged) (defScope t_l_exchanged) .none kV28 dc28 pm28 an28 cd28 ct28), sl28⟩) (c28 : PySem.W.codeIn K cd28 "_law_exchanged" = true) (k28 : PySem.W.keepIn K (.ref f28) = true)
    (a29 : PySem.W.nsIn K mainGlobals "_law_mixed" = some (some (.ref f29)))
    (l29 : K.lookup f29 = some ⟨oc29, od29, .func (PySem.W.fnOf "_law_mixed" "_law_mixed" (defArgs t_l_mixed) (defBody t_l_mixed) (defScope t_l_mixed) .none kV29 dc29 pm29 an29 cd29 ct29), sl29⟩) (c29 : PySem.W.codeIn K cd29 "_law_mixed" = true) (k29 : PySem.W.keepIn K (.ref f29) = true)
    (a30 : PySem.W.nsIn K mainGlobals "_law_changed" = some (some (.ref f30)))
    (l30 : K.lookup f30 = some ⟨oc30, od30, .func (PySem.W.fnOf "_law_changed" "_law_changed" (defArgs t_l_changed) (defBody t_l_changed) (defScope t_l_changed) .none kV30 dc30 pm30 an30 cd30 ct30), sl30⟩) (c30 : PySem.W.codeIn K cd30 "_law_changed" = true) (k30 : PySem.W.keepIn K (.ref f30) = true)
    (a31 : PySem.W.nsIn K mainGlobals "_law_free_at" = some (some (.ref f31)))
    (l31 : K.lookup f31 = some ⟨oc31, od31, .func (PySem.W.fnOf "_law_free_at" "_law_free_at" (defArgs t_l_free_at) (defBody t_l_free_at) (defScope t_l_free_at) .none kV31 dc31 pm31 an31 cd31 ct31), sl31⟩) (c31 : PySem.W.codeIn K cd31 "_law_free_at" = true) (k31 : PySem.W.keepIn K (.ref f31) = true)
    (a32 : PySem.W.nsIn K mainGlobals "_law_least" = some (some (.ref f32)))
    (l32 : K.lookup f32 = some ⟨oc32, od32, .func (PySem.W.fnOf "_law_least" "_law_least" (defArgs t_l_least) (defBody t_l_least) (defScope t_l_least) .none kV32 dc32 pm32 an32 cd32 ct32), sl32⟩) (c32 : PySem.W.codeIn K cd32 "_law_least" = true) (k32 : PySem.W.keepIn K (.ref f32) = true)
    (a33 : PySem.W.nsIn K mainGlobals "_law_left" = some (some (.ref f33)))
    (l33 : K.lookup f33 = some ⟨oc33, od33, .func (PySem.W.fnOf "_law_left" "_law_left" (defArgs t_l_left) (defBody t_l_left) (defScope t_l_left) .none kV33 dc33 pm33 an33 cd33 ct33), sl33⟩) (c33 : PySem.W.codeIn K cd33 "_law_left" = true) (k33 : PySem.W.keepIn K (.ref f33) = true)
    (a34 : PySem.W.nsIn K mainGlobals "_law_by_all" = some (some (.ref f34)))
    (l34 : K.lookup f34 = some ⟨oc34, od34, .func (PySem.W.fnOf "_law_by_all" "_law_by_all" (defArgs t_l_by_all) (defBody t_l_by_all) (defScope t_l_by_all) .none kV34 dc34 pm34 an34 cd34 ct34), sl34⟩) (c34 : PySem.W.codeIn K cd34 "_law_by_all" = true) (k34 : PySem.W.keepIn K (.ref f34) = true)
    (a35 : PySem.W.nsIn K mainGlobals "_law_right" = some (some (.ref f35)))
    (l35 : K.lookup f35 = some ⟨oc35, od35, .func (PySem.W.fnOf "_law_right" "_law_right" (defArgs t_l_right) (defBody t_l_right) (defScope t_l_right) .none kV35 dc35 pm35 an35 cd35 ct35), sl35⟩) (c35 : PySem.W.codeIn K cd35 "_law_right" = true) (k35 : PySem.W.keepIn K (.ref f35) = true)
    (a36 : PySem.W.nsIn K mainGlobals "law" = some (some (.ref f36)))
    (l36 : K.lookup f36 = some ⟨oc36, od36, .func (PySem.W.fnOf "law" "law" (defArgs t_law) (defBody t_law) (defScope t_law) .none kV36 dc36 pm36 an36 cd36 ct36), sl36⟩) (c36 : PySem.W.codeIn K cd36 "law" = true) (k36 : PySem.W.keepIn K (.ref f36) = true)
    (z_MOST_DESKS : PySem.W.nsIn K mainGlobals "MOST_DESKS" = some (some (.int 6 t_MOST_DESKS)))
    (z_MOST_WORKS : PySem.W.nsIn K mainGlobals "MOST_WORKS" = some (some (.int 10 t_MOST_WORKS)))
    (y_isinstance : PySem.W.nsIn K mainGlobals "isinstance" = some none)
    (y_all : PySem.W.nsIn K mainGlobals "all" = some none)
    (y_any : PySem.W.nsIn K mainGlobals "any" = some none)
    (y_len : PySem.W.nsIn K mainGlobals "len" = some none)
    (y_range : PySem.W.nsIn K mainGlobals "range" = some none)
    (y_tuple : PySem.W.nsIn K mainGlobals "tuple" = some none)
    (y_enumerate : PySem.W.nsIn K mainGlobals "enumerate" = some none)
    (y_list : PySem.W.nsIn K mainGlobals "list" = some none)
    (y_sorted : PySem.W.nsIn K mainGlobals "sorted" = some none)
    (y_abs : PySem.W.nsIn K mainGlobals "abs" = some none)
    (y_int : PySem.W.nsIn K mainGlobals "int" = some none)
    (y_set : PySem.W.nsIn K mainGlobals "set" = some none)
    (y_min : PySem.W.nsIn K mainGlobals "min" = some none)
    (y_bool : PySem.W.nsIn K mainGlobals "bool" = some none)
    (y_str : PySem.W.nsIn K mainGlobals "str" = some none)
    (pg : PySem.W.plainGet K C Str.empty = true) (hd : PySem.W.hasDictIn K C = true) (po : PySem.W.plainOver K C = true) (sa : PySem.W.findIn K (.ref C) "__setattr__" = some (some (.builtin "object.__setattr__"))) (mk : PySem.W.makesIn K C = true) (kc : PySem.W.keepIn K (.ref C) = true)
    (nf_desks : PySem.W.findIn K (.ref C) "desks" = some none)
    (nf_works : PySem.W.findIn K (.ref C) "works" = some none)
    (nf_kept_own : PySem.W.findIn K (.ref C) "kept_own" = some none)
    (nf_kept_meets : PySem.W.findIn K (.ref C) "kept_meets" = some none) : Top K mg := by
  have F0 := fun_mk (st := t_is_integer) l0 c0 k0
  have B0 := F0.binds (ps := p_is_integer) fun _ _ _ _ _ _ us hl => match us, hl with | [_], _ => rfl
  have F1 := fun_mk (st := t_is_within) l1 c1 k1
  have B1 := F1.binds (ps := p_is_within) fun _ _ _ _ _ _ us hl => match us, hl with | [_, _, _], _ => rfl
  have F2 := fun_mk (st := t_is_lot) l2 c2 k2
  have B2 := F2.binds (ps := p_is_lot) fun _ _ _ _ _ _ us hl => match us, hl with | [_, _], _ => rfl
  have F3 := fun_mk (st := t_are_works) l3 c3 k3
  have B3 := F3.binds (ps := p_are_works) fun _ _ _ _ _ _ us hl => match us, hl with | [_, _], _ => rfl
  have F4 := fun_mk (st := t_office) l4 c4 k4
  have B4 := F4.binds (ps := p_office) fun _ _ _ _ _ _ us hl => match us, hl with | [_, _, _], _ => rfl
  have F5 := fun_mk (st := t_is_work) l5 c5 k5
  have B5 := F5.binds (ps := p_is_work) fun _ _ _ _ _ _ us hl => match us, hl with | [_, _], _ => rfl
  have F6 := fun_mk (st := t_is_row_of) l6 c6 k6
  have B6 := F6.binds (ps := p_is_row_of) fun _ _ _ _ _ _ us hl => match us, hl with | [_, _], _ => rfl
  have F7 := fun_mk (st := t_check_row) l7 c7 k7
  have B7 := F7.binds (ps := p_check_row) fun _ _ _ _ _ _ us hl => match us, hl with | [_, _], _ => rfl
  have F8 := fun_mk (st := t_can_begin) l8 c8 k8
  have B8 := F8.binds (ps := p_can_begin) fun _ _ _ _ _ _ us hl => match us, hl with | [_, _, _], _ => rfl
  have F9 := fun_mk (st := t_beginners) l9 c9 k9
  have B9 := F9.binds (ps := p_beginners) fun _ _ _ _ _ _ us hl => match us, hl with | [_, _], _ => rfl
  have F10 := fun_mk (st := t_least_of) l10 c10 k10
  have B10 := F10.binds (ps := p_least_of) fun _ _ _ _ _ _ us hl => match us, hl with | [_, _], _ => rfl
  have F11 := fun_mk (st := t_are_alike) l11 c11 k11
  have B11 := F11.binds (ps := p_are_alike) fun _ _ _ _ _ _ us hl => match us, hl with | [_, _, _], _ => rfl
  have F12 := fun_mk (st := t_alike) l12 c12 k12
  have B12 := F12.binds (ps := p_alike) fun _ _ _ _ _ _ us hl => match us, hl with | [_, _, _], _ => rfl
  have F13 := fun_mk (st := t_rest_behind) l13 c13 k13
  have B13 := F13.binds (ps := p_rest_behind) fun _ _ _ _ _ _ us hl => match us, hl with | [_, _, _], _ => rfl
  have F14 := fun_mk (st := t_check_two) l14 c14 k14
  have B14 := F14.binds (ps := p_check_two) fun _ _ _ _ _ _ us hl => match us, hl with | [_, _, _], _ => rfl
  have F15 := fun_mk (st := t_begins) l15 c15 k15
  have B15 := F15.binds (ps := p_begins) fun _ _ _ _ _ _ us hl => match us, hl with | [_, _, _], _ => rfl
  have F16 := fun_mk (st := t_gone_on) l16 c16 k16
  have B16 := F16.binds (ps := p_gone_on) fun _ _ _ _ _ _ us hl => match us, hl with | [_, _, _], _ => rfl
  have F17 := fun_mk (st := t_l_dice) l17 c17 k17
  have B17 := F17.binds (ps := p_l_dice) fun _ _ _ _ _ _ us hl => match us, hl with | [_], _ => rfl
  have F18 := fun_mk (st := t_l_draw) l18 c18 k18
  have B18 := F18.binds (ps := p_l_draw) fun _ _ _ _ _ _ us hl => match us, hl with | [_, _], _ => rfl
  have F19 := fun_mk (st := t_l_parts) l19 c19 k19
  have B19 := F19.binds (ps := p_l_parts) fun _ _ _ _ _ _ us hl => match us, hl with | [_, _], _ => rfl
  have F20 := fun_mk (st := t_l_made) l20 c20 k20
  have B20 := F20.binds (ps := p_l_made) fun _ _ _ _ _ _ us hl => match us, hl with | [_], _ => rfl
  have F21 := fun_mk (st := t_l_some_parts) l21 c21 k21
  have B21 := F21.binds (ps := p_l_some_parts) fun _ _ _ _ _ _ us hl => match us, hl with | [_], _ => rfl
  have F22 := fun_mk (st := t_l_row) l22 c22 k22
  have B22 := F22.binds (ps := p_l_row) fun _ _ _ _ _ _ us hl => match us, hl with | [_, _, _], _ => rfl
  have F23 := fun_mk (st := t_l_meets) l23 c23 k23
  have B23 := F23.binds (ps := p_l_meets) fun _ _ _ _ _ _ us hl => match us, hl with | [_, _, _], _ => rfl
  have F24 := fun_mk (st := t_l_flag) l24 c24 k24
  have B24 := F24.binds (ps := p_l_flag) fun _ _ _ _ _ _ us hl => match us, hl with | [_, _], _ => rfl
  have F25 := fun_mk (st := t_l_whole) l25 c25 k25
  have B25 := F25.binds (ps := p_l_whole) fun _ _ _ _ _ _ us hl => match us, hl with | [_, _], _ => rfl
  have F26 := fun_mk (st := t_l_same) l26 c26 k26
  have B26 := F26.binds (ps := p_l_same) fun _ _ _ _ _ _ us hl => match us, hl with | [_, _], _ => rfl
  have F27 := fun_mk (st := t_l_near) l27 c27 k27
  have B27 := F27.binds (ps := p_l_near) fun _ _ _ _ _ _ us hl => match us, hl with | [_], _ => rfl
  have F28 := fun_mk (st := t_l_exchanged) l28 c28 k28
  have B28 := F28.binds (ps := p_l_exchanged) fun _ _ _ _ _ _ us hl => match us, hl with | [_, _], _ => rfl
  have F29 := fun_mk (st := t_l_mixed) l29 c29 k29
  have B29 := F29.binds (ps := p_l_mixed) fun _ _ _ _ _ _ us hl => match us, hl with | [_, _, _, _], _ => rfl
  have F30 := fun_mk (st := t_l_changed) l30 c30 k30
  have B30 := F30.binds (ps := p_l_changed) fun _ _ _ _ _ _ us hl => match us, hl with | [_, _, _], _ => rfl
  have F31 := fun_mk (st := t_l_free_at) l31 c31 k31
  have B31 := F31.binds (ps := p_l_free_at) fun _ _ _ _ _ _ us hl => match us, hl with | [_, _, _], _ => rfl
  have F32 := fun_mk (st := t_l_least) l32 c32 k32
  have B32 := F32.binds (ps := p_l_least) fun _ _ _ _ _ _ us hl => match us, hl with | [_, _], _ => rfl
  have F33 := fun_mk (st := t_l_left) l33 c33 k33
  have B33 := F33.binds (ps := p_l_left) fun _ _ _ _ _ _ us hl => match us, hl with | [_, _, _], _ => rfl
  have F34 := fun_mk (st := t_l_by_all) l34 c34 k34
  have B34 := F34.binds (ps := p_l_by_all) fun _ _ _ _ _ _ us hl => match us, hl with | [_, _, _], _ => rfl
  have F35 := fun_mk (st := t_l_right) l35 c35 k35
  have B35 := F35.binds (ps := p_l_right) fun _ _ _ _ _ _ us hl => match us, hl with | [_, _, _, _, _], _ => rfl
  have F36 := fun_mk (st := t_law) l36 c36 k36
  have B36 := F36.binds (ps := p_law) fun _ _ _ _ _ _ us hl => match us, hl with | [_], _ => rfl
  exact ⟨⟨⟨_, _, F0, PySem.W.mg_of X G a0, B0⟩⟩,
    ⟨⟨_, _, F1, PySem.W.mg_of X G a1, B1⟩⟩,
    ⟨⟨_, _, F2, PySem.W.mg_of X G a2, B2⟩⟩,
    ⟨⟨_, _, F3, PySem.W.mg_of X G a3, B3⟩⟩,
    ⟨⟨_, _, F5, PySem.W.mg_of X G a5, B5⟩⟩,
    ⟨⟨_, _, F6, PySem.W.mg_of X G a6, B6⟩⟩,
    ⟨⟨_, _, F7, PySem.W.mg_of X G a7, B7⟩⟩,
    ⟨⟨_, _, F8, PySem.W.mg_of X G a8, B8⟩⟩,
    ⟨⟨_, _, F9, PySem.W.mg_of X G a9, B9⟩⟩,
    ⟨⟨_, _, F10, PySem.W.mg_of X G a10, B10⟩⟩,
    ⟨⟨_, _, F11, PySem.W.mg_of X G a11, B11⟩⟩,
    ⟨⟨_, _, F12, PySem.W.mg_of X G a12, B12⟩⟩,
    ⟨⟨_, _, F13, PySem.W.mg_of X G a13, B13⟩⟩,
    ⟨⟨_, _, F14, PySem.W.mg_of X G a14, B14⟩⟩,
    ⟨⟨_, _, F15, PySem.W.mg_of X G a15, B15⟩⟩,
    ⟨⟨_, _, F16, PySem.W.mg_of X G a16, B16⟩⟩,
    ⟨⟨_, _, F17, PySem.W.mg_of X G a17, B17⟩⟩,
    ⟨⟨_, _, F18, PySem.W.mg_of X G a18, B18⟩⟩,
    ⟨⟨_, _, F19, PySem.W.mg_of X G a19, B19⟩⟩,
    ⟨⟨_, _, F20, PySem.W.mg_of X G a20, B20⟩⟩,
    ⟨⟨_, _, F21, PySem.W.mg_of X G a21, B21⟩⟩,
    ⟨⟨_, _, F22, PySem.W.mg_of X G a22, B22⟩⟩,
    ⟨⟨_, _, F23, PySem.W.mg_of X G a23, B23⟩⟩,
    ⟨⟨_, _, F24, PySem.W.mg_of X G a24, B24⟩⟩,
    ⟨⟨_, _, F25, PySem.W.mg_of X G a25, B25⟩⟩,
    ⟨⟨_, _, F26, PySem.W.mg_of X G a26, B26⟩⟩,
    ⟨⟨_, _, F27, PySem.W.mg_of X G a27, B27⟩⟩,
    ⟨⟨_, _, F28, PySem.W.mg_of X G a28, B28⟩⟩,
    ⟨⟨_, _, F29, PySem.W.mg_of X G a29, B29⟩⟩,
    ⟨⟨_, _, F30, PySem.W.mg_of X G a30, B30⟩⟩,
    ⟨⟨_, _, F31, PySem.W.mg_of X G a31, B31⟩⟩,
    ⟨⟨_, _, F32, PySem.W.mg_of X G a32, B32⟩⟩,
    ⟨⟨_, _, F33, PySem.W.mg_of X G a33, B33⟩⟩,
    ⟨⟨_, _, F34, PySem.W.mg_of X G a34, B34⟩⟩,
    ⟨⟨_, _, F35, PySem.W.mg_of X G a35, B35⟩⟩,
    ⟨⟨_, _, F36, PySem.W.mg_of X G a36, B36⟩⟩,
    ⟨_, PySem.W.mg_of X G z_MOST_DESKS⟩,
    ⟨_, PySem.W.mg_of X G z_MOST_WORKS⟩,
    PySem.W.mg_none_of X G y_isinstance,
    PySem.W.mg_none_of X G y_all,
    PySem.W.mg_none_of X G y_any,
    PySem.W.mg_none_of X G y_len,
    PySem.W.mg_none_of X G y_range,
    PySem.W.mg_none_of X G y_tuple,
    PySem.W.mg_none_of X G y_enumerate,
    PySem.W.mg_none_of X G y_list,
    PySem.W.mg_none_of X G y_sorted,
    PySem.W.mg_none_of X G y_abs,
    PySem.W.mg_none_of X G y_int,
    PySem.W.mg_none_of X G y_set,
    PySem.W.mg_none_of X G y_min,
    PySem.W.mg_none_of X G y_bool,
    PySem.W.mg_none_of X G y_str,
    ⟨C, _, _, PySem.W.mg_of X G aC, ⟨mk, a4, i4, kc⟩, F4, B4, ⟨pg, hd, po, sa⟩, nf_desks, nf_works, nf_kept_own, nf_kept_meets⟩⟩
end LW
/-! Comprehensions that change nothing but their new list: by the function that tells their items. -/
namespace LW
open PySem PySem.Spec PyProof.Rows L2
theorem r_of {R : VK} {v u : V} {H : Hp} (e : v = u) (h : R u H) : R v H := e ▸ h
theorem bl_t {c : Prop} {i : Decidable c} (h : c) : V.bl (decide c) = V.bl true := congrArg V.bl (decide_eq_true h)
theorem bl_f {c : Prop} {i : Decidable c} (h : ¬ c) : V.bl (decide c) = V.bl false := congrArg V.bl (decide_eq_false h)
theorem small5 {n : Nat} (h : n ≤ 100000) : n < sizeLine := Nat.lt_of_le_of_lt h (by decide)
theorem range_snoc {α : Type} (f : Nat → α) (i : Nat) : (List.range (i + 1)).map f = (List.range i).map f ++ [f i] := by
  rw [List.range_succ, List.map_append]
  rfl
/-- one clause's loop: what must hold so that the new list at D ends as Qd wants -/
def LcG (J : It) (g : TG) (tt : TT) (te : TE) (vs : List Nat) (σ : L2.St) (H1 : Hp) (D : Addr) (Qd : Hp → Prop) : Prop :=
  ∃ W : Nat → Nat → Hp → Prop, (∃ m, W 0 m (upd H1 D (.lst []))) ∧
    ∀ i m H, W i m H → (J.stop i H ∧ Qd H) ∨
      (J.go i H ∧ ∃ Nx : Hp → Prop, (∀ H', Nx H' → ∃ m', m' < m ∧ W (i + 1) m' H') ∧
        ∀ x H', J.yld i H x H' → g x (wipe σ vs) H' fun σ2 H2 => wipe σ2 vs = wipe σ vs ∧
          tt σ2 H2 fun b H3 => if b = true then te σ2 H3 fun y H4 => ∃ acc, H4 D = some (.lst acc) ∧ acc.length < sizeLine ∧ Nx (upd H4 D (.lst (acc ++ [y])))
            else Nx H3)
section
variable {K : PySem.W.Frag} {a D : Addr} {xs : List V} {j : Nat} {te : TE} {vs : List Nat} {σ : L2.St} {H0 H1 : Hp} {Qd : Addr → Hp → Prop}
/-- what a turn adds -/
theorem lc_turn {f : Nat → V} {i : Nat} {H' H2 : Hp} (n0 : H0 D = none) (s0 : Same H0 H') (hD : H' D = some (.lst ((List.range i).map f))) (hi : i ≤ 100000) (s2 : Same H' H2) :
    ∃ acc, H2 D = some (.lst acc) ∧ acc.length < sizeLine ∧ (Same H0 (upd H2 D (.lst (acc ++ [f i]))) ∧ (upd H2 D (.lst (acc ++ [f i]))) D = some (.lst ((List.range (i + 1)).map f))) := by
  refine ⟨_, s2 _ _ hD, ?_, same_mut (s0.trans s2) n0, ?_⟩
  · rw [List.length_map, List.length_range]
    exact small5 hi
  · rw [upd_same, range_snoc]
theorem lcm_tup (f : Nat → V) (hq : SqT K H1 a xs) (hw : ∀ x, wipe ((wipe σ vs).set j (some x)) vs = wipe σ vs) (hz : xs.length ≤ 100000)
    (he : ∀ (i : Nat) (x : V) (H' : Hp) (R : VK), xs[i]? = some x → Same H1 H' → (∀ H2, Same H' H2 → R (f i) H2) → te ((wipe σ vs).set j (some x)) H' R)
    (hd : ∀ D H', Same H1 H' → H1 D = none → H' D = some (.lst ((List.range xs.length).map f)) → Qd D H') : ∀ D, H1 D = none → LcG (Itt K a) (gName j) tYes te vs σ H1 D (Qd D) := fun D nD => by
  refine lc_tup (fun i H' => Same H1 H' ∧ H' D = some (.lst ((List.range i).map f))) ⟨same_new nD, upd_same⟩ (fun i H' _ h => ?_) (fun i x H' hx h => ⟨hw x, ?_⟩) (fun H' h => hd D H' h.1 nD h.2)
  · rcases hq with (e | ⟨o, e⟩) | e
    · exact .inl (.inl (h.1 _ _ e))
    · exact .inl (.inr ⟨o, h.1 _ _ e⟩)
    · exact .inr e
  · unfold tYes
    refine iteT ?_
    refine he i x H' _ hx h.1 fun H2 s2 => ?_
    have hl := (List.getElem?_eq_some_iff.mp hx).1
    exact lc_turn nD h.1 h.2 (by omega) s2
theorem lcm_list (f : Nat → V) (hq : SqL K H1 a xs) (hw : ∀ x, wipe ((wipe σ vs).set j (some x)) vs = wipe σ vs) (hz : xs.length ≤ 100000)
    (he : ∀ (i : Nat) (x : V) (H' : Hp) (R : VK), xs[i]? = some x → Same H1 H' → (∀ H2, Same H' H2 → R (f i) H2) → te ((wipe σ vs).set j (some x)) H' R)
    (hd : ∀ D H', Same H1 H' → H1 D = none → H' D = some (.lst ((List.range xs.length).map f)) → Qd D H') : ∀ D, H1 D = none → LcG (Itl K a) (gName j) tYes te vs σ H1 D (Qd D) := fun D nD => by
  refine lc_list (fun i H' => Same H1 H' ∧ H' D = some (.lst ((List.range i).map f))) ⟨same_new nD, upd_same⟩ (fun i H' _ h => h.1.seq hq) (fun i x H' hx h => ⟨hw x, ?_⟩) (fun H' h => hd D H' h.1 nD h.2)
  unfold tYes
  refine iteT ?_
  refine he i x H' _ hx h.1 fun H2 s2 => ?_
  have hl := (List.getElem?_eq_some_iff.mp hx).1
  exact lc_turn nD h.1 h.2 (by omega) s2
theorem lcm_range {lo : Int} {n : Nat} (f : Nat → V) (hw : ∀ x, wipe ((wipe σ vs).set j (some x)) vs = wipe σ vs) (hz : n ≤ 100000)
    (he : ∀ (i : Nat) (H' : Hp) (R : VK), i < n → Same H1 H' → (∀ H2, Same H' H2 → R (f i) H2) → te ((wipe σ vs).set j (some (.int (lo + i)))) H' R)
    (hd : ∀ D H', Same H1 H' → H1 D = none → H' D = some (.lst ((List.range n).map f)) → Qd D H') : ∀ D, H1 D = none → LcG (Itr lo n) (gName j) tYes te vs σ H1 D (Qd D) := fun D nD => by
  refine lc_range (fun i H' => Same H1 H' ∧ H' D = some (.lst ((List.range i).map f))) ⟨same_new nD, upd_same⟩ (fun i H' hi h => ⟨hw _, ?_⟩) (fun H' h => hd D H' h.1 nD h.2)
  unfold tYes
  refine iteT ?_
  exact he i H' _ hi h.1 fun H2 s2 => lc_turn nD h.1 h.2 (by omega) s2
end
/-- a list by the items at its places -/
theorem map_range {α β : Type} (f : Nat → β) : ∀ {l : List α} {g : α → β}, (∀ i x, l[i]? = some x → f i = g x) → (List.range l.length).map f = l.map g := fun {l g} h => by
  refine List.ext_getElem? fun i => ?_
  rw [List.getElem?_map, List.getElem?_map]
  by_cases hi : i < l.length
  · rw [List.getElem?_range hi, List.getElem?_eq_getElem hi]
    show some (f i) = some (g l[i])
    rw [h i _ (List.getElem?_eq_getElem hi)]
  · rw [List.getElem?_eq_none (by rw [List.length_range]; omega), List.getElem?_eq_none (by omega)]
    rfl
theorem int_at {ns : List Int} {i : Nat} {x : V} (h : (ns.map V.int)[i]? = some x) : ∃ z, ns[i]? = some z ∧ x = .int z := by
  rw [List.getElem?_map] at h
  cases e : ns[i]? with
  | none => rw [e] at h; cases h
  | some z =>
    rw [e] at h
    exact ⟨z, rfl, (Option.some.inj h).symm⟩
theorem ref_at {as : List Addr} {i : Nat} {x : V} (h : (as.map V.ref)[i]? = some x) : ∃ z, as[i]? = some z ∧ x = .ref z := by
  rw [List.getElem?_map] at h
  cases e : as[i]? with
  | none => rw [e] at h; cases h
  | some z =>
    rw [e] at h
    exact ⟨z, rfl, (Option.some.inj h).symm⟩
theorem bl_at {as : List Bool} {i : Nat} {x : V} (h : (as.map V.bl)[i]? = some x) : ∃ z, as[i]? = some z ∧ x = .bl z := by
  rw [List.getElem?_map] at h
  cases e : as[i]? with
  | none => rw [e] at h; cases h
  | some z =>
    rw [e] at h
    exact ⟨z, rfl, (Option.some.inj h).symm⟩
/-! ### rules with the written part said -/
section
variable {X : Cx} {tg l o e2 : Expr} {pos : Pos} {tl ta tb : TE}
theorem pi_tupK (K : PySem.W.Frag) (hl : PE X l tl) (e : X.K = K := by rfl) : PI X tg l (iTup K tl) := by
  subst e
  exact pi_tup hl
theorem pi_listK (K : PySem.W.Frag) (hl : PE X l tl) (e : X.K = K := by rfl) : PI X tg l (iList K tl) := by
  subst e
  exact pi_list hl
def rLn (K : PySem.W.Frag) : List V → Hp → VK → Prop := fun xs H Q => ∃ (p : Addr) (ys : List V), xs = [.ref p] ∧ (SqL K H p ys ∨ SqT K H p ys) ∧ Q (.int ys.length) H
theorem call_ln (K : PySem.W.Frag) (e : X.K = K := by rfl) : CallR X (.builtin "len") (rLn K) := by
  subst e
  exact call_len_seq
theorem cr_anyK (K : PySem.W.Frag) (hc : X.calm = true := by rfl) (e : X.K = K := by rfl) : CallR X (.builtin "any") (rAny K) := by
  subst e
  exact cr_any hc
theorem cr_allK (K : PySem.W.Frag) (hc : X.calm = true := by rfl) (e : X.K = K := by rfl) : CallR X (.builtin "all") (rAll K) := by
  subst e
  exact cr_all hc
theorem op_inK (K : PySem.W.Frag) (e : X.K = K := by rfl) : OpR X (compareOp .In) (rIn K false) := by
  subst e
  exact op_in_seq
theorem ix_tK (K : PySem.W.Frag) (e : X.K = K := by rfl) : IxR X (rIxT K) := by
  subst e
  exact ix_tup
theorem ix_lK (K : PySem.W.Frag) (e : X.K = K := by rfl) : IxR X (rIxL K) := by
  subst e
  exact ix_list
def rTupOf (K : PySem.W.Frag) : List V → Hp → VK → Prop := fun xs H Q => ∃ (p : Addr) (ys : List V), xs = [.ref p] ∧ ((SqL K H p ys ∧ ∀ l, H l = none → Q (.ref l) (upd H l (.tup ys))) ∨ (SqT K H p ys ∧ Q (.ref p) H))
theorem call_tupK (K : PySem.W.Frag) (e : X.K = K := by rfl) : CallR X (.type "tuple") (rTupOf K) := by
  subst e
  exact call_tuple_of
theorem sl_tK (K : PySem.W.Frag) (e : X.K = K := by rfl) : SlR X (rSlA K) := by
  subst e
  exact sl_tupA
end
/-! ### enumerate of a tuple: the loop's forms -/
section
variable {K : PySem.W.Frag} {a : Addr} {xs : List V}
theorem lc_enumT {g : TG} {tt : TT} {te : TE} {vs : List Nat} {σ : L2.St} {H1 : Hp} {D : Addr} {Qd : Hp → Prop} (Pv : Nat → Hp → Prop) (h0 : Pv 0 (upd H1 D (.lst []))) (hl : ∀ i H, Pv i H → SqT K H a xs)
    (hs : ∀ (i : Nat) (x : V) (H : Hp) (T : Addr), xs[i]? = some x → Pv i H → H T = none → g (.ref T) (wipe σ vs) (upd H T (.tup [.int (i : Nat), x])) fun σ2 H2 => wipe σ2 vs = wipe σ vs ∧ tt σ2 H2 fun b H3 =>
      if b = true then te σ2 H3 fun y H4 => ∃ acc, H4 D = some (.lst acc) ∧ acc.length < sizeLine ∧ Pv (i + 1) (upd H4 D (.lst (acc ++ [y]))) else Pv (i + 1) H3)
    (hd : ∀ H, Pv xs.length H → Qd H) : LcG (IteT K a) g tt te vs σ H1 D Qd := by
  refine ⟨fun i k H => k = xs.length - i ∧ i ≤ xs.length ∧ Pv i H, ⟨xs.length, rfl, Nat.zero_le _, h0⟩, ?_⟩
  rintro i k H ⟨rfl, hi, p⟩
  have q := hl i H p
  rcases Nat.lt_or_ge i xs.length with lt | ge
  · refine .inr ⟨⟨xs, xs[i], q, List.getElem?_eq_getElem lt⟩, Pv (i + 1), fun H' p' => ⟨xs.length - (i + 1), by omega, rfl, lt, p'⟩, fun v H' hy => ?_⟩
    obtain ⟨T, x, rfl, nT, rfl, fx⟩ := hy
    exact hs i x H T (fx xs q) p nT
  · have e : i = xs.length := Nat.le_antisymm hi ge
    subst e
    exact .inl ⟨⟨xs, q, ge⟩, hd H p⟩
/-- a statement's loop: what must hold -/
def ForG (J : It) (g : TG) (tb : TS) (D : Ends) (σ : L2.St) (H : Hp) : Prop := ∃ W : Nat → Nat → L2.St → Hp → Prop, (∃ m, W 0 m σ H) ∧
  ∀ i m σ H, W i m σ H → (J.stop i H ∧ D.nx σ H) ∨
    (J.go i H ∧ ∃ N : L2.St → Hp → Prop, (∀ σ' H', N σ' H' → ∃ m', m' < m ∧ W (i + 1) m' σ' H') ∧
      ∀ x H', J.yld i H x H' → g x σ H' fun σ2 H2 => tb { D with nx := N, ct := N, bk := D.nx } σ2 H2)
theorem for_enumT {g : TG} {tb : TS} {D : Ends} {σ : L2.St} {H : Hp} (Pv : Nat → L2.St → Hp → Prop) (h0 : Pv 0 σ H) (hl : ∀ i σ H, Pv i σ H → SqT K H a xs)
    (hs : ∀ (i : Nat) (x : V) (σ : L2.St) (H : Hp) (T : Addr), xs[i]? = some x → Pv i σ H → H T = none → g (.ref T) σ (upd H T (.tup [.int (i : Nat), x])) fun σ2 H2 => tb { D with nx := Pv (i + 1), ct := Pv (i + 1), bk := D.nx } σ2 H2)
    (hd : ∀ σ H, Pv xs.length σ H → D.nx σ H) : ForG (IteT K a) g tb D σ H := by
  refine ⟨fun i k σ H => k = xs.length - i ∧ i ≤ xs.length ∧ Pv i σ H, ⟨xs.length, rfl, Nat.zero_le _, h0⟩, ?_⟩
  rintro i k σ H ⟨rfl, hi, p⟩
  have q := hl i σ H p
  rcases Nat.lt_or_ge i xs.length with lt | ge
  · refine .inr ⟨⟨xs, xs[i], q, List.getElem?_eq_getElem lt⟩, Pv (i + 1), fun σ' H' p' => ⟨xs.length - (i + 1), by omega, rfl, lt, p'⟩, fun v H' hy => ?_⟩
    obtain ⟨T, x, rfl, nT, rfl, fx⟩ := hy
    exact hs i x σ H T (fx xs q) p nT
  · have e : i = xs.length := Nat.le_antisymm hi ge
    subst e
    exact .inl ⟨⟨xs, q, ge⟩, hd σ H p⟩
end
end LW
/-! Slices and sums of rows, a dict comprehension over a list of ints. -/
namespace LW
open PySem PySem.Spec PyProof.Rows L2
section
variable {K : PySem.W.Frag} {H : Hp} {a b : Addr} {ns ms : List Int} {Q : VK}
theorem cut_to (xs : List V) (k : Nat) : cutV xs none (some (k : Int)) = xs.take k := by
  unfold cutV
  rw [HT.sIx_none, HT.sIx_nat, List.drop_zero, Nat.sub_zero, List.take_eq_take_min]
  rw [Nat.min_assoc, Nat.min_self, ← List.take_eq_take_min]
theorem cut_from (xs : List V) (k : Nat) : cutV xs (some (k : Int)) none = xs.drop k := by
  unfold cutV
  rw [HT.sIx_none, HT.sIx_nat]
  by_cases h : k ≤ xs.length
  · rw [Nat.min_eq_left h, List.take_of_length_le (by rw [List.length_drop]; omega)]
  · rw [Nat.min_eq_right (by omega), List.drop_eq_nil_of_le (Nat.le_refl _), List.drop_eq_nil_of_le (by omega), List.take_nil]
/-- t[:k] -/
theorem sl_to (h : Row H a ns) (k : Nat) (q : ∀ b H', Same H H' → Row H' b (ns.take k) → Q (.ref b) H') : rSlA K (.ref a) none (some (k : Int)) H Q := by
  refine ⟨a, _, rfl, h.sq, fun hw => ?_, fun _ p np => ?_⟩
  · have e : ns.take k = ns := by
      have h2 := hw.2
      rw [HT.sIx_nat, List.length_map] at h2
      exact List.take_of_length_le (by omega)
    exact q a H (Same.refl H) (by rw [e]; exact h)
  · refine q p _ (same_new np) ?_
    refine .inl ?_
    show upd H p _ p = _
    rw [upd_same, cut_to, List.map_take]
/-- t[k:] -/
theorem sl_from (h : Row H a ns) (k : Nat) (q : ∀ b H', Same H H' → Row H' b (ns.drop k) → Q (.ref b) H') : rSlA K (.ref a) (some (k : Int)) none H Q := by
  refine ⟨a, _, rfl, h.sq, fun hw => ?_, fun _ p np => ?_⟩
  · have e : ns.drop k = ns := by
      have h1 := hw.1
      rw [HT.sIx_nat, List.length_map] at h1
      by_cases hk : k = 0
      · rw [hk]
        rfl
      · rw [List.eq_nil_of_length_eq_zero (show ns.length = 0 by omega)]
        exact List.drop_nil
    exact q a H (Same.refl H) (by rw [e]; exact h)
  · refine q p _ (same_new np) ?_
    refine .inl ?_
    show upd H p _ p = _
    rw [upd_same, cut_from, List.map_drop]
/-- t + u -/
theorem cat_rows (h : Row H a ns) (g : Row H b ms) (hz : ns.length + ms.length ≤ 100000) (q : ∀ c H', Same H H' → Row H' c (ns ++ ms) → Q (.ref c) H') : rCatA K (.ref a) (.ref b) H Q := by
  refine ⟨a, b, _, _, rfl, rfl, h.sq, g.sq, ?_, fun e => ?_, fun _ e => ?_, fun _ _ p np => ?_⟩
  · rw [List.length_map, List.length_map]
    exact Nat.le_of_lt (small5 hz)
  · have e2 : ns = [] := List.map_eq_nil_iff.mp e
    exact q b H (Same.refl H) (by rw [e2]; exact g)
  · have e2 : ms = [] := List.map_eq_nil_iff.mp e
    exact q a H (Same.refl H) (by rw [e2, List.append_nil]; exact h)
  · refine q p _ (same_new np) ?_
    refine .inl ?_
    show upd H p _ p = _
    rw [upd_same, List.map_append]
end
section
variable {X : Cx}
theorem op_catK (K : PySem.W.Frag) (e : X.K = K := by rfl) : OpR X (binaryOp .Add) (rCatA K) := by
  subst e
  exact op_catA
end
/-! ### a dict comprehension over a list of ints -/
def DcG (J : It) (g : TG) (tt : TT) (tk tv : TE) (vs : List Nat) (σ : L2.St) (H1 : Hp) (D : Addr) (Qd : Hp → Prop) : Prop :=
  ∃ W : Nat → Nat → Hp → Prop, (∃ m, W 0 m (upd H1 D (.dK []))) ∧
    ∀ i m H, W i m H → (J.stop i H ∧ Qd H) ∨
      (J.go i H ∧ ∃ Nx : Hp → Prop, (∀ H', Nx H' → ∃ m', m' < m ∧ W (i + 1) m' H') ∧
        ∀ x H', J.yld i H x H' → g x (wipe σ vs) H' fun σ2 H2 => wipe σ2 vs = wipe σ vs ∧
          tt σ2 H2 fun b H3 => if b = true then tk σ2 H3 fun y H4 => tv σ2 H4 fun z H5 => ∃ kvs k, y = kV k ∧ H5 D = some (.dK kvs) ∧ kvs.length < sizeLine ∧ Nx (upd H5 D (.dK (putK kvs k z)))
            else Nx H3)
/-- what a table of ints says -/
def tabI (f : Int → V) (ws : List Int) : List (Key × V) := ws.map fun z => (Sum.inl z, f z)
theorem tabI_none {f : Int → V} : ∀ {ws : List Int} {z : Int}, z ∉ ws → valV (tabI f ws) (Sum.inl z) = none
  | [], _, _ => rfl
  | y :: r, z, h => by
    have h1 : ¬ y = z := fun e => h (by rw [e]; exact List.mem_cons_self)
    show valV ((Sum.inl y, f y) :: tabI f r) (Sum.inl z) = none
    rw [valV_neg (fun e => h1 (Sum.inl.inj e))]
    exact tabI_none fun e => h (List.mem_cons_of_mem _ e)
theorem dcm_list {K : PySem.W.Frag} {a : Addr} {ws : List Int} {j : Nat} {tk tv : TE} {vs : List Nat} {σ : L2.St} {H1 : Hp} {Qd : Addr → Hp → Prop} (f : Int → V) (hq : SqL K H1 a (ws.map V.int)) (nd : ws.Nodup)
    (hw : ∀ x, wipe ((wipe σ vs).set j (some x)) vs = wipe σ vs) (hz : ws.length ≤ 100000)
    (he : ∀ (z : Int) (H' : Hp) (R : V → V → Hp → Prop), z ∈ ws → Same H1 H' → R (.int z) (f z) H' → tk ((wipe σ vs).set j (some (.int z))) H' fun y H4 => tv ((wipe σ vs).set j (some (.int z))) H4 fun v H5 => R y v H5)
    (hd : ∀ D H', Same H1 H' → H1 D = none → H' D = some (.dK (tabI f ws)) → Qd D H') : ∀ D, H1 D = none → DcG (Itl K a) (gName j) tYes tk tv vs σ H1 D (Qd D) := fun D nD => by
  refine ⟨fun i k H' => k = ws.length - i ∧ i ≤ ws.length ∧ Same H1 H' ∧ H' D = some (.dK (tabI f (ws.take i))), ⟨ws.length, rfl, Nat.zero_le _, same_new nD, upd_same⟩, ?_⟩
  rintro i k H' ⟨rfl, hi, s, hD⟩
  have hq' := s.seq hq
  rcases Nat.lt_or_ge i ws.length with lt | ge
  · have hx : (ws.map V.int)[i]? = some (.int ws[i]) := by
      rw [List.getElem?_map, List.getElem?_eq_getElem lt]
      rfl
    refine .inr ⟨⟨_, _, hq', hx⟩, fun H2 => Same H1 H2 ∧ H2 D = some (.dK (tabI f (ws.take (i + 1)))), fun H2 h => ⟨ws.length - (i + 1), by omega, rfl, lt, h⟩, fun x H2 hy => ?_⟩
    obtain ⟨rfl, fx⟩ := hy
    obtain rfl : x = .int ws[i] := Option.some.inj ((fx _ hq').symm.trans hx)
    refine ⟨hw _, ?_⟩
    unfold tYes
    refine iteT (he ws[i] H2 (fun y v H5 => ∃ kvs k, y = kV k ∧ H5 D = some (.dK kvs) ∧ kvs.length < sizeLine ∧ _) (List.getElem_mem lt) s ⟨tabI f (ws.take i), Sum.inl ws[i], rfl, hD, ?_, same_mut s nD, ?_⟩)
    · unfold tabI
      rw [List.length_map, List.length_take]
      exact small5 (by omega)
    · have no : ws[i] ∉ ws.take i := fun h => by
        obtain ⟨n, hn, e⟩ := List.mem_take_iff_getElem.mp h
        have := (List.getElem_inj nd).mp e
        omega
      rw [upd_same, putK_new _ (tabI_none no)]
      refine congrArg (fun z => some (HO.dK z)) ?_
      unfold tabI
      rw [List.take_add_one, List.getElem?_eq_getElem lt, List.map_append]
      rfl
  · have e : i = ws.length := Nat.le_antisymm hi ge
    rw [e, List.take_length] at hD
    exact .inl ⟨⟨_, hq', by rw [List.length_map]; exact ge⟩, hd D H' s nD hD⟩
end LW
/-! The walk: whole numbers, lots. -/
namespace LW
open PySem PySem.Spec PyProof.Rows L2
section
variable {P : Program} {w : World} {K : PySem.W.Frag} {mg : Str → Option Value} {base : Heap}
/-! ### is_integer, is_within -/
def spIsInteger : Sp := fun vs H Q _ => ∃ i : Int, vs = [.int i] ∧ Q (.bl true) H
theorem ok_is_integer (T : Top K mg) : Cal P w K mg base 1 "is_integer" spIsInteger := by
  refine cal0 T.d_is_integer sc_is_integer (fun vs H Q E h => ?_) (fun f cdv A outer s H vs Q E hr h => ?_)
  · obtain ⟨i, rfl, _⟩ := h
    rfl
  · obtain ⟨i, rfl, q⟩ := h
    refine ⟨_, pss_one (ps_ret (pe_and (pe_callB call_isi (by rfl) T.b_isinstance (by decide +kernel) (pa_cons (pv 0) (pa_cons (pe_bltn (v := .ty "int") (by rfl) T.b_int (by decide +kernel) rfl) pa_nil)))
      (pe_one (pe_not (pe_callB call_isi (by rfl) T.b_isinstance (by decide +kernel) (pa_cons (pv 0) (pa_cons (pe_bltn (v := .ty "bool") (by rfl) T.b_bool (by decide +kernel) rfl) pa_nil))))))), ?_⟩
    refine ⟨_, rfl, .int i, .ty "int", .type "int", .type "int", true, rfl, .ty _, .base (.int i), kit_ty (by decide +kernel), true, rfl, iteT ?_⟩
    exact ⟨_, rfl, .int i, .ty "bool", .type "int", .type "bool", false, rfl, .ty _, .base (.int i), kit_ty (by decide +kernel), false, rfl, q⟩
def spIsWithin : Sp := fun vs H Q _ => ∃ x lo hi : Int, vs = [.int x, .int lo, .int hi] ∧ Q (.bl (decide (lo ≤ x) && decide (x ≤ hi))) H
theorem ok_is_within (T : Top K mg) : Cal P w K mg base 2 "is_within" spIsWithin := by
  have G : Cal P w K mg base 1 "is_integer" spIsInteger := ok_is_integer T
  refine cal0 T.d_is_within sc_is_within (fun vs H Q E h => ?_) (fun f cdv A outer s H vs Q E hr h => ?_)
  · obtain ⟨x, lo, hi, rfl, _⟩ := h
    rfl
  · obtain ⟨x, lo, hi, rfl, q⟩ := h
    refine ⟨_, pss_one (ps_ret (pe_and (pe_cal G hr (pa_cons (pv 0) pa_nil)) (pe_one (pe_chain op_le op_le (pv 1) (pv 0) (pv 2))))), ?_⟩
    refine ⟨_, rfl, x, rfl, true, rfl, iteT ?_⟩
    refine ⟨_, rfl, _, rfl, lo, x, rfl, rfl, _, rfl, ite2 (fun h1 => ?_) (fun h1 => ?_)⟩
    · refine ⟨_, rfl, x, hi, rfl, rfl, ?_⟩
      rw [h1] at q
      exact q
    · rw [Bool.not_eq_true] at h1
      rw [h1] at q
      exact q
end
end LW
/-! The walk: is_lot, are_works. -/
namespace LW
open PySem PySem.Spec PyProof.Rows L2
theorem bls_range (n : Nat) (g : Nat → Bool) : (List.range n).map (fun i => V.bl (g i)) = ((List.range n).map g).map V.bl := by
  rw [List.map_map]
  rfl
theorem all_range {n : Nat} {g : Nat → Bool} (h : ∀ i, i < n → g i = true) : ((List.range n).map g).all id = true := by
  rw [List.all_eq_true]
  intro b hb
  obtain ⟨i, hi, rfl⟩ := List.mem_map.mp hb
  exact h i (List.mem_range.mp hi)
theorem len6 {n : Nat} (h : n ≤ 100) : -(2 ^ 62) ≤ (n : Int) ∧ (n : Int) < 2 ^ 62 := by omega
section
variable {P : Program} {w : World} {K : PySem.W.Frag} {mg : Str → Option Value} {base : Heap}
def spIsLot : Sp := fun vs H Q _ => ∃ (a : Addr) (ns : List Int) (D : Int), vs = [.ref a, .int D] ∧ Row H a ns ∧ LotOk D ns ∧ ∀ H', Same H H' → Q (.bl true) H'
theorem ok_is_lot (T : Top K mg) : Cal P w K mg base 3 "is_lot" spIsLot := by
  have G : Cal P w K mg base 2 "is_within" spIsWithin := ok_is_within T
  refine cal0 T.d_is_lot sc_is_lot (fun vs H Q E h => ?_) (fun f cdv A outer s H vs Q E hr h => ?_)
  · obtain ⟨a, ns, D, rfl, _⟩ := h
    rfl
  · obtain ⟨a, ns, D, rfl, hR, ⟨ne, asc, hl, hb⟩, q⟩ := h
    have nd := sc_is_lot.nd
    refine ⟨_, pss_cons (ps_if (PW.pt (pw_or (pt_not (pt_val (pe_callB call_isi (by rfl) T.b_isinstance (by decide +kernel) (pa_cons (pv 0) (pa_cons (pe_bltn (v := .ty "tuple") (by rfl) T.b_tuple (by decide +kernel) rfl) pa_nil)))))
        (pw_or1 (pt_not (pt_val (pe_callB (cr_all rfl) (by rfl) T.b_all (by decide +kernel) (pa_cons
          (pe_lc (own := [("item", 3)]) (g := gName 3) (tt := tYes) rfl nd (pi_tup (pv 0)) (blkOk_by (N := n_is_lot) (sc := defScope t_is_lot) (by decide +kernel)) (fun _ _ _ _ _ => pg_name (i := 3) nd rfl (Or.inl rfl)) (fun _ _ _ _ _ => pts_nil)
            (fun _ _ _ _ _ => pe_cal G hr (pa_cons (pv 3) (pa_cons pe_int (pa_cons (pe_op op_sub (pv 1) pe_int) pa_nil))))) pa_nil)))))))
        (pss_one (ps_ret pe_bl)) pss_nil)
      (pss_one (ps_ret (pe_callB (cr_all rfl) (by rfl) T.b_all (by decide +kernel) (pa_cons
          (pe_lc (own := [("at", 2)]) (g := gName 2) (tt := tYes) rfl nd (pi_range2 (by rfl) T.b_range (pa_cons pe_int (pa_cons (pe_callB call_len_seq (by rfl) T.b_len PySem.boot_len (pa_cons (pv 0) pa_nil)) pa_nil)))
            (blkOk_by (N := n_is_lot) (sc := defScope t_is_lot) (by decide +kernel)) (fun _ _ _ _ _ => pg_name (i := 2) nd rfl (Or.inl rfl)) (fun _ _ _ _ _ => pts_nil)
            (fun _ _ _ _ _ => pe_cmpR op_lt (pe_ix (show IxR _ (rIxT K) from ix_tup) (pv 0) (pe_op op_sub (pv 2) pe_int) (fun _ _ => rfl)) (pe_ix (show IxR _ (rIxT K) from ix_tup) (pv 0) (pv 2) (fun _ _ => rfl)) (nomark _))) pa_nil)))), ?_⟩
    -- the first test
    refine ⟨_, rfl, .ref a, .ty "tuple", .type "tuple", .type "tuple", true, rfl, .ty _, hR.ty, kit_ty (by decide +kernel), true, rfl, iteF ?_⟩
    refine ⟨_, rfl, a, rfl, ⟨_, hR.sq⟩, lcm_tup (fun _ => .bl true) hR.sq (fun _ => rfl) (by rw [List.length_map]; omega) (fun i x H' R hx s k => ?_) fun l H' s nl hD => ?_⟩
    · obtain ⟨z, hz, rfl⟩ := int_at hx
      obtain ⟨z0, z1⟩ := hb z (List.mem_of_getElem? hz)
      refine ⟨_, rfl, _, rfl, D, 1, rfl, rfl, z, 0, D - 1, rfl, ?_⟩
      rw [decide_eq_true z0, decide_eq_true (show z ≤ D - 1 by omega)]
      exact k H' (Same.refl _)
    · refine ⟨l, _, rfl, SqL.of (hD.trans (congrArg (fun z => some (HO.lst z)) (bls_range _ fun _ => true))), true, ?_, iteF ?_⟩
      · rw [all_range fun _ _ => rfl]
      -- the second
      have hR' := hR.same s
      refine ⟨_, rfl, a, ns.map V.int, rfl, .inr hR'.sq, 1, _, rfl, ⟨by decide, by decide, ?_, ?_⟩, ?_⟩
      · rw [List.length_map]
        exact (len6 (by omega)).1
      · rw [List.length_map]
        exact (len6 (by omega)).2
      refine lcm_range (fun i => .bl true) (fun _ => rfl) (by rw [List.length_map]; omega) (fun i H2 R hi s2 k => ?_) fun l2 H2 s2 nl2 hD2 => ?_
      · rw [List.length_map] at hi
        have hR2 := hR'.same s2
        have h1 : i < ns.length := by omega
        have h2 : i + 1 < ns.length := by omega
        have lt : ns[i] < ns[i + 1] := List.pairwise_iff_getElem.mp asc i (i + 1) h1 h2 (Nat.lt_succ_self i)
        refine ⟨_, rfl, _, rfl, _, 1, rfl, rfl, a, _, _, .int ns[i], rfl, rfl, hR2.sq, at_of (j := i) (by omega) (by rw [List.getElem?_map, List.getElem?_eq_getElem h1]; rfl),
          _, rfl, _, rfl, a, _, _, .int ns[i + 1], rfl, rfl, hR2.sq, at_of (j := i + 1) (by omega) (by rw [List.getElem?_map, List.getElem?_eq_getElem h2]; rfl), _, _, rfl, rfl, ?_⟩
        exact r_of (congrArg V.bl (decide_eq_true lt)) (k H2 (Same.refl _))
      · refine ⟨l2, _, rfl, SqL.of (hD2.trans (congrArg (fun z => some (HO.lst z)) (bls_range _ fun _ => true))), ?_⟩
        rw [all_range fun _ _ => rfl]
        exact q _ (s.trans s2)
end
end LW
/-! The walk: are_works, Office. -/
namespace LW
open PySem PySem.Spec PyProof.Rows L2
theorem bl_len {n : Nat} (h : 0 < n) : decide (((n : Nat) : Int) > 0) = true := decide_eq_true (by omega)
section
variable {P : Program} {w : World} {K : PySem.W.Frag} {mg : Str → Option Value} {base : Heap}
def spAreWorks : Sp := fun vs H Q _ => ∃ (D : Int) (wa : Addr) (lots : List (List Int)), vs = [.int D, .ref wa] ∧ LotsAt H wa lots ∧ LotsOk D lots ∧ ∀ H', Same H H' → Q (.bl true) H'
theorem ok_are_works (T : Top K mg) : Cal P w K mg base 4 "are_works" spAreWorks := by
  have G : Cal P w K mg base 3 "is_lot" spIsLot := ok_is_lot T
  obtain ⟨tk, mw⟩ := T.c_MOST_WORKS
  refine cal0 T.d_are_works sc_are_works (fun vs H Q E h => ?_) (fun f cdv A outer s H vs Q E hr h => ?_)
  · obtain ⟨D, wa, lots, rfl, _⟩ := h
    rfl
  · obtain ⟨D, wa, lots, rfl, hL, ok, q⟩ := h
    have nd := sc_are_works.nd
    obtain ⟨as, hw, hlen, hrow⟩ := id hL
    have hsq : SqT K H wa (as.map V.ref) := SqT.of hw
    have l1 := ok.l1
    have l10 := ok.l10
    refine ⟨_, pss_cons (ps_if (PW.pt (pw_or (pt_not (pt_val (pe_callB call_isi (by rfl) T.b_isinstance (by decide +kernel) (pa_cons (pv 1) (pa_cons (pe_bltn (v := .ty "tuple") (by rfl) T.b_tuple (by decide +kernel) rfl) pa_nil)))))
        (pw_or1 (pt_not (pt_chain op_le op_le pe_int (pe_callB (call_ln K) (by rfl) T.b_len PySem.boot_len (pa_cons (pv 1) pa_nil)) (pe_glob (v := .int 10) (by rfl) mw ⟨tk, rfl⟩))))))
        (pss_one (ps_ret pe_bl)) pss_nil)
      (pss_one (ps_ret (pe_callB (cr_allK K) (by rfl) T.b_all (by decide +kernel) (pa_cons
          (pe_lc (own := [("lot", 2)]) (g := gName 2) (tt := tYes) rfl nd (pi_tupK K (pv 1)) (blkOk_by (N := n_are_works) (sc := defScope t_are_works) (by decide +kernel)) (fun _ _ _ _ _ => pg_name (i := 2) nd rfl (Or.inl rfl)) (fun _ _ _ _ _ => pts_nil)
            (fun _ _ _ _ _ => pe_and (pe_cal G hr (pa_cons (pv 2) (pa_cons (pv 0) pa_nil))) (pe_one (pe_cmpR op_gt (pe_callB (call_ln K) (by rfl) T.b_len PySem.boot_len (pa_cons (pv 2) pa_nil)) pe_int (nomark _))))) pa_nil)))), ?_⟩
    refine ⟨_, rfl, .ref wa, .ty "tuple", .type "tuple", .type "tuple", true, rfl, .ty _, .base (.tup hw), kit_ty (by decide +kernel), true, rfl, iteF ?_⟩
    refine ⟨_, rfl, wa, _, rfl, .inr hsq, 1, _, rfl, rfl, true, ?_, iteT ?_⟩
    · exact bl_t (by rw [List.length_map]; omega)
    refine ⟨_, 10, rfl, rfl, true, ?_, iteF ?_⟩
    · exact bl_t (by rw [List.length_map]; omega)
    refine ⟨_, rfl, wa, rfl, ⟨_, hsq⟩, lcm_tup (fun _ => .bl true) hsq (fun _ => rfl) (by rw [List.length_map]; omega) (fun i x H' R hx s k => ?_) fun l H' s nl hD => ?_⟩
    · obtain ⟨la, ha, rfl⟩ := ref_at hx
      have hi : i < lots.length := by
        have := (List.getElem?_eq_some_iff.mp ha).1
        omega
      have hlot := List.getElem?_eq_getElem hi
      have hR := (hrow i la _ ha hlot).same s
      have lo := ok.ok _ (List.mem_of_getElem? hlot)
      refine ⟨_, rfl, _, rfl, la, lots[i], D, rfl, hR.row, lo, fun H2 s2 => ⟨true, rfl, iteT ?_⟩⟩
      refine ⟨_, rfl, la, _, rfl, .inr (hR.row.same s2).sq, _, _, rfl, rfl, ?_⟩
      have pos : 0 < lots[i].length := List.length_pos_iff.mpr lo.1
      exact r_of (congrArg V.bl (decide_eq_true (by rw [List.length_map]; omega))) (k H2 s2)
    · refine ⟨l, _, rfl, SqL.of (hD.trans (congrArg (fun z => some (HO.lst z)) (bls_range _ fun _ => true))), ?_⟩
      rw [all_range fun _ _ => rfl]
      exact q _ s
/-- all but p is as it was -/
def Kp (p : Addr) (H H' : Hp) : Prop := ∀ b o, H b = some o → b ≠ p → H' b = some o
theorem Kp.refl (p : Addr) (H : Hp) : Kp p H H := fun _ _ e _ => e
theorem Kp.trans {p : Addr} {H H1 H2 : Hp} (a : Kp p H H1) (b : Kp p H1 H2) : Kp p H H2 := fun c o e n => b c o (a c o e n) n
theorem Kp.of {p : Addr} {H H' : Hp} (s : Same H H') : Kp p H H' := fun c o e _ => s c o e
theorem Kp.upd (p : Addr) (H : Hp) (o : HO) : Kp p H (upd H p o) := fun c u e n => by rw [upd_ne n]; exact e
/-- .. and a thing new to H may change -/
theorem Kp.mut {p l : Addr} {H H' : Hp} {o : HO} (k : Kp p H H') (h : H l = none) : Kp p H (L2.upd H' l o) := fun c u e n => by
  rw [upd_ne (ne_of_none e h)]
  exact k c u e n
theorem Kp.tup {p a C dx : Addr} {H H' : Hp} {fs : List (Str × V)} {xs : List V} (k : Kp p H H') (hp : H p = some (.ins C dx fs)) (ha : H a = some (.tup xs)) : H' a = some (.tup xs) :=
  k a _ ha (ne_of ha hp (fun z => nomatch z))
theorem flat_ints (ns : List Int) : (ns.map V.int).all flatV = true := by
  rw [List.all_map]
  exact List.all_eq_true.mpr fun _ _ => rfl
theorem in_ints (d : Int) (v : List Int) : inV (.int d) (v.map V.int) = v.any fun e => decide (e = d) := by
  unfold inV
  rw [List.any_map]
  refine congrArg (fun f => v.any f) (funext fun e => ?_)
  show eqV (.int e) (.int d) = decide (e = d)
  unfold eqV
  first | rfl | simp | exact Bool.beq_eq_decide_eq _ _
def of1 (D : Int) : List (Str × V) := putF "desks" (.int D) []
def of2 (D : Int) (wa : Addr) : List (Str × V) := putF "works" (.ref wa) (of1 D)
def of3 (D : Int) (wa lo : Addr) : List (Str × V) := putF "kept_own" (.ref lo) (of2 D wa)
def of4 (D : Int) (wa lo lm : Addr) : List (Str × V) := putF "kept_meets" (.ref lm) (of3 D wa lo)
theorem of_len (D : Int) (wa lo lm : Addr) : (of1 D).length < 1000 ∧ (of2 D wa).length < 1000 ∧ (of3 D wa lo).length < 1000 := by
  have h1 := length_putF "desks" (.int D) []
  have h2 := length_putF "works" (.ref wa) (of1 D)
  have h3 := length_putF "kept_own" (.ref lo) (of2 D wa)
  have e1 : (of1 D).length ≤ 1 := h1
  have e2 : (of2 D wa).length ≤ (of1 D).length + 1 := h2
  have e3 : (of3 D wa lo).length ≤ (of2 D wa).length + 1 := h3
  omega
theorem of3_own (D : Int) (wa lo : Addr) : (of3 D wa lo).lookup ("kept_own" : Str) = some (.ref lo) := by
  unfold of3
  rw [lookup_putF, if_pos rfl]
theorem of4_meets (D : Int) (wa lo lm : Addr) : (of4 D wa lo lm).lookup ("kept_meets" : Str) = some (.ref lm) := by
  unfold of4
  rw [lookup_putF, if_pos rfl]
theorem of4_works (D : Int) (wa lo lm : Addr) : (of4 D wa lo lm).lookup ("works" : Str) = some (.ref wa) := by
  unfold of4 of3 of2
  rw [lookup_putF, if_neg (by decide +kernel), lookup_putF, if_neg (by decide +kernel), lookup_putF, if_pos rfl]
def spOffice (K : PySem.W.Frag) : Sp := fun vs H Q _ => ∃ (p C dx wa : Addr) (D : Int) (lots : List (List Int)), vs = [.ref p, .int D, .ref wa] ∧ H p = some (.ins C dx []) ∧
  Cls K C ∧ NoAttr K C "desks" ∧ NoAttr K C "works" ∧ NoAttr K C "kept_own" ∧ NoAttr K C "kept_meets" ∧ LotsAt H wa lots ∧ LotsOk D lots ∧
  ∀ H', OfficeAt K H' p lots.length (MM lots) → Kp p H H' → Q .non H'
theorem ok_office (T : Top K mg) {f : Addr} {fd : FuncData} (F : Fun K "__init__" "Office.__init__" t_office f fd) : FnOk P w K mg base CX0 5 f fd p_office (spOffice K) := by
  have G1 : Cal P w K mg base 2 "is_within" spIsWithin := ok_is_within T
  have G2 : Cal P w K mg base 4 "are_works" spAreWorks := ok_are_works T
  obtain ⟨tk, md⟩ := T.c_MOST_DESKS
  refine F.ok sc_office (fun vs H Q E h => ?_) (fun cdv A outer s H vs Q E hr h => ?_)
  · obtain ⟨p, C, dx, wa, D, lots, rfl, _⟩ := h
    rfl
  · obtain ⟨p, C, dx, wa, D, lots, rfl, hp, cl, n1, n2, n3, n4, hL, ok, q⟩ := h
    have nd := sc_office.nd
    refine ⟨_, pss_cons (ps_if (pt_not (pt_val (pe_cal G1 hr (pa_cons (pv 1) (pa_cons pe_int (pa_cons (pe_glob (v := .int 6) (by rfl) md ⟨tk, rfl⟩) pa_nil)))))) pss_never pss_nil)
      (pss_cons (ps_if (pt_not (pt_val (pe_cal G2 hr (pa_cons (pv 1) (pa_cons (pv 2) pa_nil))))) pss_never pss_nil)
      (pss_cons (ps_fld (pv 0) (pv 1) rfl) (pss_cons (ps_fld (pv 0) (pv 2) rfl) (pss_cons (ps_fld (pv 0) (pe_lst pa_nil) rfl)
      (pss_cons (ps_for PassesOwn.never rfl (pi_range1 (by rfl) T.b_range (pa_cons (pv 1) pa_nil)) (pg_name (i := 3) nd rfl (Or.inr rfl))
        (pss_one (ps_expr (pe_bm PySem.F.plainAttrs_list PySem.F.slot_list_append PySem.F.type_list_append mt_append (pe_fld (pv 0) rfl) (pa_cons (pe_callTy (call_tupK K) (by rfl) T.b_tuple (by decide +kernel) (pa_cons
          (pe_lc (own := [("work", 6), ("lot", 4)]) (g := gTup K 2 (gCons (gName 6) (gCons (gName 4) gNil))) (tt := fun σ H Q => tTest (tOp (rIn K false) (tVar 3) (tVar 4)) σ H Q) rfl nd (pi_enumT (by rfl) T.b_enumerate (pa_cons (pv 2) pa_nil)) (blkOk_by (N := n_office) (sc := defScope t_office) (by decide +kernel))
            (fun _ _ _ _ _ => pg_tup rfl (pgs_cons (pg_name (i := 6) nd rfl (Or.inl rfl)) (pgs_cons (pg_name (i := 4) nd rfl (Or.inl rfl)) pgs_nil))) (fun _ _ _ _ _ => pts_one (pt_cmpR (op_inK K) (pv 3) (pv 4) (by rfl)))
            (fun _ _ _ _ _ => pv 6)) pa_nil)) pa_nil)))))
      (pss_cons (ps_fld (pv 0) (pe_lst pa_nil) rfl)
      (pss_one (ps_for PassesOwn.never rfl (pi_tupK K (pv 2)) (pg_name (i := 4) nd rfl (Or.inr rfl))
        (pss_one (ps_expr (pe_bm PySem.F.plainAttrs_list PySem.F.slot_list_append PySem.F.type_list_append mt_append (pe_fld (pv 0) rfl) (pa_cons
          (pe_lc (own := [("other", 5)]) (g := gName 5) (tt := tYes) rfl nd (pi_tupK K (pv 2)) (blkOk_by (N := n_office) (sc := defScope t_office) (by decide +kernel)) (fun _ _ _ _ _ => pg_name (i := 5) nd rfl (Or.inr rfl)) (fun _ _ _ _ _ => pts_nil)
            (fun _ _ _ _ _ => pe_callB (cr_anyK K) (by rfl) T.b_any (by decide +kernel) (pa_cons
              (pe_lc (own := [("desk", 3)]) (g := gName 3) (tt := tYes) rfl nd (pi_tupK K (pv 4)) (blkOk_by (by show blkC n_office (relS _ (defScope t_office)) _ _ = true; decide +kernel)) (fun _ _ _ _ _ => pg_name (i := 3) nd rfl (Or.inl rfl)) (fun _ _ _ _ _ => pts_nil)
                (fun _ _ _ _ _ => pe_cmpR (op_inK K) (pv 3) (pv 5) (by rfl))) pa_nil))) pa_nil)))))))))))), ?_⟩
    obtain ⟨as, hw, hlen, hrow⟩ := id hL
    -- the two tests
    refine ⟨_, rfl, D, 1, 6, rfl, true, ?_, iteF ?_⟩
    · rw [decide_eq_true ok.d1, decide_eq_true ok.d6]
      rfl
    refine ⟨_, rfl, _, rfl, D, wa, lots, rfl, hL, ok, fun H1 s1 => ⟨true, rfl, iteF ?_⟩⟩
    obtain ⟨l1, l2, l3⟩ := of_len D wa wa wa
    -- self.desks, self.works, self.kept_own
    refine ⟨_, rfl, _, rfl, p, C, dx, [], rfl, s1 _ _ hp, cl, n1, (by show 0 < 1000; decide), ?_⟩
    refine ⟨_, rfl, _, rfl, p, C, dx, of1 D, rfl, upd_same, cl, n2, l1, ?_⟩
    refine ⟨Nat.zero_le _, fun lo nlo => ?_⟩
    have nlo1 : p ≠ lo := fun z => by
      rw [← z, upd_same] at nlo
      cases nlo
    have nlo2 : H lo = none := by
      rw [upd_ne nlo1.symm, upd_ne nlo1.symm] at nlo
      exact s1.free nlo
    refine ⟨_, rfl, p, C, dx, of2 D wa, rfl, (by rw [upd_ne nlo1, upd_same]; rfl), cl, n3, l2, ?_⟩
    have k3 : Kp p H (upd (upd (upd (upd H1 p (.ins C dx (of1 D))) p (.ins C dx (of2 D wa))) lo (.lst [])) p (.ins C dx (of3 D wa lo))) :=
      ((((Kp.of s1).trans (Kp.upd _ _ _)).trans (Kp.upd _ _ _)).mut nlo2).trans (Kp.upd _ _ _)
    have bD : -(2 ^ 62) ≤ D ∧ D < 2 ^ 62 := by have := ok.d1; have := ok.d6; omega
    refine ⟨_, rfl, D, rfl, bD.1, bD.2, for_range (lo := 0) (n := D.toNat) (fun i σ H' => ∃ y3, σ = [some (.ref p), some (.int D), some (.ref wa), y3, none, none, none] ∧ Kp p H H' ∧ H' p = some (.ins C dx (of3 D wa lo)) ∧
      ∃ acc, H' lo = some (.lst acc) ∧ acc.length ≤ i) ⟨none, rfl, k3, upd_same, [], by rw [upd_ne nlo1.symm, upd_same], Nat.le_refl _⟩ ?_ ?_⟩
    · rintro i σ H' hi ⟨y3, rfl, kp, hp', acc, hlo, hacc⟩
      have hw' := kp.tup hp hw
      have d6 := ok.d6
      refine ⟨_, rfl, p, C, dx, _, _, rfl, hp', cl, n3, of3_own _ _ _, .inl ⟨rfl, _, SqL.of hlo⟩, _, rfl, wa, as.map V.ref, rfl, SqT.of hw', fun Dl nD => ?_⟩
      refine lc_enumT (fun j H2 => Same H' H2 ∧ ∃ ac, H2 Dl = some (.lst ac) ∧ ac.length ≤ j) ⟨same_new nD, [], upd_same, Nat.le_refl _⟩ (fun j H2 h => SqT.of (h.1 _ _ hw')) (fun j x H2 t hx h nt => ?_) (fun H2 h => ?_)
      · obtain ⟨s2, ac, hac, hal⟩ := h
        obtain ⟨la, hla, rfl⟩ := ref_at hx
        have jl := (List.getElem?_eq_some_iff.mp hla).1
        have l10 := ok.l10
        have hlot := List.getElem?_eq_getElem (show j < lots.length by omega)
        have hr0 : H2 la = some (.tup (lots[j].map V.int)) := s2 _ _ (kp.tup hp (hrow j la _ hla hlot))
        have st : Same H2 (upd H2 t (.tup [.int (j : Nat), .ref la])) := same_new nt
        refine ⟨t, _, rfl, SqT.of upd_same, rfl, _, _, rfl, _, _, rfl, rfl, rfl, ?_⟩
        refine ⟨_, rfl, _, rfl, la, _, rfl, .inr (SqT.of (st _ _ hr0)), rfl, flat_ints _, _, rfl, ite2 (fun _ => ?_) (fun _ => ?_)⟩
        · refine ⟨_, rfl, ac, st _ _ hac, small5 (by omega), same_mut (s2.trans st) nD, _, upd_same, ?_⟩
          rw [List.length_append, List.length_singleton]
          omega
        · exact ⟨s2.trans st, ac, st _ _ hac, by omega⟩
      · obtain ⟨s2, ac, hac, hal⟩ := h
        refine ⟨Dl, _, rfl, .inl ⟨SqL.of hac, fun t nt => ?_⟩⟩
        have s3 : Same H2 (upd H2 t (.tup ac)) := same_new nt
        refine ⟨lo, acc, _, rfl, rfl, s3 _ _ (s2 _ _ hlo), small5 (by omega), ?_⟩
        refine ⟨_, rfl, (kp.trans (Kp.of (s2.trans s3))).mut nlo2, ?_, _, upd_same, ?_⟩
        · rw [upd_ne nlo1]
          exact s3 _ _ (s2 _ _ hp')
        · rw [List.length_append, List.length_singleton]
          omega
    · rintro σ H' ⟨y3, rfl, kp, hp', acc, hlo, hacc⟩
      -- self.kept_meets
      refine ⟨Nat.zero_le _, fun lm nlm => ?_⟩
      have nlm1 : p ≠ lm := ne_of_none hp' nlm
      have nlm2 : H lm = none := by
        cases e : H lm with
        | none => rfl
        | some o =>
          rw [kp _ _ e nlm1.symm] at nlm
          cases nlm
      refine ⟨_, rfl, p, C, dx, of3 D wa lo, rfl, (by rw [upd_ne nlm1]; exact hp'), cl, n4, (of_len D wa lo lo).2.2, ?_⟩
      have k4 : Kp p H (upd (upd H' lm (.lst [])) p (.ins C dx (of4 D wa lo lm))) := (kp.mut nlm2).trans (Kp.upd _ _ _)
      refine ⟨_, rfl, wa, rfl, ⟨_, SqT.of (k4.tup hp hw)⟩, for_tup (K := K) (a := wa) (xs := as.map V.ref) (fun i σ H2 => ∃ y3 y4, σ = [some (.ref p), some (.int D), some (.ref wa), y3, y4, none, none] ∧ Kp p H H2 ∧
        H2 p = some (.ins C dx (of4 D wa lo lm)) ∧ ∃ ms : List Addr, H2 lm = some (.lst (ms.map V.ref)) ∧ ms.length = i ∧
          ∀ (j : Nat) (a : Addr), ms[j]? = some a → H2 a = some (.lst ((List.range lots.length).map fun (k : Nat) => V.bl (MM lots (j : Nat) (k : Nat)))))
        ⟨_, none, rfl, k4, upd_same, [], by rw [upd_ne nlm1.symm, upd_same]; rfl, rfl, fun j a e => nomatch e⟩ (fun i σ H2 _ ⟨_, _, _, k, _⟩ => SqT.of (k.tup hp hw)) ?_ ?_⟩
      · rintro i x σ H2 hx ⟨z3, z4, rfl, kp2, hp2, ms, hm, hml, hrows⟩
        obtain ⟨la, hla, rfl⟩ := ref_at hx
        have il := (List.getElem?_eq_some_iff.mp hla).1
        have l10 := ok.l10
        have il2 : i < lots.length := by omega
        have hlot := List.getElem?_eq_getElem il2
        have hwa2 := kp2.tup hp hw
        have hra : Row H2 la lots[i] := .inl (kp2.tup hp (hrow i la _ hla hlot))
        have oki := ok.ok _ (List.mem_of_getElem? hlot)
        refine ⟨_, rfl, p, C, dx, _, _, rfl, hp2, cl, n4, of4_meets _ _ _ _, .inl ⟨rfl, _, SqL.of hm⟩, _, rfl, wa, rfl, ⟨_, SqT.of hwa2⟩, ?_⟩
        refine lcm_tup (fun k => .bl (MM lots (i : Nat) (k : Nat))) (SqT.of hwa2) (fun _ => rfl) (by rw [List.length_map]; omega) (fun k x H3 R hx2 s3 kk => ?_) fun Dl H3 s3 nD hD => ?_
        · obtain ⟨lb, hlb, rfl⟩ := ref_at hx2
          have kl := (List.getElem?_eq_some_iff.mp hlb).1
          have hlot2 := List.getElem?_eq_getElem (show k < lots.length by omega)
          have ra3 := hra.same s3
          have rb3 : Row H3 lb lots[k] := .inl (s3 _ _ (kp2.tup hp (hrow k lb _ hlb hlot2)))
          refine ⟨_, rfl, la, rfl, ⟨_, ra3.sq⟩, ?_⟩
          refine lcm_tup (fun j => .bl (lots[k].any fun e => decide (e = lots[i].getD j 0))) ra3.sq (fun _ => rfl) (by rw [List.length_map]; have := oki.2.2.1; omega) (fun j x H4 R2 hx3 s4 k4 => ?_) fun De H4 s4 nE hE => ?_
          · obtain ⟨z, hz, rfl⟩ := int_at hx3
            refine ⟨_, rfl, _, rfl, lb, _, rfl, .inr (rb3.same s4).sq, rfl, flat_ints _, ?_⟩
            refine r_of ?_ (k4 H4 (Same.refl _))
            show V.bl (inV (.int z) (lots[k].map V.int)) = _
            rw [in_ints, List.getD_eq_getElem?_getD, hz]
            rfl
          · refine ⟨De, _, rfl, SqL.of (hE.trans (congrArg (fun z => some (HO.lst z)) (bls_range _ _))), ?_⟩
            refine r_of ?_ (kk H4 s4)
            have e1 : (List.range (lots[i].map V.int).length).map (fun j => lots[k].any fun e => decide (e = lots[i].getD j 0)) = lots[i].map fun d => lots[k].any fun e => decide (e = d) := by
              rw [List.length_map]
              refine map_range _ fun j z hz => ?_
              rw [List.getD_eq_getElem?_getD, hz]
              rfl
            rw [e1, List.any_map, ← mm_over ok hlot hlot2]
            rfl
        · have nDlm : lm ≠ Dl := ne_of_none hm nD
          refine ⟨lm, _, _, rfl, rfl, s3 _ _ hm, small5 (by rw [List.length_map]; omega), ?_⟩
          refine ⟨_, _, rfl, (kp2.trans (Kp.of s3)).mut nlm2, ?_, ms ++ [Dl], ?_, ?_, fun j a e => ?_⟩
          · rw [upd_ne nlm1]
            exact s3 _ _ hp2
          · rw [upd_same, List.map_append]
            rfl
          · rw [List.length_append, hml]
            rfl
          · rcases Nat.lt_trichotomy j i with lt | eq | gt
            · rw [List.getElem?_append_left (by omega)] at e
              have h0 := s3 _ _ (hrows j a e)
              have ne : a ≠ lm := fun z => by
                rw [z, s3 _ _ hm] at h0
                have q1 := Option.some.inj h0
                injection q1 with q2
                have hn := ok.l1
                cases ms with
                | nil => cases e
                | cons y t =>
                  cases hR : lots.length with
                  | zero => omega
                  | succ n =>
                    rw [hR, List.range_succ_eq_map, List.map_cons, List.map_cons] at q2
                    injection q2 with q3 q4
                    cases q3
              rw [upd_ne ne]
              exact h0
            · subst eq
              rw [List.getElem?_append_right (by omega), hml, Nat.sub_self] at e
              obtain rfl : Dl = a := Option.some.inj e
              rw [upd_ne nDlm.symm, hD, List.length_map, hlen]
            · rw [List.getElem?_eq_none (by rw [List.length_append, hml]; show i + 1 ≤ j; omega)] at e
              cases e
      · rintro σ H2 ⟨z3, z4, rfl, kp2, hp2, ms, hm, hml, hrows⟩
        rw [List.length_map, hlen] at hml
        exact q H2 ⟨C, dx, wa, lm, _, _, cl, n2, n4, hp2, of4_works _ _ _ _, kp2.tup hp hw, by rw [List.length_map]; exact hlen, of4_meets _ _ _ _, ⟨ms, hm, hml, hrows⟩⟩ kp2
end
end LW
/-! The walk: is_work, is_row_of, check_row, can_begin. -/
namespace LW
open PySem PySem.Spec PyProof.Rows L2
section
variable {P : Program} {w : World} {K : PySem.W.Frag} {mg : Str → Option Value} {base : Heap}
def spIsWork (K : PySem.W.Frag) : Sp := fun vs H Q _ => ∃ (p : Addr) (n : Nat) (m : Int → Int → Bool) (x : Int), vs = [.ref p, .int x] ∧ OfficeAt K H p n m ∧ 0 ≤ x ∧ x < (n : Int) ∧ Q (.bl true) H
theorem ok_is_work (T : Top K mg) : Cal P w K mg base 3 "is_work" (spIsWork K) := by
  have G : Cal P w K mg base 2 "is_within" spIsWithin := ok_is_within T
  refine cal0 T.d_is_work sc_is_work (fun vs H Q E h => ?_) (fun f cdv A outer s H vs Q E hr h => ?_)
  · obtain ⟨p, n, m, x, rfl, _⟩ := h
    rfl
  · obtain ⟨p, n, m, x, rfl, O, h0, h1, q⟩ := h
    obtain ⟨C, dx, wa, km, fs, ws, cl, nW, nM, hp, fW, hwa, hl, fM, M⟩ := O.ex
    refine ⟨_, pss_one (ps_ret (pe_cal G hr (pa_cons (pv 1) (pa_cons pe_int (pa_cons (pe_op op_sub (pe_callB (call_ln K) (by rfl) T.b_len PySem.boot_len (pa_cons (pe_fld (pv 0) rfl) pa_nil)) pe_int) pa_nil))))), ?_⟩
    refine ⟨_, rfl, _, rfl, p, C, dx, fs, _, rfl, hp, cl, nW, fW, wa, ws, rfl, .inr (SqT.of hwa), _, _, rfl, rfl, x, 0, _, rfl, ?_⟩
    rw [decide_eq_true h0, decide_eq_true (show x ≤ ((ws.length : Nat) : Int) - 1 by omega)]
    exact q
def spIsRowOf (K : PySem.W.Frag) : Sp := fun vs H Q _ => ∃ (p a : Addr) (n : Nat) (m : Int → Int → Bool) (ns : List Int), vs = [.ref p, .ref a] ∧ OfficeAt K H p n m ∧ Row H a ns ∧ RowIn n ns ∧ ns.length ≤ 1000 ∧ ∀ H', Same H H' → Q (.bl true) H'
theorem ok_is_row_of (T : Top K mg) : Cal P w K mg base 4 "is_row_of" (spIsRowOf K) := by
  have G : Cal P w K mg base 3 "is_work" (spIsWork K) := ok_is_work T
  refine cal0 T.d_is_row_of sc_is_row_of (fun vs H Q E h => ?_) (fun f cdv A outer s H vs Q E hr h => ?_)
  · obtain ⟨p, a, n, m, ns, rfl, _⟩ := h
    rfl
  · obtain ⟨p, a, n, m, ns, rfl, O, hR, hi, hl, q⟩ := h
    have nd := sc_is_row_of.nd
    refine ⟨_, pss_one (ps_ret (pe_and (pe_callB call_isi (by rfl) T.b_isinstance (by decide +kernel) (pa_cons (pv 1) (pa_cons (pe_bltn (v := .ty "tuple") (by rfl) T.b_tuple (by decide +kernel) rfl) pa_nil)))
      (pe_one (pe_callB (cr_allK K) (by rfl) T.b_all (by decide +kernel) (pa_cons
        (pe_lc (own := [("work", 2)]) (g := gName 2) (tt := tYes) rfl nd (pi_tupK K (pv 1)) (blkOk_by (N := n_is_row_of) (sc := defScope t_is_row_of) (by decide +kernel)) (fun _ _ _ _ _ => pg_name (i := 2) nd rfl (Or.inl rfl)) (fun _ _ _ _ _ => pts_nil)
          (fun _ _ _ _ _ => pe_cal G hr (pa_cons (pv 0) (pa_cons (pv 2) pa_nil)))) pa_nil))))), ?_⟩
    refine ⟨_, rfl, .ref a, .ty "tuple", .type "tuple", .type "tuple", true, rfl, .ty _, hR.ty, kit_ty (by decide +kernel), true, rfl, iteT ?_⟩
    refine ⟨_, rfl, a, rfl, ⟨_, hR.sq⟩, lcm_tup (fun _ => .bl true) hR.sq (fun _ => rfl) (by rw [List.length_map]; omega) (fun i x H' R hx s k => ?_) fun l H' s nl hD => ?_⟩
    · obtain ⟨z, hz, rfl⟩ := int_at hx
      obtain ⟨z0, z1⟩ := hi z (List.mem_of_getElem? hz)
      exact ⟨_, rfl, _, rfl, p, n, m, z, rfl, O.same s, z0, z1, k H' (Same.refl _)⟩
    · refine ⟨l, _, rfl, SqL.of (hD.trans (congrArg (fun z => some (HO.lst z)) (bls_range _ fun _ => true))), ?_⟩
      rw [all_range fun _ _ => rfl]
      exact q _ s
def spCheckRow (K : PySem.W.Frag) : Sp := fun vs H Q _ => ∃ (p a : Addr) (n : Nat) (m : Int → Int → Bool) (ns : List Int), vs = [.ref p, .ref a] ∧ OfficeAt K H p n m ∧ Row H a ns ∧ RowIn n ns ∧ ns.length ≤ 1000 ∧ ∀ H', Same H H' → Q .non H'
theorem ok_check_row (T : Top K mg) : Cal P w K mg base 5 "check_row" (spCheckRow K) := by
  have G : Cal P w K mg base 4 "is_row_of" (spIsRowOf K) := ok_is_row_of T
  refine cal0 T.d_check_row sc_check_row (fun vs H Q E h => ?_) (fun f cdv A outer s H vs Q E hr h => ?_)
  · obtain ⟨p, a, n, m, ns, rfl, _⟩ := h
    rfl
  · obtain ⟨p, a, n, m, ns, rfl, O, hR, hi, hl, q⟩ := h
    refine ⟨_, pss_one (ps_if (pt_not (pt_val (pe_cal G hr (pa_cons (pv 0) (pa_cons (pv 1) pa_nil))))) pss_never pss_nil), ?_⟩
    exact ⟨_, rfl, _, rfl, p, a, n, m, ns, rfl, O, hR, hi, hl, fun H' s => ⟨true, rfl, iteF (q H' s)⟩⟩
def spCanBegin (K : PySem.W.Frag) : Sp := fun vs H Q _ => ∃ (p a : Addr) (n : Nat) (m : Int → Int → Bool) (ns : List Int) (k : Nat) (x : Int), vs = [.ref p, .ref a, .int (k : Nat)] ∧ OfficeAt K H p n m ∧ Row H a ns ∧ RowIn n ns ∧ ns.length ≤ 1000 ∧ ns[k]? = some x ∧
  ∀ H', Same H H' → Q (.bl (!(ns.take k).any fun y => m x y)) H'
theorem ok_can_begin (T : Top K mg) : Cal P w K mg base 1 "can_begin" (spCanBegin K) := by
  refine cal0 T.d_can_begin sc_can_begin (fun vs H Q E h => ?_) (fun f cdv A outer s H vs Q E hr h => ?_)
  · obtain ⟨p, a, n, m, ns, k, x, rfl, _⟩ := h
    rfl
  · obtain ⟨p, a, n, m, ns, k, x, rfl, O, hR, hi, hl, hk, q⟩ := h
    have nd := sc_can_begin.nd
    obtain ⟨C, dx, wa, km, fs, ws, cl, nW, nM, hp, fW, hwa, hwl, fM, M⟩ := O.ex
    obtain ⟨x0, x1⟩ := hi x (List.mem_of_getElem? hk)
    obtain ⟨as, fa, hkm, hat, hfa⟩ := M.row x0 x1
    refine ⟨_, pss_cons (ps_set (i := 3) nd rfl (.inr rfl) (pe_ix (ix_lK K) (pe_fld (pv 0) rfl) (pe_ix (ix_tK K) (pv 1) (pv 2) (fun _ _ => rfl)) (fun _ _ => rfl)))
      (pss_one (ps_ret (pe_not (pe_callB (cr_anyK K) (by rfl) T.b_any (by decide +kernel) (pa_cons
        (pe_lc (own := [("work", 4)]) (g := gName 4) (tt := tYes) rfl nd (pi_tupK K (pe_slice (sl_tK K) (pv 1) po_none (po_some (pv 2)))) (blkOk_by (N := n_can_begin) (sc := defScope t_can_begin) (by decide +kernel)) (fun _ _ _ _ _ => pg_name (i := 4) nd rfl (Or.inl rfl)) (fun _ _ _ _ _ => pts_nil)
          (fun _ _ _ _ _ => pe_ix (ix_lK K) (pv 3) (pv 4) (fun _ _ => rfl))) pa_nil))))), ?_⟩
    refine ⟨_, rfl, p, C, dx, fs, _, rfl, hp, cl, nM, fM, _, rfl, _, rfl, a, _, _, .int x, rfl, rfl, hR.sq, at_of (j := k) rfl (by rw [List.getElem?_map, hk]; rfl), km, _, _, _, rfl, rfl, SqL.of hkm, hat, ?_⟩
    refine ⟨_, rfl, _, rfl, (k : Int), rfl, sl_to hR k fun b H1 s1 hb => ⟨b, rfl, ⟨_, hb.sq⟩, ?_⟩⟩
    refine lcm_tup (fun i => .bl (m x ((ns.take k).getD i 0))) hb.sq (fun _ => rfl) (by rw [List.length_map, List.length_take]; omega) (fun i y H' R hy s2 kk => ?_) fun l H' s2 nl hD => ?_
    · obtain ⟨z, hz, rfl⟩ := int_at hy
      obtain ⟨z0, z1⟩ := hi z (List.mem_of_mem_take (List.mem_of_getElem? hz))
      have hf := s2 _ _ (s1 _ _ hfa)
      refine ⟨_, rfl, _, rfl, fa, _, z, _, rfl, rfl, SqL.of hf, flag_at z0 z1, ?_⟩
      refine r_of ?_ (kk H' (Same.refl _))
      rw [List.getD_eq_getElem?_getD, hz]
      rfl
    · refine ⟨l, _, rfl, SqL.of (hD.trans (congrArg (fun z => some (HO.lst z)) (bls_range _ _))), _, rfl, ?_⟩
      have e1 : (List.range ((ns.take k).map V.int).length).map (fun i => m x ((ns.take k).getD i 0)) = (ns.take k).map fun y => m x y := by
        rw [List.length_map]
        refine map_range _ fun j z hz => ?_
        rw [List.getD_eq_getElem?_getD, hz]
        rfl
      refine r_of ?_ (q H' (s1.trans s2))
      rw [e1, List.any_map]
      rfl
end
end LW
/-! The walk: beginners. -/
namespace LW
open PySem PySem.Spec PyProof.Rows L2
theorem Meets.two {m : Int → Int → Bool} (h : Meets m) : (∀ a, m a a = true) ∧ ∀ a b, m a b = m b a := ⟨h.r, h.s⟩
/-- the place of a work, as a value -/
def placeV (m : Int → Int → Bool) (ns : List Int) (z : Int) : V := .int (((freeAt m ns z).getD 0 : Nat) : Int)
section
variable {P : Program} {w : World} {K : PySem.W.Frag} {mg : Str → Option Value} {base : Heap}
def spBeginners (K : PySem.W.Frag) : Sp := fun vs H Q _ => ∃ (p a : Addr) (n : Nat) (m : Int → Int → Bool) (ns : List Int), vs = [.ref p, .ref a] ∧ OfficeAt K H p n m ∧ Meets m ∧ Row H a ns ∧ RowIn n ns ∧ ns.length ≤ 62 ∧
  ∀ (H' : Hp) (d : Addr) (ws : List Int), Same H H' → H' d = some (.dK (tabI (placeV m ns) ws)) → ws.Pairwise (· ≤ ·) → (∀ z, z ∈ ws ↔ (freeAt m ns z).isSome = true) → Q (.ref d) H'
/-- what the dict holds ahead of place i -/
def found (m : Int → Int → Bool) (ns : List Int) (i : Nat) (z : Int) : Option V := (freeAt m ns z).bind fun k => if k < i then some (.int (k : Nat)) else none
theorem found_step {m : Int → Int → Bool} {ns : List Int} {i : Nat} {x z : Int} (hx : ns[i]? = some x) : found m ns (i + 1) z = if z = x ∧ freeAt m ns x = some i then some (.int (i : Nat)) else found m ns i z := by
  unfold found
  cases e : freeAt m ns z with
  | none =>
    rw [if_neg]
    · rfl
    · rintro ⟨rfl, q⟩
      rw [e] at q
      cases q
  | some k =>
    show (if k < i + 1 then _ else _) = _
    by_cases hk : k = i
    · subst hk
      have hz : z = x := Option.some.inj ((free_lt e).2.symm.trans hx)
      rw [if_pos (Nat.lt_succ_self k), if_pos ⟨hz, by rw [← hz]; exact e⟩]
    · rw [if_neg (show ¬ (z = x ∧ freeAt m ns x = some i) from ?_)]
      · show _ = if k < i then _ else _
        by_cases h2 : k < i
        · rw [if_pos h2, if_pos (by omega)]
        · rw [if_neg h2, if_neg (by omega)]
      · rintro ⟨rfl, q⟩
        rw [e] at q
        exact hk (Option.some.inj q)
theorem ok_beginners (T : Top K mg) : Cal P w K mg base 2 "beginners" (spBeginners K) := by
  have G : Cal P w K mg base 1 "can_begin" (spCanBegin K) := ok_can_begin T
  refine cal0 T.d_beginners sc_beginners (fun vs H Q E h => ?_) (fun f cdv A outer s H vs Q E hr h => ?_)
  · obtain ⟨p, a, n, m, ns, rfl, _⟩ := h
    rfl
  · obtain ⟨p, a, n, m, ns, rfl, O, mm, hR, hi, hl, q⟩ := h
    have nd := sc_beginners.nd
    have hu := hu_of hr
    refine ⟨_, pss_cons (ps_set (i := 2) nd rfl (.inr rfl) pe_dnewK)
      (pss_cons (ps_for PassesOwn.never rfl (pi_enumT (by rfl) T.b_enumerate (pa_cons (pv 1) pa_nil)) (pg_tup rfl (pgs_cons (pg_name (i := 3) nd rfl (Or.inl rfl)) (pgs_cons (pg_name (i := 4) nd rfl (Or.inl rfl)) pgs_nil)))
        (pss_one (ps_if (PW.pt (pw_and (pt_cmp (pc_dnotin hu (pv 4) (pv 2)) (by rfl)) (pw_and1 (pt_val (pe_cal G hr (pa_cons (pv 0) (pa_cons (pv 1) (pa_cons (pv 3) pa_nil))))))))
          (pss_one (ps_dput hu (pv 2) (pv 4) (pv 3) rfl)) pss_nil)))
      (pss_one (ps_ret (pe_dc (own := [("work", 4)]) (g := gName 4) (tt := tYes) rfl nd (pi_listK K (pe_callB (call_sortedDI rfl) (by rfl) T.b_sorted (by decide +kernel) (pa_cons (pv 2) pa_nil))) (blkOk_by (N := n_beginners) (sc := defScope t_beginners) (by decide +kernel))
        (fun _ _ _ _ _ => pg_name (i := 4) nd rfl (Or.inl rfl)) (fun _ _ _ _ _ => pts_nil) (fun _ _ _ _ _ => pv 4) (fun _ _ _ _ _ => pe_dget hu (pv 2) (pv 4) (fun _ _ => rfl)))))), ?_⟩
    intro d nd0
    refine ⟨_, rfl, a, ns.map V.int, rfl, (hR.same (same_new nd0)).sq, ?_⟩
    refine for_enumT (fun i σ H' => ∃ y3 y4, σ = [some (.ref p), some (.ref a), some (.ref d), y3, y4] ∧ Same H H' ∧ ∃ (kvs : List (Key × V)) (ks : List Int), H' d = some (.dK kvs) ∧ kvs.map (·.1) = ks.map Sum.inl ∧ ks.Nodup ∧ ks.length ≤ i ∧
      ∀ z, valV kvs (Sum.inl z) = found m ns i z) ⟨none, none, rfl, same_new nd0, [], [], upd_same, rfl, List.nodup_nil, Nat.le_refl _, fun z => ?_⟩ (fun i σ H' ⟨_, _, _, s, _⟩ => (hR.same s).sq) ?_ ?_
    · unfold found
      cases freeAt m ns z with
      | none => rfl
      | some k => rfl
    · rintro i x σ H' t hx ⟨y3, y4, rfl, s, kvs, ks, hd, hks, knd, kl, hv⟩ nt
      obtain ⟨z, hz, rfl⟩ := int_at hx
      have il := (List.getElem?_eq_some_iff.mp hz).1
      have st : Same H' (upd H' t (.tup [.int (i : Nat), .int z])) := same_new nt
      have s2 := s.trans st
      have hd2 := st _ _ hd
      refine ⟨t, _, rfl, SqT.of upd_same, rfl, _, _, rfl, _, _, rfl, rfl, ?_⟩
      refine ⟨_, rfl, _, rfl, d, _, rfl, DGet.k (k := Sum.inl z) hd2, _, rfl, ?_⟩
      rw [hv z]
      have keep : freeAt m ns z ≠ some i → ∀ (H2 : Hp), Same (upd H' t (.tup [.int (i : Nat), .int z])) H2 → ∃ y3 y4, [some (V.ref p), some (.ref a), some (.ref d), some (.int (i : Nat)), some (.int z)] = [some (.ref p), some (.ref a), some (.ref d), y3, y4] ∧ Same H H2 ∧
          ∃ (kvs : List (Key × V)) (ks : List Int), H2 d = some (.dK kvs) ∧ kvs.map (·.1) = ks.map Sum.inl ∧ ks.Nodup ∧ ks.length ≤ i + 1 ∧ ∀ z, valV kvs (Sum.inl z) = found m ns (i + 1) z := fun hne H2 s3 =>
        ⟨_, _, rfl, s2.trans s3, kvs, ks, s3 _ _ hd2, hks, knd, by omega, fun y => by rw [found_step hz, if_neg (fun c => hne c.2)]; exact hv y⟩
      cases ef : found m ns i z with
      | some v =>
        refine iteF ?_
        refine keep (fun e => ?_) _ (Same.refl _)
        unfold found at ef
        rw [e] at ef
        have ef2 : (if i < i then some (V.int (i : Nat)) else none) = some v := ef
        rw [if_neg (Nat.lt_irrefl i)] at ef2
        cases ef2
      | none =>
        refine iteT ?_
        refine ⟨_, rfl, _, rfl, _, rfl, p, a, n, m, ns, i, z, rfl, O.same s2, hR.same s2, hi, by omega, hz, fun H3 s3 => ⟨_, rfl, ite2 (fun hb => ?_) (fun hb => ?_)⟩⟩
        · have hf := (free_here mm.two hz).mp hb
          have hd3 := s3 _ _ hd2
          have zn : z ∉ ks := fun hm => by
            have h1 : valV kvs (Sum.inl z) ≠ none := fun e => by
              have h2 : (kvs.any fun kv => decide (kv.1 = (Sum.inl z : Key))) = false := by rw [valV_any, e]; rfl
              rw [List.any_eq_false] at h2
              have hm2 : (Sum.inl z : Key) ∈ kvs.map (·.1) := by rw [hks]; exact List.mem_map.mpr ⟨z, hm, rfl⟩
              obtain ⟨kv, hkv, ekv⟩ := List.mem_map.mp hm2
              exact h2 kv hkv (decide_eq_true ekv)
            exact h1 ((hv z).trans ef)
          refine ⟨_, rfl, _, rfl, _, rfl, d, _, rfl, DPut.k (k := Sum.inl z) hd3 ?_, ?_⟩
          · have e1 : kvs.length = ks.length := by
              have := congrArg List.length hks
              rw [List.length_map, List.length_map] at this
              exact this
            exact small5 (by omega)
          · refine ⟨_, _, rfl, same_mut (s2.trans s3) nd0, _, ks ++ [z], upd_same, ?_, ?_, ?_, fun y => ?_⟩
            · rw [putK_new _ ((hv z).trans ef), List.map_append, hks, List.map_append]
              rfl
            · rw [List.nodup_append]
              refine ⟨knd, by simp, fun u hu v hv2 e => zn ?_⟩
              rw [← List.mem_singleton.mp hv2, ← e]
              exact hu
            · rw [List.length_append]
              show ks.length + 1 ≤ i + 1
              omega
            · rw [valV_put, found_step hz, hv y]
              by_cases hy : y = z
              · subst hy
                rw [if_pos rfl, if_pos ⟨rfl, hf⟩]
              · rw [if_neg (fun e => hy (Sum.inl.inj e)), if_neg (fun c => hy c.1)]
        · exact keep (fun e => hb ((free_here mm.two hz).mpr e)) H3 s3
    · rintro σ H' ⟨y3, y4, rfl, s, kvs, ks, hd, hks, knd, kl, hv⟩
      rw [List.length_map] at kl hv
      refine ⟨_, rfl, d, kvs, ks, rfl, .inl hd, hks, by omega, fun ys l perm sorted nl => ⟨l, rfl, ⟨_, SqL.of upd_same⟩, ?_⟩⟩
      have sl : Same H' (upd H' l (.lst (ys.map V.int))) := same_new nl
      have memk : ∀ z, z ∈ ks ↔ (freeAt m ns z).isSome = true := fun z => by
        have hs : (valV kvs (Sum.inl z)).isSome = (freeAt m ns z).isSome := by
          rw [hv z]
          unfold found
          cases e : freeAt m ns z with
          | none => rfl
          | some k =>
            show (if k < ns.length then some (V.int (k : Nat)) else none).isSome = true
            rw [if_pos (free_lt e).1]
            rfl
        rw [← hs, ← valV_any, List.any_eq_true]
        constructor
        · intro hm
          have hm2 : (Sum.inl z : Key) ∈ kvs.map (·.1) := by rw [hks]; exact List.mem_map.mpr ⟨z, hm, rfl⟩
          obtain ⟨kv, hkv, ekv⟩ := List.mem_map.mp hm2
          exact ⟨kv, hkv, decide_eq_true ekv⟩
        · rintro ⟨kv, hkv, ekv⟩
          have hm2 : (Sum.inl z : Key) ∈ ks.map Sum.inl := by
            rw [← hks]
            exact List.mem_map.mpr ⟨kv, hkv, of_decide_eq_true ekv⟩
          obtain ⟨y, hy, e⟩ := List.mem_map.mp hm2
          rw [← Sum.inl.inj e]
          exact hy
      have memy : ∀ z, z ∈ ys ↔ (freeAt m ns z).isSome = true := fun z => by rw [perm.mem_iff, memk]
      refine dcm_list (placeV m ns) (SqL.of upd_same) (perm.nodup_iff.mpr knd) (fun _ => rfl) (by rw [perm.length_eq]; omega) (fun z H2 R hz s2 k => ?_) fun D H2 s2 nD hD => ?_
      · have hd2 := s2 _ _ (sl _ _ hd)
        refine ⟨_, rfl, _, rfl, _, rfl, d, placeV m ns z, rfl, ?_, k⟩
        have e : valV kvs (Sum.inl z) = some (placeV m ns z) := by
          rw [hv z]
          unfold found placeV
          have := (memy z).mp hz
          cases e : freeAt m ns z with
          | none => rw [e] at this; cases this
          | some k =>
            show (if k < ns.length then some (V.int (k : Nat)) else none) = _
            rw [if_pos (free_lt e).1]
            rfl
        rw [← e]
        exact DGet.k (k := Sum.inl z) hd2
      · exact q H2 D ys ((s.trans sl).trans s2) hD sorted memy
end
end LW
/-! Tuples whose object is known (it has no dict of its own), and a method called on them; a dict keyed by tuples of either kind. -/
namespace LW
open PySem PySem.Spec PyProof.Rows L2
/-- the object of a new tuple -/
abbrev tupO (us : Array Value) : Obj := { cls := .type "tuple", data := .seq us }
section
variable {X : Cx}
/-- a new tuple, its object known -/
theorem laid_tupN {pins : List (Addr × Obj)} {σ : L2.St} {H : Hp} {s : Shared} {xs : List V} {us : List Value} (I : Inv X pins σ H s) (hz : xs.length ≤ sizeLine) (r : Vals xs us) :
    Inv X pins σ (upd H s.heap.objs.size (.frz (tupO us.toArray) (.tup xs))) { s with heap := s.heap.push (tupO us.toArray) } :=
  I.laid (t' := s.toks) (fun b ob q => Heap.get?_push_of_some _ q) (Nat.le_refl _) ⟨Heap.get?_push_size _ rfl, hz, us, r, IsTup.new _ _⟩
/-- tuple(l), l a list -/
def rTupN (K : PySem.W.Frag) : List V → Hp → VK → Prop := fun xs H Q => ∃ (p : Addr) (ys : List V), xs = [.ref p] ∧ SqL K H p ys ∧ ∀ (l : Addr) (o : Obj), H l = none → o.dict = none → Q (.ref l) (upd H l (.frz o (.tup ys)))
theorem call_tupN (K : PySem.W.Frag) (e : X.K = K := by rfl) : CallR X (.type "tuple") (rTupN K) := by
  subst e
  intro pins s σ H xs us Q I r h
  obtain ⟨p, ys, rfl, hq, q⟩ := h
  obtain ⟨u, rfl, rx⟩ := vals1 r
  cases rx
  obtain ⟨its, rv, pl, hz⟩ := I.list hq
  refine call_tuple_list pl.isList (fun h' kp => ?_) (by rw [List.size_toArray, ← rv.length]; exact hz)
  have J : Inv X pins σ H { s with heap := h' } := I.kept (t' := s.toks) kp
  exact ⟨.ref h'.objs.size, _, laid_tupN J hz rv, rfl, q _ _ (J.hok.fresh (Nat.le_refl _)) rfl⟩
/-- t + u -/
def rCatN (K : PySem.W.Frag) : R2 := fun x y H Q => ∃ (a b : Addr) (xs ys : List V), x = .ref a ∧ y = .ref b ∧ SqT K H a xs ∧ SqT K H b ys ∧ xs.length + ys.length ≤ sizeLine ∧ (xs = [] → Q (.ref b) H) ∧
  (xs ≠ [] → ys = [] → Q (.ref a) H) ∧ (xs ≠ [] → ys ≠ [] → ∀ (p : Addr) (o : Obj), H p = none → o.dict = none → Q (.ref p) (upd H p (.frz o (.tup (xs ++ ys)))))
theorem op_catN (K : PySem.W.Frag) (e : X.K = K := by rfl) : OpR X (binaryOp .Add) (rCatN K) := by
  subst e
  intro pins s σ H x y v u Q I rx ry h
  obtain ⟨a, b, xs, ys, rfl, rfl, ha, hb, hz, q0, q1, q2⟩ := h
  by_cases hx : xs = []
  · exact op_catA pins s σ H _ _ v u Q I rx ry ⟨a, b, xs, ys, rfl, rfl, ha, hb, hz, q0, fun z => absurd hx z, fun z => absurd hx z⟩
  · by_cases hy : ys = []
    · exact op_catA pins s σ H _ _ v u Q I rx ry ⟨a, b, xs, ys, rfl, rfl, ha, hb, hz, q0, q1, fun _ z => absurd hy z⟩
    · cases rx
      cases ry
      obtain ⟨its, r1, p1, _⟩ := I.tuple ha
      obtain ⟨its2, r2, p2, _⟩ := I.tuple hb
      refine HT.cat_tup p1 p2 (fun z => hx (r1.nil_iff.mp z)) (fun z => absurd (r2.nil_iff.mp z) hy) (fun _ => ?_) (by rw [← r1.length, ← r2.length]; exact hz)
      exact ⟨.ref s.heap.objs.size, _, laid_tupN I (by rw [List.length_append]; exact hz) (r1.append r2), rfl, q2 hx hy _ _ (I.hok.fresh (Nat.le_refl _)) rfl⟩
/-- t[lo:hi] -/
def rSlN (K : PySem.W.Frag) : V → Option Int → Option Int → Hp → VK → Prop := fun x lo hi H Q => ∃ (a : Addr) (xs : List V), x = .ref a ∧ SqT K H a xs ∧
  (HT.sIx xs.length 0 lo = 0 ∧ HT.sIx xs.length xs.length hi = xs.length → Q (.ref a) H) ∧
  (¬ (HT.sIx xs.length 0 lo = 0 ∧ HT.sIx xs.length xs.length hi = xs.length) → ∀ (p : Addr) (o : Obj), H p = none → o.dict = none → Q (.ref p) (upd H p (.frz o (.tup (cutV xs lo hi)))))
theorem sl_tN (K : PySem.W.Frag) (e : X.K = K := by rfl) : SlR X (rSlN K) := by
  subst e
  intro pins s σ H x v vl vu lo hi sl Q I rx hs pl pu h
  obtain ⟨a, xs, rfl, hx, q1, q2⟩ := h
  by_cases hw : HT.sIx xs.length 0 lo = 0 ∧ HT.sIx xs.length xs.length hi = xs.length
  · exact sl_tupA pins s σ H _ v vl vu lo hi sl Q I rx hs pl pu ⟨a, xs, rfl, hx, q1, fun z => absurd hw z⟩
  · cases rx
    obtain ⟨its, r, ht, hz⟩ := I.tuple hx
    have hlen : its.toArray.size = xs.length := by rw [List.size_toArray, ← r.length]
    refine ⟨"tuple", _, PyProof.Rows.slot_tuple_getitem.lookup, ht.typeIs, HT.getItem_tuple_cut ht hs pl pu (by rw [hlen]; exact hw) ?_ (by rw [hlen]; exact hz)⟩
    rw [hlen]
    exact ⟨.ref s.heap.objs.size, _, laid_tupN I (Nat.le_trans (cutV_length xs lo hi) hz) ((r.drop (HT.sIx xs.length 0 lo)).take (HT.sIx xs.length xs.length hi - HT.sIx xs.length 0 lo)), rfl, q2 hw _ _ (I.hok.fresh (Nat.le_refl _)) rfl⟩
/-- t.m(e), t a known tuple without a dict -/
def tBMN (r : V → List V → Hp → VK → Prop) (to : TE) (t : TA) : TE := fun σ H Q => to σ H fun x H1 => (∃ (a : Addr) (o : Obj) (xs : List V), x = .ref a ∧ H1 a = some (.frz o (.tup xs)) ∧ o.dict = none) ∧ t σ H1 fun xs H2 => r x xs H2 Q
theorem pe_bmN {o e : Expr} {es : List Expr} {to : TE} {t : TA} {name : Str} {apos cpos : Pos} {id : String} {r : V → List V → Hp → VK → Prop} (slot : Slot "tuple" name id) (hty : typeOf (.builtin id) = pure (.type "method_descriptor")) (hm : MtR X id r)
    (ho : PE X o to) (ha : PA X (e :: es) t) (hbase : attributeBase o name X.env (eval o X.env) = eval o X.env := by rfl)
    (hfew : ((backTo cpos (starEach (e :: es) X.env)).all (fun x => !x.1) && (backToKw cpos (keywordEach [] X.env)).all (fun x => x.1.isSome) && decide ((e :: es).length + ([] : List Keyword).length + (if ([] : List Keyword).isEmpty then 0 else 1) < 30)) = true := by rfl)
    (hline : (apos.endLine == cpos.line) = true := by rfl) (hs : starEach (e :: es) X.env = (false, eval e X.env) :: starEach es X.env := by rfl) (hplain : (backTo cpos (starEach es X.env)).any (·.1) = false := by rfl) :
    PE X (.Call (.Attribute o name apos) (e :: es) [] cpos) (tBMN r to t) := by
  refine ⟨fun pins s σ H Q I h => ?_⟩
  refine wpAny_Call_method_late hbase hfew hline rfl (thn (ho.run pins s σ H _ I h) fun v s1 hv => ?_)
  obtain ⟨x, H1, J, r1, ⟨a, ob, xs, rfl, hob, hd⟩, q1⟩ := hv
  cases r1
  obtain ⟨hget, hz, its, rv, it⟩ := J.hok a _ hob
  refine ⟨"tuple", id, PySem.F.plainAttrs_tuple, slot, hty, it.typeIs, fun b eb => ?_, ?_⟩
  · cases eb
    exact ⟨ob, hget, hd⟩
  · have hA := ha.run cpos pins s1 σ H1 _ J q1
    rw [hs] at hA ⊢
    refine Calls.callWith_builtin (by show (false || (backTo cpos (starEach es X.env)).any (·.1)) = false; rw [hplain] <;> rfl) (Calls.evalArgs_plain (thn hA fun us s2 hz => ?_))
    obtain ⟨vs, H2, J2, r2, q2⟩ := hz
    exact hm pins s2 σ H2 (.ref a) vs (.ref a) us Q J2 rfl r2 q2
end
section
variable {K : PySem.W.Frag} {H : Hp} {a b : Addr} {ns ms : List Int} {Q : VK}
theorem rowN_new {p : Addr} {o : Obj} {xs : List Int} (d : o.dict = none) : RowN (upd H p (.frz o (.tup (xs.map V.int)))) p xs := ⟨o, upd_same, d⟩
theorem slN_to (h : RowN H a ns) (k : Nat) (q : ∀ b H', Same H H' → RowN H' b (ns.take k) → Q (.ref b) H') : rSlN K (.ref a) none (some (k : Int)) H Q := by
  refine ⟨a, _, rfl, h.row.sq, fun hw => ?_, fun _ p o np d => ?_⟩
  · have e : ns.take k = ns := by
      have h2 := hw.2
      rw [HT.sIx_nat, List.length_map] at h2
      exact List.take_of_length_le (by omega)
    exact q a H (Same.refl H) (by rw [e]; exact h)
  · rw [cut_to, ← List.map_take]
    exact q p _ (same_new np) (rowN_new d)
theorem slN_from (h : RowN H a ns) (k : Nat) (q : ∀ b H', Same H H' → RowN H' b (ns.drop k) → Q (.ref b) H') : rSlN K (.ref a) (some (k : Int)) none H Q := by
  refine ⟨a, _, rfl, h.row.sq, fun hw => ?_, fun _ p o np d => ?_⟩
  · have e : ns.drop k = ns := by
      have h1 := hw.1
      rw [HT.sIx_nat, List.length_map] at h1
      by_cases hk : k = 0
      · rw [hk]
        rfl
      · rw [List.eq_nil_of_length_eq_zero (show ns.length = 0 by omega)]
        exact List.drop_nil
    exact q a H (Same.refl H) (by rw [e]; exact h)
  · rw [cut_from, ← List.map_drop]
    exact q p _ (same_new np) (rowN_new d)
theorem catN_rows (h : RowN H a ns) (g : RowN H b ms) (hz : ns.length + ms.length ≤ 100000) (q : ∀ c H', Same H H' → RowN H' c (ns ++ ms) → Q (.ref c) H') : rCatN K (.ref a) (.ref b) H Q := by
  refine ⟨a, b, _, _, rfl, rfl, h.row.sq, g.row.sq, ?_, fun e => ?_, fun _ e => ?_, fun _ _ p o np d => ?_⟩
  · rw [List.length_map, List.length_map]
    exact Nat.le_of_lt (small5 hz)
  · have e2 : ns = [] := List.map_eq_nil_iff.mp e
    exact q b H (Same.refl H) (by rw [e2]; exact g)
  · have e2 : ms = [] := List.map_eq_nil_iff.mp e
    exact q a H (Same.refl H) (by rw [e2, List.append_nil]; exact h)
  · rw [← List.map_append]
    exact q p _ (same_new np) (rowN_new d)
end
end LW
/-! A dict keyed by tuples of ints of either kind (known to their objects or not); its values are ints. -/
namespace LW
open PySem PySem.Spec PyProof.Rows L2
abbrev RowKey := List Int × Addr
def ki (ns : List Int) : List Key := ns.map Sum.inl
theorem ki_inj : ∀ {a b : List Int}, ki a = ki b → a = b
  | [], [], _ => rfl
  | [], _ :: _, e => nomatch e
  | _ :: _, [], e => nomatch e
  | x :: r, y :: t, e => by
    injection e with e1 e2
    rw [Sum.inl.inj e1, ki_inj (a := r) (b := t) e2]
theorem kv_ki (ns : List Int) : (ki ns).map kV = ns.map V.int := by
  unfold ki
  rw [List.map_map]
  rfl
abbrev RK : List RowKey → List (List Key × Addr × Value) → Prop := Paired fun (p : RowKey) (q : List Key × Addr × Value) => q.1 = ki p.1 ∧ q.2.1 = p.2 ∧ ∃ i t, q.2.2 = Value.int i t
def DictR (P : Program) (w : World) (a : Addr) (ks : List RowKey) (h : Heap) : Prop := ks.length ≤ sizeLine ∧ (a == sysModules) = false ∧ ∃ xs, RK ks xs ∧
  ∃ o es ep, h.get? a = some o ∧ o.ExactDict ∧ o.data = .dict es ep ∧ es.toList = xs.map (entryOfKey (tupleKind (mixKind P w))) ∧ (xs.map (·.1)).Nodup
/-- the dict of rows at a: its keys' rows, with their tuples -/
def DO (P : Program) (w : World) (a : Addr) (ks : List RowKey) : HO := .ext (DictR P w a ks)
/-- the keys' tuples stand -/
def RowsD (H : Hp) (ks : List RowKey) : Prop := ∀ p ∈ ks, Row H p.2 p.1
theorem RowsD.same {H H' : Hp} {ks : List RowKey} (h : RowsD H ks) (s : Same H H') : RowsD H' ks := fun p hp => (h p hp).same s
theorem DictR.ok {P : Program} {w : World} {H : Hp} {h : Heap} {a : Addr} {ks : List RowKey} (R : DictR P w a ks h) : ObjOk P w H h a (DO P w a ks) := by
  obtain ⟨z, y, xs, r, o, es, ep, ho, q⟩ := id R
  exact ⟨R, ⟨o, ho⟩, fun h1 h2 p k => let ⟨z, y, xs, r, o, es, ep, ho, q⟩ := p; ⟨z, y, xs, r, o, es, ep, k o ho, q⟩⟩
theorem RK.at {ks : List RowKey} {xs : List (List Key × Addr × Value)} (r : RK ks xs) (ns : List Int) : (atKey xs (ki ns)).isSome = decide (ns ∈ ks.map (·.1)) ∧ ∀ p, atKey xs (ki ns) = some p → ∃ i t, p.2 = Value.int i t := by
  induction r with
  | nil => exact ⟨rfl, fun p e => nomatch e⟩
  | @cons p q ps qs h t ih =>
    obtain ⟨h1, h2, h3⟩ := h
    by_cases e : q.1 = ki ns
    · have b : atKey (q :: qs) (ki ns) = some q.2 := by simp [atKey, List.find?_cons, e]
      have e2 : ns = p.1 := ki_inj (e.symm.trans h1)
      refine ⟨?_, fun y ey => ?_⟩
      · rw [b, decide_eq_true (by rw [List.map_cons, e2]; exact List.mem_cons_self)]
        rfl
      · rw [b] at ey
        rw [← Option.some.inj ey]
        exact h3
    · have b : atKey (q :: qs) (ki ns) = atKey qs (ki ns) := by simp [atKey, List.find?_cons, e]
      have e2 : ¬ ns = p.1 := fun z => e (by rw [h1, z])
      rw [b]
      refine ⟨?_, ih.2⟩
      rw [ih.1]
      refine decide_eq_decide.mpr ?_
      rw [List.map_cons, List.mem_cons]
      exact ⟨.inr, fun z => z.elim (fun z => absurd z e2) id⟩
section
variable {P : Program} {w : World} {H : Hp} {h : Heap} {a b : Addr} {ks : List RowKey} {ns : List Int}
theorem key_row (ok : HOk P w H h) (e : Row H b ns) : (tupleKind (mixKind P w)).is h (ki ns) b := by
  have e' : Rd H b (.tup ((ki ns).map kV)) := by rw [kv_ki]; exact e
  obtain ⟨_, its, r, o, h1, h2, n, h3⟩ := (show ObjOk P w H h b (.tup ((ki ns).map kV)) from e'.ok ok)
  exact ⟨o, its.toArray, n, h1, h2, h3, by simpa using items_are r⟩
theorem do_rd (ok : HOk P w H h) (e : Rd H a (DO P w a ks)) (f : RowsD H ks) : ks.length ≤ sizeLine ∧ (a == sysModules) = false ∧ ∃ xs, RK ks xs ∧ h.DictOfH (tupleKind (mixKind P w)) a xs := by
  have R : DictR P w a ks h := (show ObjOk P w H h a (DO P w a ks) from e.ok ok).1
  obtain ⟨z, y, xs, r, o, es, ep, h1, h2, h3, h4, h5⟩ := R
  refine ⟨z, y, xs, r, o, es, ep, h1, h2, h3, h4, fun x hx => ?_, h5⟩
  have all : ∀ {l : List RowKey} {m : List (List Key × Addr × Value)}, RK l m → (∀ p ∈ l, Row H p.2 p.1) → ∀ x ∈ m, (tupleKind (mixKind P w)).is h x.1 x.2.1 := by
    intro l m q
    induction q with
    | nil => intro _ x hx; exact nomatch hx
    | @cons p q ps qs hq t ih =>
      intro f x hx
      rcases List.mem_cons.mp hx with e | hx
      · subst e
        rw [hq.1, hq.2.1]
        exact key_row ok (f p List.mem_cons_self)
      · exact ih (fun p hp => f p (List.mem_cons_of_mem _ hp)) x hx
  exact all r f x hx
theorem do_new {h' : Heap} {xs : List (List Key × Addr × Value)} {i : Int} {t : Tok} (z : ks.length < sizeLine) (hd : (a == sysModules) = false) (r : RK ks xs) (no : ns ∉ ks.map (·.1))
    (dd : h'.DictOfH (tupleKind (mixKind P w)) a (storedH xs (ki ns) b (.int i t))) : DictR P w a (ks ++ [(ns, b)]) h' := by
  have e : atKey xs (ki ns) = none := by
    have := (r.at ns).1
    rw [decide_eq_false no] at this
    exact Option.isSome_eq_false_iff.mp this |> Option.isNone_iff_eq_none.mp
  rw [storedH_new e] at dd
  obtain ⟨q, es, ep, hq, h2, h3, h4, _, h5⟩ := dd
  refine ⟨?_, hd, _, Paired.snoc r ⟨rfl, rfl, i, t, rfl⟩, q, es, ep, hq, h2, h3, h4, h5⟩
  rw [List.length_append]
  exact z
end
/-! ### rules -/
section
variable {X : Cx} {o i e value ke ve : Expr} {pos pos' : Pos} {td ty tv tk : TE}
/-- {k: v}, one entry -/
def rDispO (P : Program) (w : World) (p : Addr) (ps : List (V × V)) (H2 : Hp) (Q : VK) : Prop := ∃ (b : Addr) (ns : List Int) (i : Int), ps = [(.ref b, .int i)] ∧
  H2 p = some (DO P w p []) ∧ Row H2 b ns ∧ Q (.ref p) (upd H2 p (DO P w p [(ns, b)]))
def tDispO (P : Program) (w : World) (tk tv : TE) : TE := fun σ H Q => ∀ p, H p = none → tk σ (upd H p (DO P w p [])) fun x H1 => tv σ H1 fun y H2 => rDispO P w p [(x, y)] H2 Q
theorem pe_dispO (P : Program) (w : World) (hu : X.A.units + 1 < cLine) (hk : PE X ke tk) (hv : PE X ve tv) (eP : X.prog = P := by rfl) (ew : X.w = w := by rfl) : PE X (.Dict [some ke] [ve] pos) (tDispO P w tk tv) := by
  subst eP ew
  refine ⟨fun pins s σ H Q I q => ?_⟩
  have hn : H s.heap.objs.size = none := I.hok.fresh (Nat.le_refl s.heap.objs.size)
  have J := I.laid (a := s.heap.objs.size) (o := DO X.prog X.w s.heap.objs.size []) (h' := s.heap.push { cls := .type "dict", data := .dict #[] }) (t' := s.toks)
    (fun _ _ z => Heap.get?_push_of_some _ z) (Nat.le_refl _) (DictR.ok ⟨Nat.zero_le _, beq_eq_false_iff_ne.mpr (Ne.symm (Nat.ne_of_lt I.big)), [], .nil, _, #[], 0, Heap.get?_push_size _ rfl, ⟨rfl, rfl, rfl⟩, rfl, rfl, List.nodup_nil⟩)
  have pp : PPs X pos [some ke] [ve] [(tk, tv)] := pps_cons hk hv pps_nil
  refine wpAny_Dict_any (by rfl) (by rfl) (by intro z; cases z) (Nat.le_of_ble_eq_true rfl) ?_
  refine thn (pp.run pins _ σ _ (fun ps H2 => rDispO X.prog X.w s.heap.objs.size ps H2 Q) J (q _ hn)) fun ws s2 hw => ?_
  obtain ⟨ps, H2, J2, rel, b, ns, i, rfl, hp, hb, qq⟩ := hw
  cases rel with
  | cons r1 r2 =>
    cases r2
    rename_i w1
    obtain ⟨k1, v1⟩ := w1
    obtain ⟨ra, rb⟩ := r1
    obtain rfl : k1 = Value.ref b := ra
    obtain ⟨t, rfl⟩ : ∃ t, v1 = Value.int i t := rb
    obtain ⟨z, hd, xs, rl, dd⟩ := do_rd J2.hok (.inl hp) (fun p hp => nomatch hp)
    cases rl
    show wpAny _ _ (forIn [(Value.ref b, Value.int i t)] PUnit.unit _) _ _ s2
    rw [List.forIn_cons]
    refine wpAny_bind (wpAny_bind (wpAny_dictSet_heap (knd := tupleKind (mixKind X.prog X.w)) (hsz := Nat.zero_le _) (show X.A.units < cLine by omega) (key_row J2.hok hb) dd fun h' dd' hs => wpAny_pure ?_))
    show wpAny _ _ (forIn ([] : List (Value × Value)) PUnit.unit _) _ _ _
    rw [List.forIn_nil]
    refine wpAny_pure ?_
    have R := do_new (ks := []) (by decide) hd .nil (by simp) dd'
    have ⟨_, _, _, _, q, _, _, hq, _⟩ := R
    exact ⟨.ref s.heap.objs.size, upd H2 s.heap.objs.size (DO X.prog X.w s.heap.objs.size [(ns, b)]), d_write J2 (by rw [hp]; exact True.intro) hs ⟨q, hq⟩ R.ok, rfl, qq⟩
/-- y not in d, y in d -/
def tDONot (P : Program) (w : World) (ty td : TE) : TE := fun σ H Q => ty σ H fun y H1 => td σ H1 fun x H2 => ∃ (a b : Addr) (ks : List RowKey) (ns : List Int), x = .ref a ∧ y = .ref b ∧ Rd H2 a (DO P w a ks) ∧ RowsD H2 ks ∧ Row H2 b ns ∧ Q (.bl (!decide (ns ∈ ks.map (·.1)))) H2
def tDOIn (P : Program) (w : World) (ty td : TE) : TE := fun σ H Q => ty σ H fun y H1 => td σ H1 fun x H2 => ∃ (a b : Addr) (ks : List RowKey) (ns : List Int), x = .ref a ∧ y = .ref b ∧ Rd H2 a (DO P w a ks) ∧ RowsD H2 ks ∧ Row H2 b ns ∧ Q (.bl (decide (ns ∈ ks.map (·.1)))) H2
theorem pc_donot (P : Program) (w : World) (hu : X.A.units + 1 < cLine) (hi : PE X i ty) (ho : PE X o td) (eP : X.prog = P := by rfl) (ew : X.w = w := by rfl) : PC X .NotIn i o (tDONot P w ty td) := by
  subst eP ew
  refine ⟨fun pins s σ H Q I h => ?_⟩
  refine thn (hi.run pins s σ H _ I h) fun iv s1 ⟨y, H1, I1, ry, q1⟩ => thn (ho.run pins s1 σ H1 _ I1 q1) fun u s2 ⟨x, H2, I2, rx, a, b, ks, ns, ex, ey, hd, f, hb, q2⟩ => ?_
  subst ex ey
  obtain rfl : u = Value.ref a := rx
  obtain rfl : iv = Value.ref b := ry
  obtain ⟨z, hm, xs, rel, dd⟩ := do_rd I2.hok hd f
  refine wpAny_notIn_heap (tupleKind_room_in1 hu) (key_row I2.hok hb) hm dd ?_
  rw [(rel.at ns).1]
  exact ⟨.bl (!decide (ns ∈ ks.map (fun p : RowKey => p.1))), H2, I2.tok _, rfl, q2⟩
theorem pc_doin (P : Program) (w : World) (hu : X.A.units + 1 < cLine) (hi : PE X i ty) (ho : PE X o td) (eP : X.prog = P := by rfl) (ew : X.w = w := by rfl) : PC X .In i o (tDOIn P w ty td) := by
  subst eP ew
  refine ⟨fun pins s σ H Q I h => ?_⟩
  refine thn (hi.run pins s σ H _ I h) fun iv s1 ⟨y, H1, I1, ry, q1⟩ => thn (ho.run pins s1 σ H1 _ I1 q1) fun u s2 ⟨x, H2, I2, rx, a, b, ks, ns, ex, ey, hd, f, hb, q2⟩ => ?_
  subst ex ey
  obtain rfl : u = Value.ref a := rx
  obtain rfl : iv = Value.ref b := ry
  obtain ⟨z, hm, xs, rel, dd⟩ := do_rd I2.hok hd f
  refine wpAny_in_heap (tupleKind_room_in1 hu) (key_row I2.hok hb) hm dd ?_
  rw [(rel.at ns).1]
  exact ⟨.bl (decide (ns ∈ ks.map (fun p : RowKey => p.1))), H2, I2.tok _, rfl, q2⟩
/-- d[y], there: an int -/
def tDOGet (P : Program) (w : World) (td ty : TE) : TE := fun σ H Q => td σ H fun x H1 => ty σ H1 fun y H2 => ∃ (a b : Addr) (ks : List RowKey) (ns : List Int), x = .ref a ∧ y = .ref b ∧ Rd H2 a (DO P w a ks) ∧ RowsD H2 ks ∧ Row H2 b ns ∧ ns ∈ ks.map (·.1) ∧ ∀ i : Int, Q (.int i) H2
theorem pe_doget (P : Program) (w : World) (hu : X.A.units + 1 < cLine) (ho : PE X o td) (hi : PE X i ty) (hs : NoSl i) (eP : X.prog = P := by rfl) (ew : X.w = w := by rfl) : PE X (.Subscript o i pos) (tDOGet P w td ty) := by
  subst eP ew
  refine ⟨fun pins s σ H Q I h => ?_⟩
  refine subD_of PySem.F.slot_dict_getitem.lookup hs (thn (ho.run pins s σ H _ I h) fun u s1 ⟨x, H1, I1, rx, q1⟩ => thn (hi.run pins s1 σ H1 _ I1 q1) fun iv s2 ⟨y, H2, I2, ry, a, b, ks, ns, ex, ey, hd, f, hb, hm, q2⟩ => ?_)
  subst ex ey
  obtain rfl : u = Value.ref a := rx
  obtain rfl : iv = Value.ref b := ry
  obtain ⟨z, hsm, xs, rel, dd⟩ := do_rd I2.hok hd f
  refine ⟨dd.typeIs, ?_⟩
  have hk := (rel.at ns).1
  rw [decide_eq_true hm] at hk
  obtain ⟨p, hp⟩ := Option.isSome_iff_exists.mp hk
  obtain ⟨j, t, ev⟩ := (rel.at ns).2 p hp
  refine wpAny_getItem_heap (tupleKind_room_in1 hu) (key_row I2.hok hb) dd hp ?_
  rw [ev]
  exact ⟨.int j, H2, I2.tok _, ⟨t, rfl⟩, q2 j⟩
/-- d[y] = v, y new -/
def sDOPut (P : Program) (w : World) (td ty tv : TE) : TS := fun D σ H => tv σ H fun v H1 => td σ H1 fun x H2 => ty σ H2 fun y H3 => ∃ (a b : Addr) (ks : List RowKey) (ns : List Int) (i : Int), v = .int i ∧ x = .ref a ∧ y = .ref b ∧ H3 a = some (DO P w a ks) ∧ RowsD H3 ks ∧ Row H3 b ns ∧
  ns ∉ ks.map (·.1) ∧ ks.length < sizeLine ∧ D.nx σ (upd H3 a (DO P w a (ks ++ [(ns, b)])))
theorem ps_doput (P : Program) (w : World) (hu : X.A.units + 1 < cLine) (ho : PE X o td) (hi : PE X i ty) (hv : PE X value tv) (hs : swapsWith value (some (.Subscript o i pos')) pos.line X.env = pure false) (eP : X.prog = P := by rfl) (ew : X.w = w := by rfl) :
    PS X (.Assign [.Subscript o i pos'] value pos) (sDOPut P w td ty tv) := by
  subst eP ew
  refine ⟨fun pins s σ H D I h => ?_⟩
  refine wpAny_Assign_Subscript (thn (hv.run pins s σ H _ I h) fun r s1 ⟨v, H1, I1, rv, q1⟩ => thn (ho.run pins s1 σ H1 _ I1 q1) fun u s2 ⟨x, H2, I2, rx, q2⟩ => thn (hi.run pins s2 σ H2 _ I2 q2) fun iv s3 ⟨y, H3, I3, ry, a, b, ks, ns, j, ev, ex, ey, hd, f, hb, no, hl, q3⟩ => ?_) hs
  subst ev ex ey
  obtain rfl : u = Value.ref a := rx
  obtain rfl : iv = Value.ref b := ry
  obtain ⟨t, rfl⟩ : ∃ t, r = Value.int j t := rv
  obtain ⟨z, hsm, xs, rel, dd⟩ := do_rd I3.hok (.inl hd) f
  refine wpAny_setItem_heap (hsz := by rw [← Paired.length rel]; exact z) (tupleKind_room_in1 hu) (key_row I3.hok hb) dd fun h' dd' hs => ?_
  have R := do_new hl hsm rel no dd'
  have ⟨_, _, _, _, q, _, _, hq, _⟩ := R
  exact ⟨σ, _, d_write I3 (by rw [hd]; exact True.intro) hs ⟨q, hq⟩ R.ok, q3⟩
end
/-! ### for k in d, the dict locked -/
def ItO (P : Program) (w : World) (d : Addr) (o : Obj) (ks : List RowKey) : It :=
  ⟨fun i H => H d = some (.frz o (DO P w d ks)) ∧ i < ks.length, fun i H x H' => H' = H ∧ ∃ p, ks[i]? = some p ∧ x = .ref p.2, fun i H => H d = some (.frz o (DO P w d ks)) ∧ ks.length ≤ i⟩
theorem frzO {X : Cx} {pins : List (Addr × Obj)} {σ : L2.St} {H : Hp} {s : Shared} {d : Addr} {o : Obj} {ks : List RowKey} (I : Inv X pins σ H s) (h : H d = some (.frz o (DO X.prog X.w d ks))) :
    (d == sysModules) = false ∧ s.heap.get? d = some o ∧ o.ExactDict ∧ ∃ (es : Array DictEntry) (ep : Nat), o.data = .dict es ep ∧ es.size = ks.length ∧
      ∀ (i : Nat) (p : RowKey), ks[i]? = some p → ∃ en : DictEntry, es[i]? = some en ∧ en.key = .ref p.2 := by
  obtain ⟨hd, ⟨z, hs, xs, pr, o', es, ep, ho, hx, hdt, he, _⟩, _⟩ := I.hok d _ h
  rw [hd] at ho
  cases ho
  refine ⟨hs, hd, hx, es, ep, hdt, ?_, fun i p e => ?_⟩
  · have l1 : es.size = xs.length := size_of_entries he
    have l2 : ks.length = xs.length := Paired.length pr
    omega
  · obtain ⟨b, hb, e1, e2, _⟩ := paired_get pr e
    have q := entry_at he i
    rw [hb] at q
    exact ⟨_, q, by rw [← e2]; rfl⟩
theorem turn_keysO {P : Program} {w : World} {K : PySem.W.Frag} {tg : Expr} {d : Addr} {o : Obj} {es : Array DictEntry} {ep : Nat} {ks : List RowKey} (it : Addr) (hod : o.data = .dict es ep) : Turn P w K tg (ItO P w d o ks) [it] it (fun i h => h.IsKeyIter it d i ks.length ep) where
  mem := by simp
  obj := fun i h st b hb => by
    have e : b = it := by simpa using hb
    subst e
    obtain ⟨oi, e, c, dd⟩ := st
    exact ⟨oi, e, fun v z => by rw [dd] at z; cases z⟩
  keep := fun i h h' st k => st.at fun oi e => k it (by simp) oi e
  item := by
    intro X hP hw hK hc i pins s σ H E I hf st hg
    subst hP hw hK
    obtain ⟨hd, hi⟩ := hg
    obtain ⟨f0, f1, f2, f3, f4, f5⟩ := hf it (by simp)
    obtain ⟨hs, hgd, hx, es', ep', hdt, hsz, ent⟩ := frzO I hd
    obtain ⟨rfl, rfl⟩ := dict_ep hod hdt
    obtain ⟨p, hkv⟩ : ∃ p, ks[i]? = some p := ⟨ks[i], List.getElem?_eq_getElem hi⟩
    obtain ⟨en, hen, hkey⟩ := ent i p hkv
    refine next_key_item st hgd hdt hsz hen fun h' st' sb => ?_
    have I1 : Inv X pins σ H { s with heap := h' } := I.turned (t' := s.toks) (fun b ob hb e => (sb.2 b hb).trans e) f0 f1 f3 f4 f5
    obtain ⟨oi, e, c, dd⟩ := id st'
    exact ⟨en.key, rfl, go_of (s := { s with heap := h' }) e c dd (by decide) ⟨.ref p.2, H, I1, hkey, ⟨rfl, p, hkv, rfl⟩, st', fun b hb => (hf b hb).1⟩⟩
  done := by
    intro X hP hw hK hc i pins s σ H E I hf st hg
    subst hP hw hK
    obtain ⟨hd, hi⟩ := hg
    obtain ⟨f0, f1, f2, f3, f4, f5⟩ := hf it (by simp)
    obtain ⟨hs, hgd, hx, es', ep', hdt, hsz, ent⟩ := frzO I hd
    obtain ⟨rfl, rfl⟩ := dict_ep hod hdt
    exact next_key_end (I.ok.hd hc) st hgd hdt hsz hi fun h' eb => ⟨rfl, I.turned (t' := s.toks) (fun b ob hb e => eb b ob hb e) f0 f1 f3 f4 f5⟩
  self := fun A i s Q E st h => by
    refine wpAny_pyIter_slot st.typeIs F.slot_dict_keyiterator_iter (wpAny_call_entry F.slot_dict_keyiterator_iter st.typeIs F.entry_dict_keyiterator_iter ?_ (F.args_dict_keyiterator_iter_1 _))
    show wpAny _ _ (ret (.ref it)) _ _ s
    exact wpAny_pure ⟨_, rfl, "dict_keyiterator", _, st.typeIs, F.slot_dict_keyiterator_next.lookup, h⟩
def iKeysO (P : Program) (w : World) (td : TE) : TI := fun σ H R => td σ H fun x H1 => ∃ d o ks, x = .ref d ∧ H1 d = some (.frz o (DO P w d ks)) ∧ R (ItO P w d o ks) H1
theorem pi_keysO {X : Cx} {tg e : Expr} {td : TE} (P : Program) (w : World) (he : PE X e td) (eP : X.prog = P := by rfl) (ew : X.w = w := by rfl) : PI X tg e (iKeysO P w td) := by
  subst eP ew
  refine ⟨fun pins s σ H R I h => ?_⟩
  refine thn (he.run pins s σ H _ I h) fun u s1 ⟨x, H1, I1, rx, d, o, ks, ex, hd, q⟩ => ?_
  subst ex
  obtain rfl : u = Value.ref d := rx
  obtain ⟨hs, hgd, hx, es, ep, hdt, hsz, ent⟩ := frzO I1 hd
  refine iter_keys hs hgd hx hdt (pi_one (tk := s1.toks) I1 _ (turn_keysO _ hdt) ⟨_, Heap.get?_push_size _ rfl, rfl, ?_⟩ q)
  rw [hsz] <;> rfl
theorem walk_keysO {P : Program} {w : World} {d : Addr} {o : Obj} {ks : List RowKey} : Walk (ItO P w d o ks) ks.length (fun H => H d = some (.frz o (DO P w d ks))) (fun i H x H' => H' = H ∧ ∃ p, ks[i]? = some p ∧ x = .ref p.2) :=
  ⟨fun i _ hi q => ⟨q, hi⟩, fun _ q => ⟨q, Nat.le_refl _⟩, fun _ _ _ _ _ q y => y⟩
end LW
/-! The walk: least_of, are_alike, alike. -/
namespace LW
open PySem PySem.Spec PyProof.Rows L2
theorem take_drop_len {ns : List Int} {k : Nat} (h : k < ns.length) : (ns.take k ++ ns.drop (k + 1)).length + 1 = ns.length := by
  rw [List.length_append, List.length_take, List.length_drop]
  omega
theorem RowIn.cut {n : Nat} {ns : List Int} (h : RowIn n ns) (k : Nat) : RowIn n (ns.take k ++ ns.drop (k + 1)) := fun x hx => by
  rcases List.mem_append.mp hx with q | q
  · exact h x (List.mem_of_mem_take q)
  · exact h x (List.mem_of_mem_drop q)
section
variable {P : Program} {w : World} {K : PySem.W.Frag} {mg : Str → Option Value} {base : Heap}
def spLeastOf (K : PySem.W.Frag) : Sp := fun vs H Q _ => ∃ (p a : Addr) (n : Nat) (m : Int → Int → Bool) (ns : List Int), vs = [.ref p, .ref a] ∧ OfficeAt K H p n m ∧ Meets m ∧ Row H a ns ∧ RowIn n ns ∧ ns.length ≤ 62 ∧
  ∀ (H' : Hp) (b : Addr), Same H H' → Row H' b (least m ns) → Q (.ref b) H'
/-- where the loop stands: k works are left -/
def WLeast (H : Hp) (p a fo : Addr) (n : Nat) (m : Int → Int → Bool) (ns : List Int) (k : Nat) (σ : L2.St) (H' : Hp) : Prop :=
  ∃ (c : Addr) (cur acc : List Int) (y4 y5 : Option V), σ = [some (.ref p), some (.ref a), some (.ref fo), some (.ref c), y4, y5] ∧ Same H H' ∧ H' fo = some (.lst (acc.map V.int)) ∧ Row H' c cur ∧ RowIn n cur ∧
      acc.length + cur.length = ns.length ∧ acc ++ leastN m cur.length cur = least m ns ∧ cur.length = k
theorem ok_least_of (T : Top K mg) : Cal P w K mg base 3 "least_of" (spLeastOf K) := by
  have G : Cal P w K mg base 2 "beginners" (spBeginners K) := ok_beginners T
  refine cal0 T.d_least_of sc_least_of (fun vs H Q E h => ?_) (fun f cdv A outer s H vs Q E hr h => ?_)
  · obtain ⟨p, a, n, m, ns, rfl, _⟩ := h
    rfl
  · obtain ⟨p, a, n, m, ns, rfl, O, mm, hR, hi, hl, q⟩ := h
    have nd := sc_least_of.nd
    refine ⟨_, pss_cons (ps_set (i := 2) nd rfl (.inl rfl) (pe_lst pa_nil)) (pss_cons (ps_set (i := 3) nd rfl (.inl rfl) (pv 1))
      (pss_cons (ps_while PassesOwn.never (pt_cmpR op_gt (pe_callB (call_ln K) (by rfl) T.b_len PySem.boot_len (pa_cons (pv 3) pa_nil)) pe_int (nomark _))
        (pss_cons (ps_asg (pe_ix (ix_lK K) (LiI.pe_listItems rfl (pe_cal G hr (pa_cons (pv 0) (pa_cons (pv 3) pa_nil))) (by rfl) T.b_list (by decide +kernel)) pe_int (fun _ _ => rfl))
            (pg_tup rfl (pgs_cons (pg_name (i := 4) nd rfl (.inl rfl)) (pgs_cons (pg_name (i := 5) nd rfl (.inl rfl)) pgs_nil))))
          (pss_cons (ps_expr (pe_bm PySem.F.plainAttrs_list PySem.F.slot_list_append PySem.F.type_list_append mt_append (pv 2) (pa_cons (pv 4) pa_nil)))
          (pss_one (ps_set (i := 3) nd rfl (.inl rfl) (pe_op (op_catK K) (pe_slice (sl_tK K) (pv 3) po_none (po_some (pv 5))) (pe_slice (sl_tK K) (pv 3) (po_some (pe_op op_add (pv 5) pe_int)) po_none)))))))
      (pss_one (ps_ret (pe_callTy (call_tupK K) (by rfl) T.b_tuple (by decide +kernel) (pa_cons (pv 2) pa_nil)))))), ?_⟩
    refine ⟨Nat.zero_le _, fun fo nfo => ?_⟩
    refine ⟨_, rfl, ?_⟩
    refine ⟨WLeast H p a fo n m ns, ⟨_, a, ns, [], none, none, rfl, same_new nfo, upd_same, hR.same (same_new nfo), hi, Nat.zero_add _, rfl, rfl⟩, ?_⟩
    rintro k σ H' ⟨c, cur, acc, y4, y5, rfl, s, hfo, hc, hci, hal, hle, rfl⟩
    refine ⟨_, rfl, c, _, rfl, .inr hc.sq, _, _, rfl, rfl, _, rfl, ite2 (fun hp => ?_) (fun hn => ?_)⟩
    · rw [List.length_map] at hp
      have hpos : 0 < cur.length := by
        have := of_decide_eq_true hp
        omega
      refine ⟨fun σ' H' => ∃ k', k' < cur.length ∧ WLeast H p a fo n m ns k' σ' H', fun _ _ h => h, ?_⟩
      refine ⟨_, rfl, _, rfl, p, c, n, m, cur, rfl, O.same s, mm, hc, hci, by omega, fun H1 d ws s1 hd sorted mem => ?_⟩
      obtain ⟨x0, r0, e0⟩ : ∃ x r, cur = x :: r := by
        cases cur with
        | nil => exact absurd hpos (Nat.lt_irrefl 0)
        | cons x r => exact ⟨x, r, rfl⟩
      obtain ⟨w0, hw0⟩ : ∃ w, minOf (firsts m cur) = some w := by
        rw [e0]
        exact firsts_ne
      have hh : ws.head? = some w0 := by rw [← firsts_min sorted mem]; exact hw0
      obtain ⟨r, rfl⟩ : ∃ r, ws = w0 :: r := by
        cases ws with
        | nil => cases hh
        | cons x r =>
          cases hh
          exact ⟨r, rfl⟩
      obtain ⟨j, hj⟩ := Option.isSome_iff_exists.mp ((mem w0).mp List.mem_cons_self)
      have hjl := (free_lt hj).1
      have hstep : leastN m cur.length cur = w0 :: leastN m (cur.length - 1) (cur.take j ++ cur.drop (j + 1)) := by
        have := least_step (n := cur.length - 1) hw0 hj
        rw [show cur.length - 1 + 1 = cur.length by omega] at this
        exact this
      refine ⟨d, _, rfl, hd, fun H2 l ts k2 nl nts nl2 hl pr => ?_⟩
      have s2 : Same H1 H2 := k2
      obtain ⟨t, ts2, rfl, ht⟩ : ∃ t ts2, ts = t :: ts2 ∧ H2 t = some (.tup [.int w0, placeV m cur w0]) := by
        cases pr with
        | cons h _ => exact ⟨_, _, rfl, h⟩
      have hpl : placeV m cur w0 = .int (j : Nat) := by
        unfold placeV
        rw [hj]
        rfl
      rw [hpl] at ht
      have s' : Same H' H2 := s1.trans s2
      refine ⟨l, _, 0, .ref t, rfl, rfl, SqL.of hl, at_of (j := 0) rfl rfl, t, _, rfl, SqT.of ht, rfl, _, _, rfl, _, _, rfl, rfl, ?_⟩
      refine ⟨_, rfl, .inl ⟨rfl, _, SqL.of (s' _ _ hfo)⟩, _, rfl, fo, _, _, rfl, rfl, s' _ _ hfo, ?_, ?_⟩
      · rw [List.length_map]
        exact small5 (by omega)
      have nfo' : ∀ {o : HO} {b : Addr}, H2 b = some o → (∀ xs, o ≠ .lst xs) → b ≠ fo := fun hb ho e => by
        subst e
        rw [s' _ _ hfo] at hb
        exact ho _ (Option.some.inj hb).symm
      have hc2 := hc.same s'
      generalize eH3 : upd H2 fo (.lst (acc.map V.int ++ [V.int w0])) = H3
      have s3 : Same H H3 := by
        rw [← eH3]
        exact same_mut (s.trans s') nfo
      have hfo3 : H3 fo = some (.lst ((acc ++ [w0]).map V.int)) := by rw [← eH3, upd_same, List.map_append]; rfl
      have hc3 : Row H3 c cur := by
        rcases hc2 with e | ⟨o, e⟩
        · refine .inl ?_
          rw [← eH3, upd_ne (nfo' e (fun xs z => nomatch z))]
          exact e
        · refine .inr ⟨o, ?_⟩
          rw [← eH3, upd_ne (nfo' e (fun xs z => nomatch z))]
          exact e
      refine ⟨_, rfl, _, rfl, (j : Int), rfl, sl_to hc3 j fun b1 H4 s4 hb1 => ?_⟩
      refine ⟨_, rfl, _, rfl, _, _, rfl, rfl, _, rfl, ?_⟩
      rw [show ((j : Nat) : Int) + 1 = ((j + 1 : Nat) : Int) by omega]
      unfold tNoPart
      refine sl_from (hc3.same s4) (j + 1) fun b2 H5 s5 hb2 => ?_
      refine cat_rows (hb1.same s5) hb2 (by rw [List.length_take, List.length_drop]; omega) fun b3 H6 s6 hb3 => ?_
      have sE := (s4.trans s5).trans s6
      have hcut := take_drop_len hjl
      refine ⟨_, ?_, b3, _, acc ++ [w0], _, _, rfl, s3.trans sE, sE _ _ hfo3, hb3, hci.cut j, ?_, ?_, rfl⟩
      · omega
      · rw [List.length_append, List.length_singleton]
        omega
      · rw [← hle, hstep, List.append_assoc]
        rw [show (cur.take j ++ cur.drop (j + 1)).length = cur.length - 1 by omega]
        rfl
    · rw [List.length_map] at hn
      have hz : cur.length = 0 := by
        have := of_decide_eq_false (Bool.not_eq_true _ ▸ hn)
        omega
      have : leastN m cur.length cur = [] := by
        rw [hz]
        rfl
      rw [this, List.append_nil] at hle
      refine ⟨_, rfl, fo, _, rfl, .inl ⟨SqL.of hfo, fun b nb => q _ b (s.trans (same_new nb)) (.inl ?_)⟩⟩
      rw [upd_same, hle]
end
end LW
/-! The walk: are_alike, alike; comparing rows. -/
namespace LW
open PySem PySem.Spec PyProof.Rows L2
/-- None or a row, as data -/
def dO : Option (List Int) → PyData
  | none => .none
  | some ns => .tuple (ns.map PyData.int)
theorem lay_ints : ∀ ns : List Int, PyData.canLayAll0 (ns.map PyData.int) = true
  | [] => by simp [PyData.canLayAll0]
  | x :: r => by
    rw [List.map_cons, PyData.canLayAll0, lay_ints r]
    simp [PyData.canLay0]
theorem depth_ints : ∀ ns : List Int, PyData.depthAll (ns.map PyData.int) = 0
  | [] => by simp [PyData.depthAll]
  | x :: r => by
    rw [List.map_cons, PyData.depthAll, depth_ints r]
    simp [PyData.depth]
theorem eqv_ints : ∀ ns ms : List Int, PyData.eqvAll (ns.map PyData.int) (ms.map PyData.int) = decide (ns = ms)
  | [], [] => by simp [PyData.eqvAll]
  | [], _ :: _ => by simp [PyData.eqvAll]
  | _ :: _, [] => by simp [PyData.eqvAll]
  | x :: r, y :: t => by
    rw [List.map_cons, List.map_cons, PyData.eqvAll, eqv_ints r t, PyData.eqv, Bool.eq_iff_iff]
    simp
theorem shaped_o (o : Option (List Int)) : SeqAt.shaped (dO o) = true := by
  cases o with
  | none => rfl
  | some ns =>
    unfold SeqAt.shaped dO
    rw [PyData.canLay0, lay_ints, PyData.depth, depth_ints]
    rfl
theorem eqv_o (o u : Option (List Int)) : PyData.eqv (dO o) (dO u) = decide (o = u) := by
  cases o with
  | none => cases u <;> simp [dO, PyData.eqv]
  | some ns =>
    cases u with
    | none => simp [dO, PyData.eqv]
    | some ms =>
      unfold dO
      rw [PyData.eqv, eqv_ints, Bool.eq_iff_iff]
      simp
theorem dp_ints {K : PySem.W.Frag} {H : Hp} : ∀ ns : List Int, DpAll K H (ns.map V.int) (ns.map PyData.int)
  | [] => .nil
  | x :: r => .cons (.int x) (dp_ints r)
theorem dp_o {K : PySem.W.Frag} {H : Hp} {v : V} {o : Option (List Int)} (h : OptRow H v o) : Dp K H v (dO o) := by
  cases o with
  | none =>
    obtain rfl : v = .non := h
    exact .non
  | some ns =>
    obtain ⟨a, rfl, r⟩ := h
    exact .tup r.sq (dp_ints ns)
theorem optRow_of {H : Hp} {a : Addr} {ns : List Int} (r : Row H a ns) : OptRow H (.ref a) (some ns) := ⟨a, rfl, r⟩
section
variable {K : PySem.W.Frag} {H : Hp} {x y : V} {o u : Option (List Int)} {Q : VK}
theorem eq_rows (hx : OptRow H x o) (hy : OptRow H y u) (q : Q (.bl (decide (o = u))) H) : rEqD K x y H Q :=
  ⟨dO o, dO u, dp_o hx, dp_o hy, shaped_o o, shaped_o u, by rw [eqv_o]; exact q⟩
theorem ne_rows (hx : OptRow H x o) (hy : OptRow H y u) (q : Q (.bl (!decide (o = u))) H) : rNeD K x y H Q :=
  ⟨dO o, dO u, dp_o hx, dp_o hy, shaped_o o, shaped_o u, by rw [eqv_o]; exact q⟩
end
section
variable {P : Program} {w : World} {K : PySem.W.Frag} {mg : Str → Option Value} {base : Heap} {X : Cx}
theorem op_eqK (K : PySem.W.Frag) (hu : X.A.units + 64 < cLine) (e : X.K = K := by rfl) : OpR X (compareOp .Eq) (rEqD K) := by
  subst e
  exact op_eqD hu
theorem op_neK (K : PySem.W.Frag) (hu : X.A.units + 64 < cLine) (e : X.K = K := by rfl) : OpR X (compareOp .NotEq) (rNeD K) := by
  subst e
  exact op_neD hu
def spAreAlike (K : PySem.W.Frag) : Sp := fun vs H Q _ => ∃ (p a b : Addr) (n : Nat) (m : Int → Int → Bool) (ns ms : List Int), vs = [.ref p, .ref a, .ref b] ∧ OfficeAt K H p n m ∧ Meets m ∧ Row H a ns ∧ Row H b ms ∧ RowIn n ns ∧ RowIn n ms ∧
  ns.length ≤ 62 ∧ ms.length = ns.length ∧ least m ns = least m ms ∧ ∀ H' : Hp, Same H H' → Q (.bl true) H'
theorem ok_are_alike (T : Top K mg) : Cal P w K mg base 4 "are_alike" (spAreAlike K) := by
  have G : Cal P w K mg base 3 "least_of" (spLeastOf K) := ok_least_of T
  refine cal0 T.d_are_alike sc_are_alike (fun vs H Q E h => ?_) (fun f cdv A outer s H vs Q E hr h => ?_)
  · obtain ⟨p, a, b, n, m, ns, ms, rfl, _⟩ := h
    rfl
  · obtain ⟨p, a, b, n, m, ns, ms, rfl, O, mm, hR, hS, hi, hj, hl, he, hq, q⟩ := h
    have nd := sc_are_alike.nd
    refine ⟨_, pss_one (ps_ret (pe_and (pe_cmpR op_eq (pe_callB (call_ln K) (by rfl) T.b_len PySem.boot_len (pa_cons (pv 1) pa_nil)) (pe_callB (call_ln K) (by rfl) T.b_len PySem.boot_len (pa_cons (pv 2) pa_nil)) (nomark _))
      (pe_one (pe_cmpR (op_eqK K hr.units) (pe_cal G hr (pa_cons (pv 0) (pa_cons (pv 1) pa_nil))) (pe_cal G hr (pa_cons (pv 0) (pa_cons (pv 2) pa_nil))) (nomark _))))), ?_⟩
    refine ⟨_, rfl, a, _, rfl, .inr hR.sq, _, rfl, b, _, rfl, .inr hS.sq, rfl, true, ?_, iteT ?_⟩
    · rw [List.length_map, List.length_map, he]
      exact bl_t rfl
    refine ⟨_, rfl, _, rfl, p, a, n, m, ns, rfl, O, mm, hR, hi, hl, fun H1 c s1 hc => ?_⟩
    refine ⟨_, rfl, _, rfl, p, b, n, m, ms, rfl, O.same s1, mm, hS.same s1, hj, by omega, fun H2 d s2 hd => ?_⟩
    refine eq_rows (optRow_of (hc.same s2)) (optRow_of hd) ?_
    rw [decide_eq_true (congrArg some hq)]
    exact q H2 (s1.trans s2)
theorem ok_alike (T : Top K mg) : Cal P w K mg base 6 "alike" (spAreAlike K) := by
  have G : Cal P w K mg base 4 "are_alike" (spAreAlike K) := ok_are_alike T
  have C : Cal P w K mg base 5 "check_row" (spCheckRow K) := ok_check_row T
  refine cal0 T.d_alike sc_alike (fun vs H Q E h => ?_) (fun f cdv A outer s H vs Q E hr h => ?_)
  · obtain ⟨p, a, b, n, m, ns, ms, rfl, _⟩ := h
    rfl
  · obtain ⟨p, a, b, n, m, ns, ms, rfl, O, mm, hR, hS, hi, hj, hl, he, hq, q⟩ := h
    refine ⟨_, pss_cons (ps_expr (pe_cal C hr (pa_cons (pv 0) (pa_cons (pv 1) pa_nil)))) (pss_cons (ps_expr (pe_cal C hr (pa_cons (pv 0) (pa_cons (pv 2) pa_nil))))
      (pss_one (ps_ret (pe_cal G hr (pa_cons (pv 0) (pa_cons (pv 1) (pa_cons (pv 2) pa_nil))))))), ?_⟩
    refine ⟨_, rfl, _, rfl, p, a, n, m, ns, rfl, O, hR, hi, by omega, fun H1 s1 => ?_⟩
    refine ⟨_, rfl, _, rfl, p, b, n, m, ms, rfl, O.same s1, hS.same s1, hj, by omega, fun H2 s2 => ?_⟩
    have s := s1.trans s2
    exact ⟨_, rfl, _, rfl, _, rfl, p, a, b, n, m, ns, ms, rfl, O.same s, mm, hR.same s, hS.same s, hi, hj, hl, he, hq, fun H3 s3 => q H3 (s.trans s3)⟩
end
end LW
/-! The walk: rest_behind, check_two, begins, gone_on. -/
namespace LW
open PySem PySem.Spec PyProof.Rows L2
theorem any_mem {d : Int} {v : List Int} : (v.any fun e => decide (e = d)) = true ↔ d ∈ v := by
  rw [List.any_eq_true]
  exact ⟨fun ⟨x, hx, e⟩ => of_decide_eq_true e ▸ hx, fun h => ⟨d, h, decide_eq_true rfl⟩⟩
theorem take1_free {m : Int → Int → Bool} {cur : List Int} {x : Int} : take1 m cur x = (freeAt m cur x).map fun k => cur.take k ++ cur.drop (k + 1) := by
  cases e : freeAt m cur x with
  | none =>
    have := freeAt_isSome (m := m) (row := cur) (w := x)
    rw [e] at this
    cases e2 : take1 m cur x with
    | none => rfl
    | some r => rw [e2] at this; cases this
  | some k =>
    obtain ⟨_, _, a, _, _, b⟩ := (freeAt_take1 (m := m)).1 k e
    rw [a, ← b]
    rfl
theorem free_none_mem {m : Int → Int → Bool} {cur : List Int} {x : Int} (h : x ∉ cur) : freeAt m cur x = none := by
  cases e : freeAt m cur x with
  | none => rfl
  | some k => exact absurd (List.mem_of_getElem? (free_lt e).2) h
theorem left_step_none {m : Int → Int → Bool} {r cur : List Int} {x : Int} (h : freeAt m cur x = none) : left m (x :: r) cur = none := by
  rw [left_cons, take1_free, h]
  rfl
theorem left_step_some {m : Int → Int → Bool} {r cur : List Int} {x : Int} {k : Nat} (h : freeAt m cur x = some k) : left m (x :: r) cur = left m r (cur.take k ++ cur.drop (k + 1)) := by
  rw [left_cons, take1_free, h]
  rfl
theorem not_true_false {b : Bool} (h : ¬ b = true) : b = false := by cases b <;> simp_all
section
variable {P : Program} {w : World} {K : PySem.W.Frag} {mg : Str → Option Value} {base : Heap} {X : Cx}
theorem op_ninK (K : PySem.W.Frag) (e : X.K = K := by rfl) : OpR X (compareOp .NotIn) (rIn K true) := by
  subst e
  exact op_notIn_seq
theorem mt_idxK (K : PySem.W.Frag) (e : X.K = K := by rfl) : MtR X "tuple.index" (rTupIx K) := by
  subst e
  exact mt_tupIx
def spRestBehind (K : PySem.W.Frag) : Sp := fun vs H Q _ => ∃ (p a b : Addr) (n : Nat) (m : Int → Int → Bool) (ns ms : List Int), vs = [.ref p, .ref a, .ref b] ∧ OfficeAt K H p n m ∧ Meets m ∧ Row H a ns ∧ RowN H b ms ∧ RowIn n ns ∧ RowIn n ms ∧
  ms.length ≤ 62 ∧ ∀ (H' : Hp) (v : V), Same H H' → OptRow H' v (left m ns ms) → Q v H'
theorem ok_rest_behind (T : Top K mg) : Cal P w K mg base 2 "rest_behind" (spRestBehind K) := by
  have G : Cal P w K mg base 1 "can_begin" (spCanBegin K) := ok_can_begin T
  refine cal0 T.d_rest_behind sc_rest_behind (fun vs H Q E h => ?_) (fun f cdv A outer s H vs Q E hr h => ?_)
  · obtain ⟨p, a, b, n, m, ns, ms, rfl, _⟩ := h
    rfl
  · obtain ⟨p, a, b, n, m, ns, ms, rfl, O, mm, hR, hS, hi, hj, hl, q⟩ := h
    have nd := sc_rest_behind.nd
    refine ⟨_, pss_cons (ps_set (i := 3) nd rfl (.inl rfl) (pv 2))
      (pss_cons (ps_for PassesOwn.never rfl (pi_tupK K (pv 1)) (pg_name (i := 4) nd rfl (.inl rfl))
        (pss_cons (ps_if (pt_cmpR (op_ninK K) (pv 4) (pv 3) (by rfl)) (pss_one (ps_ret pe_non)) pss_nil)
        (pss_cons (ps_set (i := 5) nd rfl (.inl rfl) (pe_bmN PySem.F.slot_tuple_index PySem.F.type_tuple_index (mt_idxK K) (pv 3) (pa_cons (pv 4) pa_nil)))
        (pss_cons (ps_if (pt_not (pt_val (pe_cal G hr (pa_cons (pv 0) (pa_cons (pv 3) (pa_cons (pv 5) pa_nil)))))) (pss_one (ps_ret pe_non)) pss_nil)
        (pss_one (ps_set (i := 3) nd rfl (.inl rfl) (pe_op (op_catN K) (pe_slice (sl_tN K) (pv 3) po_none (po_some (pv 5))) (pe_slice (sl_tN K) (pv 3) (po_some (pe_op op_add (pv 5) pe_int)) po_none))))))))
      (pss_one (ps_ret (pv 3)))), ?_⟩
    refine ⟨_, rfl, ?_⟩
    refine ⟨_, rfl, a, rfl, ⟨_, hR.sq⟩, for_tup (K := K) (a := a) (xs := ns.map V.int) (fun i σ H' => ∃ (c : Addr) (cur : List Int) (y4 y5 : Option V), σ = [some (.ref p), some (.ref a), some (.ref b), some (.ref c), y4, y5] ∧ Same H H' ∧
      RowN H' c cur ∧ RowIn n cur ∧ cur.length ≤ 62 ∧ left m ns ms = left m (ns.drop i) cur) ⟨b, ms, none, none, rfl, Same.refl H, hS, hj, hl, rfl⟩ (fun i σ H' _ h => ?_) ?_ ?_⟩
    · obtain ⟨c, cur, y4, y5, _, s, _⟩ := h
      exact (hR.same s).sq
    · rintro i x σ H' hx ⟨c, cur, y4, y5, rfl, s, hc, hci, hcl, hle⟩
      obtain ⟨z, hz, rfl⟩ := int_at hx
      rw [drop_cons hz] at hle
      refine ⟨_, rfl, _, rfl, c, _, rfl, .inr hc.row.sq, rfl, flat_ints _, _, rfl, ite2 (fun hp => ?_) (fun hn => ?_)⟩
      · have hno : z ∉ cur := fun hm => by
          rw [if_pos rfl, in_ints, any_mem.mpr hm] at hp
          cases hp
        refine q H' .non s ?_
        rw [hle, left_step_none (free_none_mem hno)]
        rfl
      · have hmem : z ∈ cur := by
          rw [if_pos rfl, in_ints] at hn
          refine any_mem.mp ?_
          have := not_true_false hn
          rw [Bool.not_eq_false'] at this
          exact this
        obtain ⟨o, ho, hd⟩ := id hc
        refine ⟨_, rfl, ⟨c, o, _, rfl, ho, hd⟩, _, rfl, c, cur, z, rfl, rfl, hc.row.sq, hmem, ?_⟩
        obtain ⟨hix, _⟩ := idx_first hmem
        refine ⟨_, rfl, _, rfl, _, rfl, p, c, n, m, cur, cur.idxOf z, z, rfl, O.same s, hc.row, hci, by omega, hix, fun H1 s1 => ⟨_, rfl, ite2 (fun hb => ?_) (fun hb => ?_)⟩⟩
        · have hnone : freeAt m cur z = none := by
            cases e : freeAt m cur z with
            | none => rfl
            | some k =>
              have hk := free_idx e
              rw [hk] at e
              have := (free_here mm.two hix).mpr e
              rw [this] at hb
              cases hb
          refine q H1 .non (s.trans s1) ?_
          rw [hle, left_step_none hnone]
          rfl
        · have hb2 := not_true_false hb
          rw [Bool.not_eq_false'] at hb2
          have hf := (free_here mm.two hix).mp hb2
          have hjl := (free_lt hf).1
          have hc1 := hc.same s1
          refine ⟨_, rfl, _, rfl, ((cur.idxOf z : Nat) : Int), rfl, slN_to hc1 _ fun b1 H4 s4 hb1 => ?_⟩
          refine ⟨_, rfl, _, rfl, _, _, rfl, rfl, _, rfl, ?_⟩
          rw [show ((cur.idxOf z : Nat) : Int) + 1 = ((cur.idxOf z + 1 : Nat) : Int) by omega]
          unfold tNoPart
          refine slN_from (hc1.same s4) (cur.idxOf z + 1) fun b2 H5 s5 hb2 => ?_
          refine catN_rows (hb1.same s5) hb2 (by rw [List.length_take, List.length_drop]; omega) fun b3 H6 s6 hb3 => ?_
          have sE := (s1.trans (s4.trans s5)).trans s6
          have hcut := take_drop_len hjl
          exact ⟨b3, _, _, _, rfl, s.trans sE, hb3, hci.cut _, by omega, hle.trans (left_step_some hf)⟩
    · rintro σ H' ⟨c, cur, y4, y5, rfl, s, hc, hci, hcl, hle⟩
      rw [List.length_map, List.drop_length] at hle
      refine ⟨_, rfl, q H' _ s ?_⟩
      rw [hle]
      exact ⟨c, rfl, hc.row⟩
def spCheckTwo (K : PySem.W.Frag) : Sp := fun vs H Q _ => ∃ (p a b : Addr) (n : Nat) (m : Int → Int → Bool) (ns ms : List Int), vs = [.ref p, .ref a, .ref b] ∧ OfficeAt K H p n m ∧ Row H a ns ∧ Row H b ms ∧ RowIn n ns ∧ RowIn n ms ∧
  ns.length ≤ 1000 ∧ ms.length ≤ 1000 ∧ ∀ H' : Hp, Same H H' → Q .non H'
theorem ok_check_two (T : Top K mg) : Cal P w K mg base 6 "check_two" (spCheckTwo K) := by
  have C : Cal P w K mg base 5 "check_row" (spCheckRow K) := ok_check_row T
  refine cal0 T.d_check_two sc_check_two (fun vs H Q E h => ?_) (fun f cdv A outer s H vs Q E hr h => ?_)
  · obtain ⟨p, a, b, n, m, ns, ms, rfl, _⟩ := h
    rfl
  · obtain ⟨p, a, b, n, m, ns, ms, rfl, O, hR, hS, hi, hj, hl, hk, q⟩ := h
    refine ⟨_, pss_cons (ps_expr (pe_cal C hr (pa_cons (pv 0) (pa_cons (pv 1) pa_nil)))) (pss_one (ps_expr (pe_cal C hr (pa_cons (pv 0) (pa_cons (pv 2) pa_nil))))), ?_⟩
    refine ⟨_, rfl, _, rfl, p, a, n, m, ns, rfl, O, hR, hi, hl, fun H1 s1 => ?_⟩
    exact ⟨_, rfl, _, rfl, p, b, n, m, ms, rfl, O.same s1, hS.same s1, hj, hk, fun H2 s2 => q H2 (s1.trans s2)⟩
def spBegins (K : PySem.W.Frag) : Sp := fun vs H Q _ => ∃ (p a b : Addr) (n : Nat) (m : Int → Int → Bool) (ns ms : List Int), vs = [.ref p, .ref a, .ref b] ∧ OfficeAt K H p n m ∧ Meets m ∧ Row H a ns ∧ RowN H b ms ∧ RowIn n ns ∧ RowIn n ms ∧
  ns.length ≤ 1000 ∧ ms.length ≤ 62 ∧ ∀ H' : Hp, Same H H' → Q (.bl (left m ns ms).isSome) H'
theorem ok_begins (T : Top K mg) : Cal P w K mg base 7 "begins" (spBegins K) := by
  have C : Cal P w K mg base 6 "check_two" (spCheckTwo K) := ok_check_two T
  have G : Cal P w K mg base 2 "rest_behind" (spRestBehind K) := ok_rest_behind T
  refine cal0 T.d_begins sc_begins (fun vs H Q E h => ?_) (fun f cdv A outer s H vs Q E hr h => ?_)
  · obtain ⟨p, a, b, n, m, ns, ms, rfl, _⟩ := h
    rfl
  · obtain ⟨p, a, b, n, m, ns, ms, rfl, O, mm, hR, hS, hi, hj, hl, hk, q⟩ := h
    refine ⟨_, pss_cons (ps_expr (pe_cal C hr (pa_cons (pv 0) (pa_cons (pv 1) (pa_cons (pv 2) pa_nil))))) (pss_one (ps_ret (pe_cmpR op_notN (pe_cal G hr (pa_cons (pv 0) (pa_cons (pv 1) (pa_cons (pv 2) pa_nil)))) pe_non (nomark _)))), ?_⟩
    refine ⟨_, rfl, _, rfl, _, rfl, p, a, b, n, m, ns, ms, rfl, O, hR, hS.row, hi, hj, hl, by omega, fun H1 s1 => ?_⟩
    refine ⟨_, rfl, _, rfl, _, rfl, p, a, b, n, m, ns, ms, rfl, O.same s1, mm, hR.same s1, hS.same s1, hi, hj, hk, fun H2 v s2 hv => ⟨rfl, ?_⟩⟩
    refine r_of ?_ (q H2 (s1.trans s2))
    cases e : left m ns ms with
    | none =>
      rw [e] at hv
      obtain rfl : v = .non := hv
      rfl
    | some r =>
      rw [e] at hv
      obtain ⟨c, rfl, _⟩ := hv
      rfl
def spGoneOn (K : PySem.W.Frag) : Sp := fun vs H Q _ => ∃ (p a b : Addr) (n : Nat) (m : Int → Int → Bool) (ns ms : List Int), vs = [.ref p, .ref a, .ref b] ∧ OfficeAt K H p n m ∧ Meets m ∧ Row H a ns ∧ RowN H b ms ∧ RowIn n ns ∧ RowIn n ms ∧
  ns.length ≤ 1000 ∧ ms.length ≤ 62 ∧ ∀ (H' : Hp) (v : V), Same H H' → OptRow H' v (due m ns ms) → Q v H'
theorem left_facts {m : Int → Int → Bool} (mm : Meets m) {n : Nat} {ns ms r : List Int} (h : left m ns ms = some r) (hj : RowIn n ms) : RowIn n r ∧ ns.length + r.length = ms.length := by
  have a := left_al mm.s h
  refine ⟨fun x hx => hj x (a.perm.mem_iff.mpr (List.mem_append_right _ hx)), ?_⟩
  have := a.length
  rw [List.length_append] at this
  exact this.symm
theorem ok_gone_on (T : Top K mg) : Cal P w K mg base 7 "gone_on" (spGoneOn K) := by
  have C : Cal P w K mg base 6 "check_two" (spCheckTwo K) := ok_check_two T
  have G : Cal P w K mg base 2 "rest_behind" (spRestBehind K) := ok_rest_behind T
  have L : Cal P w K mg base 3 "least_of" (spLeastOf K) := ok_least_of T
  refine cal0 T.d_gone_on sc_gone_on (fun vs H Q E h => ?_) (fun f cdv A outer s H vs Q E hr h => ?_)
  · obtain ⟨p, a, b, n, m, ns, ms, rfl, _⟩ := h
    rfl
  · obtain ⟨p, a, b, n, m, ns, ms, rfl, O, mm, hR, hS, hi, hj, hl, hk, q⟩ := h
    have nd := sc_gone_on.nd
    refine ⟨_, pss_cons (ps_expr (pe_cal C hr (pa_cons (pv 0) (pa_cons (pv 1) (pa_cons (pv 2) pa_nil))))) (pss_cons (ps_set (i := 3) nd rfl (.inl rfl) (pe_cal G hr (pa_cons (pv 0) (pa_cons (pv 1) (pa_cons (pv 2) pa_nil)))))
      (pss_one (ps_ret (pe_ifExp (pt_cmpR op_isN (pv 3) pe_non (nomark _)) pe_non (pe_cal L hr (pa_cons (pv 0) (pa_cons (pv 3) pa_nil))))))), ?_⟩
    refine ⟨_, rfl, _, rfl, _, rfl, p, a, b, n, m, ns, ms, rfl, O, hR, hS.row, hi, hj, hl, by omega, fun H1 s1 => ?_⟩
    refine ⟨_, rfl, _, rfl, _, rfl, p, a, b, n, m, ns, ms, rfl, O.same s1, mm, hR.same s1, hS.same s1, hi, hj, hk, fun H2 v s2 hv => ?_⟩
    refine ⟨_, rfl, rfl, _, rfl, ?_⟩
    cases e : left m ns ms with
    | none =>
      rw [e] at hv
      obtain rfl : v = .non := hv
      refine iteT (q H2 _ (s1.trans s2) ?_)
      unfold due
      rw [e]
      rfl
    | some r =>
      rw [e] at hv
      obtain ⟨c, rfl, hc⟩ := hv
      obtain ⟨ri, rl⟩ := left_facts mm e hj
      refine iteF ⟨_, rfl, _, rfl, p, c, n, m, r, rfl, (O.same s1).same s2, mm, hc, ri, by omega, fun H3 d s3 hd => q H3 _ ((s1.trans s2).trans s3) ?_⟩
      unfold due
      rw [e]
      exact ⟨d, rfl, hd⟩
end
end LW
/-! The law's own defs: the dice, a draw. -/
namespace LW
open PySem PySem.Spec PyProof.Rows L2
/-- a statement, cut off from what follows -/
def sCut (t : TS) : TS := fun D σ H => ∃ I : L2.St → Hp → Prop, t { D with nx := I } σ H ∧ ∀ σ' H', I σ' H' → D.nx σ' H'
theorem ps_cut {X : Cx} {st : Stmt} {t : TS} (h : PS X st t) : PS X st (sCut t) := by
  refine ⟨fun pins s σ H D I hw => ?_⟩
  obtain ⟨C, h1, h2⟩ := hw
  refine thn (h.run pins s σ H _ I h1) fun f s' q => ?_
  cases f with
  | next =>
    obtain ⟨σ', H', J, q⟩ := q
    exact ⟨σ', H', J, h2 σ' H' q⟩
  | brk => exact q
  | cont => exact q
  | ret u => exact q
abbrev dl (l : Addr) (i b s c : Int) : HO := .lst [.ref l, .int i, .int b, .int s, .int c]
/-- the dice as they stand -/
structure DSt (H : Hp) (d l : Addr) (ns : List Int) (i b s c : Int) : Prop where
  hD : H d = some (dl l i b s c)
  hL : H l = some (.lst (ns.map V.int))
  len : ns.length ≤ 63
  pos : ∀ n ∈ ns, 0 ≤ n
  i0 : 0 ≤ i
  b0 : 0 ≤ b
  s0 : 0 ≤ s
  s1 : s < 2147483647
  c0 : 0 ≤ c
/-- the dice at d, its cells at l -/
def DL (H : Hp) (d l : Addr) : Prop := ∃ ns i b s c, DSt H d l ns i b s c
theorem DSt.dice {H : Hp} {d l : Addr} {ns : List Int} {i b s c : Int} (h : DSt H d l ns i b s c) : DL H d l := ⟨ns, i, b, s, c, h⟩
theorem DL.st {H : Hp} {d l : Addr} (D : DL H d l) : ∃ ns i b s c, DSt H d l ns i b s c := D
theorem DL.same {H H' : Hp} {d l : Addr} (D : DL H d l) (s : Same H H') : DL H' d l :=
  let ⟨ns, i, b, z, c, h⟩ := D
  ⟨ns, i, b, z, c, s _ _ h.hD, s _ _ h.hL, h.len, h.pos, h.i0, h.b0, h.s0, h.s1, h.c0⟩
/-- an object that is not the dice is written -/
theorem DL.mut {H0 H : Hp} {d l x : Addr} {o : HO} (D0 : DL H0 d l) (D : DL H d l) (n : H0 x = none) : DL (upd H x o) d l := by
  obtain ⟨_, _, _, _, _, h0⟩ := D0
  obtain ⟨ns, i, b, z, c, h⟩ := D
  exact ⟨ns, i, b, z, c, by rw [upd_ne (ne_of_none h0.hD n)]; exact h.hD, by rw [upd_ne (ne_of_none h0.hL n)]; exact h.hL, h.len, h.pos, h.i0, h.b0, h.s0, h.s1, h.c0⟩
theorem DSt.put {H : Hp} {d l : Addr} {ns : List Int} {i b s c : Int} (h : DSt H d l ns i b s c) {i' b' s' c' : Int} (h5 : 0 ≤ i') (h6 : 0 ≤ b') (h7 : 0 ≤ s') (h8 : s' < 2147483647) (h9 : 0 ≤ c') :
    DSt (upd H d (dl l i' b' s' c')) d l ns i' b' s' c' := by
  refine ⟨upd_same, ?_, h.len, h.pos, h5, h6, h7, h8, h9⟩
  have ne : l ≠ d := fun e => by
    have h2 := h.hL
    rw [e] at h2
    exact nd_ints (ns := ns) ⟨l, i, b, s, c, Option.some.inj (h2.symm.trans h.hD)⟩
  rw [upd_ne ne]
  exact h.hL
theorem DSt.stay {H : Hp} {d l : Addr} {ns : List Int} {i b s c : Int} (h : DSt H d l ns i b s c) (o : HO) : Stay H (upd H d o) := by
  refine ⟨fun x u e nd => ?_, fun x e => ?_⟩
  · have ne : x ≠ d := fun z => by
      subst z
      rw [h.hD] at e
      exact nd ⟨l, i, b, s, c, (Option.some.inj e).symm⟩
    rw [upd_ne ne]
    exact e
  · have ne : x ≠ d := fun z => by
      rw [z, upd_same] at e
      cases e
    rw [upd_ne ne] at e
    exact e
section
variable {P : Program} {w : World} {K : PySem.W.Frag} {mg : Str → Option Value} {base : Heap} {X : Cx}
theorem sl_lK (K : PySem.W.Frag) (e : X.K = K := by rfl) : SlR X (rSlL K) := by
  subst e
  exact sl_list
def spDice (K : PySem.W.Frag) : Sp := fun vs H Q _ => ∃ (a : Addr) (ns : List Int), vs = [.ref a] ∧ SqL K H a (ns.map V.int) ∧ ∀ (H' : Hp) (d l : Addr), Same H H' → H d = none → DL H' d l → Q (.ref d) H'
theorem ok_dice (T : Top K mg) : Cal P w K mg base 1 "_law_dice" (spDice K) := by
  refine cal0 T.d_l_dice sc_l_dice (fun vs H Q E h => ?_) (fun f cdv A outer s H vs Q E hr h => ?_)
  · obtain ⟨a, ns, rfl, _⟩ := h
    rfl
  · obtain ⟨a, ns, rfl, hq, q⟩ := h
    have nd := sc_l_dice.nd
    refine ⟨_, pss_one (ps_ret (pe_lst (pa_cons (pe_lc (own := [("_law_cell", 1)]) (g := gName 1) (tt := tYes) rfl nd (pi_listK K (pe_slice (sl_lK K) (pv 0) po_none (po_some pe_int)))
        (blkOk_by (N := n_l_dice) (sc := defScope t_l_dice) (by decide +kernel)) (fun _ _ _ _ _ => pg_name (i := 1) nd rfl (Or.inl rfl)) (fun _ _ _ _ _ => pts_nil)
        (fun _ _ _ _ _ => pe_callB call_abs (by rfl) T.b_abs (by decide +kernel) (pa_cons (pe_callTy call_int1 (by rfl) T.b_int (by decide +kernel) (pa_cons (pv 1) pa_nil)) pa_nil)))
      (pa_cons pe_int (pa_cons pe_int (pa_cons pe_int (pa_cons pe_int pa_nil))))))), ?_⟩
    refine ⟨_, rfl, (63 : Int), rfl, a, _, rfl, hq, fun b nb => ⟨b, rfl, ⟨_, SqL.of upd_same⟩, ?_⟩⟩
    have hb : Same H (upd H b (.lst (cutV (ns.map V.int) none (some 63)))) := same_new nb
    have ec : cutV (ns.map V.int) none (some ((63 : Nat) : Int)) = (ns.take 63).map V.int := by rw [cut_to, List.map_take]
    have ec2 : cutV (ns.map V.int) none (some (63 : Int)) = (ns.take 63).map V.int := ec
    rw [ec2] at hb ⊢
    refine lcm_list (fun i => .int (if (ns.take 63).getD i 0 < 0 then -(ns.take 63).getD i 0 else (ns.take 63).getD i 0)) (SqL.of upd_same) (fun _ => rfl) (by rw [List.length_map, List.length_take]; omega) (fun i x H' R hx s2 k => ?_) fun l H' s2 nl hD => ?_
    · obtain ⟨z, hz, rfl⟩ := int_at hx
      refine ⟨_, rfl, .inl ⟨z, rfl, z, rfl, ?_⟩⟩
      refine r_of ?_ (k H' (Same.refl _))
      rw [List.getD_eq_getElem?_getD, hz]
      rfl
    · refine ⟨by show 5 ≤ sizeLine; decide, fun d nd2 => ?_⟩
      refine q _ d l (hb.trans (s2.trans (same_new nd2))) ((hb.trans s2).free nd2) ?_
      have e1 : (List.range ((ns.take 63).map V.int).length).map (fun i => V.int (if (ns.take 63).getD i 0 < 0 then -(ns.take 63).getD i 0 else (ns.take 63).getD i 0)) = ((ns.take 63).map fun z => if z < 0 then -z else z).map V.int := by
        rw [List.length_map, List.map_map]
        refine map_range _ fun j z hz => ?_
        rw [List.getD_eq_getElem?_getD, hz]
        rfl
      rw [e1] at hD
      refine ⟨_, 0, 0, 1, 0, upd_same, (same_new nd2) _ _ hD, by rw [List.length_map, List.length_take]; omega, fun n hn => ?_, by decide, by decide, by decide, by decide, by decide⟩
      obtain ⟨z, _, rfl⟩ := List.mem_map.mp hn
      split <;> omega
end
end LW
/-! The law's own defs: a draw. -/
namespace LW
open PySem PySem.Spec PyProof.Rows L2
section
variable {P : Program} {w : World} {K : PySem.W.Frag} {mg : Str → Option Value} {base : Heap} {X : Cx}
def spDraw : Sp := fun vs H Q _ => ∃ (d l : Addr) (n : Int), vs = [.ref d, .int n] ∧ DL H d l ∧ 1 ≤ n ∧ n ≤ 1000 ∧ ∀ (H' : Hp) (r : Int), Stay H H' → DL H' d l → 0 ≤ r → r < n → Q (.int r) H'
theorem ok_draw (T : Top K mg) : Cal P w K mg base 1 "_law_draw" spDraw := by
  refine cal0 T.d_l_draw sc_l_draw (fun vs H Q E h => ?_) (fun f cdv A outer s H vs Q E hr h => ?_)
  · obtain ⟨d, l, n, rfl, _⟩ := h
    rfl
  · obtain ⟨d, l, n, rfl, hD, n1, n1000, q⟩ := h
    have nd := sc_l_draw.nd
    refine ⟨_, pss_cons (ps_cut (ps_if (PW.pt (pw_and (pt_cmpR op_eq (pe_ix (ix_lK K) (pv 0) pe_int (fun _ _ => rfl)) pe_int (nomark _))
          (pw_and1 (pt_cmpR op_lt (pe_ix (ix_lK K) (pv 0) pe_int (fun _ _ => rfl)) (pe_callB (call_ln K) (by rfl) T.b_len PySem.boot_len (pa_cons (pe_ix (ix_lK K) (pv 0) pe_int (fun _ _ => rfl)) pa_nil)) (nomark _)))))
        (pss_cons (ps_set (i := 3) nd rfl (.inl rfl) (pe_ix (ix_lK K) (pe_ix (ix_lK K) (pv 0) pe_int (fun _ _ => rfl)) (pe_ix (ix_lK K) (pv 0) pe_int (fun _ _ => rfl)) (fun _ _ => rfl)))
          (pss_cons (ps_asg (pe_op op_add (pe_ix (ix_lK K) (pv 0) pe_int (fun _ _ => rfl)) pe_int) (pg_sub (pv 0) pe_int set_list))
          (pss_one (ps_if (pt_cmpR op_ge (pv 3) (pe_op op_pow pe_int pe_int) (nomark _))
            (pss_one (ps_asg (pv 3) (pg_sub (pv 0) pe_int set_list)))
            (pss_one (ps_asg (pe_op op_mod (pe_callTy call_int1 (by rfl) T.b_int (by decide +kernel) (pa_cons (pe_op op_add (pe_op op_add (pe_op op_mul (pe_ix (ix_lK K) (pv 0) pe_int (fun _ _ => rfl)) pe_int) (pe_op op_mul (pv 3) pe_int)) (pe_ix (ix_lK K) (pv 0) pe_int (fun _ _ => rfl))) pa_nil)) pe_int)
              (pg_sub (pv 0) pe_int set_list)))))))
        pss_nil))
      (pss_cons (ps_if (pt_cmpR op_gt (pe_ix (ix_lK K) (pv 0) pe_int (fun _ _ => rfl)) pe_int (nomark _))
        (pss_cons (ps_set (i := 4) nd rfl (.inl rfl) (pe_op op_mod (pe_callTy call_int1 (by rfl) T.b_int (by decide +kernel) (pa_cons (pe_ix (ix_lK K) (pv 0) pe_int (fun _ _ => rfl)) pa_nil)) (pv 1)))
          (pss_cons (ps_asg (pe_op op_fdiv (pe_callTy call_int1 (by rfl) T.b_int (by decide +kernel) (pa_cons (pe_ix (ix_lK K) (pv 0) pe_int (fun _ _ => rfl)) pa_nil)) (pv 1)) (pg_sub (pv 0) pe_int set_list))
          (pss_one (ps_ret (pv 4)))))
        pss_nil)
      (pss_cons (ps_asg (pe_op op_add (pe_ix (ix_lK K) (pv 0) pe_int (fun _ _ => rfl)) pe_int) (pg_sub (pv 0) pe_int set_list))
      (pss_cons (ps_asg (pe_op op_mod (pe_callTy call_int1 (by rfl) T.b_int (by decide +kernel) (pa_cons (pe_op op_add (pe_op op_add (pe_op op_mul (pe_ix (ix_lK K) (pv 0) pe_int (fun _ _ => rfl)) pe_int) (pe_op op_mul (pe_ix (ix_lK K) (pv 0) pe_int (fun _ _ => rfl)) pe_int)) pe_int) pa_nil)) pe_int) (pg_sub (pv 0) pe_int set_list))
      (pss_cons (ps_set (i := 2) nd rfl (.inl rfl) (pe_op op_mod (pe_callTy call_int1 (by rfl) T.b_int (by decide +kernel) (pa_cons (pe_op op_mul (pe_ix (ix_lK K) (pv 0) pe_int (fun _ _ => rfl)) (pe_op op_add (pe_op op_fdiv (pe_ix (ix_lK K) (pv 0) pe_int (fun _ _ => rfl)) pe_int) pe_int)) pa_nil)) pe_int))
      (pss_cons (ps_set (i := 2) nd rfl (.inl rfl) (pe_op op_mod (pe_callTy call_int1 (by rfl) T.b_int (by decide +kernel) (pa_cons (pe_op op_mul (pv 2) (pe_op op_add (pe_op op_fdiv (pv 2) pe_int) pe_int)) pa_nil)) pe_int))
      (pss_one (ps_ret (pe_op op_mod (pe_callTy call_int1 (by rfl) T.b_int (by decide +kernel) (pa_cons (pe_op op_fdiv (pv 2) pe_int) pa_nil)) (pv 1))))))))), ?_⟩
    obtain ⟨ns, i, b, sd, c, S⟩ := hD
    have cmR : ∀ {x j : Int}, 0 ≤ j → j < 4294967296 → CMul x j := fun h0 h1 => .inr ⟨by omega, by omega⟩
    have cmL : ∀ {x j : Int}, 0 ≤ x → x < 4294967296 → CMul x j := fun h0 h1 => .inl ⟨by omega, by omega⟩
    refine ⟨fun σ' H' => ∃ y2 y3 y4, σ' = [some (.ref d), some (.int n), y2, y3, y4] ∧ Stay H H' ∧ DL H' d l, ?_, ?_⟩
    · refine ⟨_, rfl, d, _, _, _, rfl, rfl, SqL.of S.hD, at_of (j := 2) rfl rfl, rfl, _, rfl, ite2 (fun hb => ?_) (fun hb => ?_)⟩
      · refine ⟨_, rfl, d, _, _, _, rfl, rfl, SqL.of S.hD, at_of (j := 1) rfl rfl, _, rfl, d, _, _, _, rfl, rfl, SqL.of S.hD, at_of (j := 0) rfl rfl, l, _, rfl, .inl (SqL.of S.hL), _, _, rfl, rfl, _, rfl, ite2 (fun hi => ?_) (fun hi => ?_)⟩
        · have hi2 := of_decide_eq_true hi
          rw [List.length_map] at hi2
          have i0 := S.i0
          obtain ⟨j, rfl⟩ : ∃ j : Nat, i = (j : Int) := ⟨i.toNat, by omega⟩
          have jl : j < ns.length := by omega
          have hcell : (ns.map V.int)[j]? = some (.int ns[j]) := by rw [List.getElem?_map, List.getElem?_eq_getElem jl]; rfl
          have cpos := S.pos _ (List.getElem_mem jl)
          have S1 := S.put (i' := (j : Int) + 1) (by omega) S.b0 S.s0 S.s1 S.c0
          have y1 := S.stay (dl l ((j : Int) + 1) b sd c)
          refine ⟨_, rfl, d, _, _, _, rfl, rfl, SqL.of S.hD, at_of (j := 0) rfl rfl, _, rfl, d, _, _, _, rfl, rfl, SqL.of S.hD, at_of (j := 1) rfl rfl, l, _, _, _, rfl, rfl, SqL.of S.hL, at_of (j := j) rfl hcell, ?_⟩
          refine ⟨_, rfl, d, _, _, _, rfl, rfl, SqL.of S.hD, at_of (j := 1) rfl rfl, _, _, rfl, rfl, _, rfl, d, _, _, 1, rfl, rfl, S.hD, rfl, ?_⟩
          refine ⟨_, rfl, _, _, rfl, rfl, ⟨by decide, by decide, by decide⟩, _, _, rfl, rfl, _, rfl, ite2 (fun hc => ?_) (fun hc => ?_)⟩
          · refine ⟨_, rfl, _, rfl, d, _, _, 2, rfl, rfl, S1.hD, rfl, _, _, _, rfl, y1.trans (S1.stay _), (S1.put S1.i0 cpos S1.s0 S1.s1 S1.c0).dice⟩
          · refine ⟨_, rfl, d, _, _, _, rfl, rfl, SqL.of S1.hD, at_of (j := 3) rfl rfl, _, _, rfl, rfl, cmR (by decide) (by decide), _, rfl, _, _, rfl, rfl, cmR (by decide) (by decide), _, _, rfl, rfl, _, rfl, d, _, _, _, rfl, rfl, SqL.of S1.hD, at_of (j := 1) rfl rfl, _, _, rfl, rfl, .inl ⟨_, rfl, _, _, rfl, rfl, (by decide : (0 : Int) < 2147483647), _, rfl, d, _, _, 3, rfl, rfl, S1.hD, rfl, _, _, _, rfl, y1.trans (S1.stay _),
              (S1.put S1.i0 S1.b0 (Int.emod_nonneg _ (by decide)) (Int.emod_lt_of_pos _ (by decide)) S1.c0).dice⟩⟩
        · exact ⟨_, _, _, rfl, Stay.refl H, S.dice⟩
      · exact ⟨_, _, _, rfl, Stay.refl H, S.dice⟩
    · rintro σ' H' ⟨y2, y3, y4, rfl, sy, hD2⟩
      obtain ⟨ns, i, b, sd, c, S⟩ := hD2
      have n0 : 0 < n := by omega
      refine ⟨_, rfl, d, _, _, _, rfl, rfl, SqL.of S.hD, at_of (j := 2) rfl rfl, _, _, rfl, rfl, _, rfl, ite2 (fun hb => ?_) (fun hb => ?_)⟩
      · have b0 := S.b0
        refine ⟨_, rfl, d, _, _, _, rfl, rfl, SqL.of S.hD, at_of (j := 2) rfl rfl, .inl ⟨_, rfl, _, rfl, _, _, rfl, rfl, n0, ?_⟩⟩
        refine ⟨_, rfl, d, _, _, _, rfl, rfl, SqL.of S.hD, at_of (j := 2) rfl rfl, .inl ⟨_, rfl, _, rfl, _, _, rfl, rfl, ⟨n0, by omega⟩, _, rfl, d, _, _, 2, rfl, rfl, S.hD, rfl, ?_⟩⟩
        exact ⟨_, rfl, q _ _ (sy.trans (S.stay _)) (S.put S.i0 (Int.ediv_nonneg b0 (by omega)) S.s0 S.s1 S.c0).dice (Int.emod_nonneg _ (by omega)) (Int.emod_lt_of_pos _ n0)⟩
      · have c0 := S.c0
        have S1 := S.put (c' := c + 1) S.i0 S.b0 S.s0 S.s1 (by omega)
        have y1 := sy.trans (S.stay (dl l i b sd (c + 1)))
        refine ⟨_, rfl, d, _, _, _, rfl, rfl, SqL.of S.hD, at_of (j := 4) rfl rfl, _, _, rfl, rfl, _, rfl, d, _, _, 4, rfl, rfl, S.hD, rfl, ?_⟩
        have S2 := S1.put (s' := (sd * 48271 + (c + 1) * 7919 + 1) % 2147483647) S1.i0 S1.b0 (Int.emod_nonneg _ (by decide)) (Int.emod_lt_of_pos _ (by decide)) S1.c0
        have y3 := y1.trans (S1.stay (dl l i b ((sd * 48271 + (c + 1) * 7919 + 1) % 2147483647) (c + 1)))
        refine ⟨_, rfl, d, _, _, _, rfl, rfl, SqL.of S1.hD, at_of (j := 3) rfl rfl, _, _, rfl, rfl, cmR (by decide) (by decide), _, rfl, d, _, _, _, rfl, rfl, SqL.of S1.hD, at_of (j := 4) rfl rfl, _, _, rfl, rfl, cmR (by decide) (by decide), _, _, rfl, rfl, _, _, rfl, rfl, .inl ⟨_, rfl, _, _, rfl, rfl, (by decide : (0 : Int) < 2147483647), _, rfl, d, _, _, 3, rfl, rfl, S1.hD, rfl, ?_⟩⟩
        have z0 := S2.s0
        have z1 := S2.s1
        refine ⟨_, rfl, d, _, _, _, rfl, rfl, SqL.of S2.hD, at_of (j := 3) rfl rfl, _, rfl, d, _, _, _, rfl, rfl, SqL.of S2.hD, at_of (j := 3) rfl rfl, _, _, rfl, rfl, ⟨by decide, by decide⟩, _, _, rfl, rfl, _, _, rfl, rfl, cmL z0 (Int.lt_trans z1 (by decide)), .inl ⟨_, rfl, _, _, rfl, rfl, (by decide : (0 : Int) < 2147483399), ?_⟩⟩
        have m0 : 0 ≤ ((sd * 48271 + (c + 1) * 7919 + 1) % 2147483647) * (((sd * 48271 + (c + 1) * 7919 + 1) % 2147483647) / 1009 + 69623) % 2147483399 := Int.emod_nonneg _ (by decide)
        have m1 : ((sd * 48271 + (c + 1) * 7919 + 1) % 2147483647) * (((sd * 48271 + (c + 1) * 7919 + 1) % 2147483647) / 1009 + 69623) % 2147483399 < 2147483399 := Int.emod_lt_of_pos _ (by decide)
        refine ⟨_, rfl, _, rfl, _, _, rfl, rfl, ⟨by decide, by decide⟩, _, _, rfl, rfl, _, _, rfl, rfl, cmL m0 (Int.lt_trans m1 (by decide)), .inl ⟨_, rfl, _, _, rfl, rfl, (by decide : (0 : Int) < 2147483563), ?_⟩⟩
        refine ⟨_, rfl, _, _, rfl, rfl, ⟨by decide, by decide⟩, .inl ⟨_, rfl, _, rfl, _, _, rfl, rfl, n0, ?_⟩⟩
        exact q _ _ y3 S2.dice (Int.emod_nonneg _ (by omega)) (Int.emod_lt_of_pos _ n0)
end
end LW
/-! The law's own defs: drawn parts. -/
namespace LW
open PySem PySem.Spec PyProof.Rows L2
/-- a list of k lots -/
def LL (H : Hp) (la : Addr) (D : Int) (k : Nat) : Prop := ∃ as : List Addr, H la = some (.lst (as.map V.ref)) ∧ as.length = k ∧ ∀ a ∈ as, ∃ lot, Lot H a lot ∧ LotOk D lot
theorem lots_stay {H H' : Hp} {as : List Addr} {D : Int} (h : ∀ a ∈ as, ∃ lot, Lot H a lot ∧ LotOk D lot) (s : Stay H H') : ∀ a ∈ as, ∃ lot, Lot H' a lot ∧ LotOk D lot := fun a ha =>
  let ⟨lot, l, ok⟩ := h a ha
  ⟨lot, l.stay s, ok⟩
theorem LL.stay {H H' : Hp} {la : Addr} {D : Int} {k : Nat} (h : LL H la D k) (s : Stay H H') : LL H' la D k :=
  let ⟨as, e, l, r⟩ := h
  ⟨as, s _ _ e nd_refs, l, lots_stay r s⟩
/-- the list's object may be written, the lots stay -/
theorem lots_upd {H : Hp} {as : List Addr} {D : Int} {la : Addr} {xs : List V} (h : ∀ a ∈ as, ∃ lot, Lot H a lot ∧ LotOk D lot) (hl : H la = some (.lst xs)) (o : HO) : ∀ a ∈ as, ∃ lot, Lot (upd H la o) a lot ∧ LotOk D lot := fun a ha =>
  let ⟨lot, l, ok⟩ := h a ha
  ⟨lot, by
    unfold Lot
    rw [upd_ne (ne_of (show H a = some (.tup (lot.map V.int)) from l) hl (fun z => nomatch z))]
    exact l, ok⟩
theorem LL.snoc {H : Hp} {la a : Addr} {D : Int} {as : List Addr} {lot : List Int} (hl : H la = some (.lst (as.map V.ref))) (h : ∀ a ∈ as, ∃ lot, Lot H a lot ∧ LotOk D lot) (l : Lot H a lot) (ok : LotOk D lot) :
    LL (upd H la (.lst (as.map V.ref ++ [V.ref a]))) la D (as.length + 1) := by
  refine ⟨as ++ [a], by rw [upd_same, List.map_append]; rfl, by rw [List.length_append]; rfl, lots_upd (fun b hb => ?_) hl _⟩
  rcases List.mem_append.mp hb with q | q
  · exact h b q
  · rw [List.mem_singleton.mp q]
    exact ⟨lot, l, ok⟩
theorem lots_pick {H : Hp} {D : Int} : ∀ {as : List Addr}, (∀ a ∈ as, ∃ lot, Lot H a lot ∧ LotOk D lot) → ∃ lots : List (List Int), as.length = lots.length ∧ (∀ (i : Nat) (a : Addr) (lot : List Int), as[i]? = some a → lots[i]? = some lot → Lot H a lot) ∧ ∀ lot ∈ lots, LotOk D lot
  | [], _ => ⟨[], rfl, (fun i a lot e => by cases e), fun _ h => nomatch h⟩
  | a :: r, h => by
    obtain ⟨lots, e1, e2, e3⟩ := lots_pick (as := r) fun b hb => h b (List.mem_cons_of_mem _ hb)
    obtain ⟨lot, l, ok⟩ := h a List.mem_cons_self
    refine ⟨lot :: lots, by rw [List.length_cons, List.length_cons, e1], fun i b lt h1 h2 => ?_, fun x hx => ?_⟩
    · cases i with
      | zero =>
        cases h1
        cases h2
        exact l
      | succ i => exact e2 i b lt (by simpa using h1) (by simpa using h2)
    · rcases List.mem_cons.mp hx with rfl | hx
      · exact ok
      · exact e3 x hx
theorem sorted_lt {ns ms : List Int} (p : ms.Perm ns) (nd : ns.Nodup) (h : ms.Pairwise (· ≤ ·)) : ms.Pairwise (· < ·) :=
  (h.and (p.nodup_iff.mpr nd)).imp fun {a b} q => by
    obtain ⟨h1, h2⟩ := q
    omega
section
variable {P : Program} {w : World} {K : PySem.W.Frag} {mg : Str → Option Value} {base : Heap} {X : Cx}
/-- a comprehension over a range whose items are lots -/
theorem lcl_range {lo D : Int} {n j : Nat} {te : TE} {vs : List Nat} {σ : L2.St} {H1 : Hp} {Qd : Addr → Hp → Prop} (hw : ∀ x, wipe ((wipe σ vs).set j (some x)) vs = wipe σ vs) (hz : n ≤ 100000)
    (he : ∀ (i : Nat) (H' : Hp) (R : VK), i < n → Same H1 H' → (∀ (H2 : Hp) (a : Addr) (lot : List Int), Same H' H2 → Lot H2 a lot → LotOk D lot → R (.ref a) H2) → te ((wipe σ vs).set j (some (.int (lo + i)))) H' R)
    (hd : ∀ l H', Same H1 H' → H1 l = none → LL H' l D n → Qd l H') : ∀ l, H1 l = none → LcG (Itr lo n) (gName j) tYes te vs σ H1 l (Qd l) := fun l nl => by
  refine lc_range (fun i H' => Same H1 H' ∧ LL H' l D i) ⟨same_new nl, [], upd_same, rfl, fun _ h => nomatch h⟩ (fun i H' hi h => ⟨hw _, ?_⟩) (fun H' h => hd l H' h.1 nl h.2)
  unfold tYes
  refine iteT (he i H' _ hi h.1 fun H2 a lot s2 hl ok => ?_)
  obtain ⟨as, e1, e2, e3⟩ := h.2
  have e1' := s2 _ _ e1
  refine ⟨_, e1', ?_, same_mut (h.1.trans s2) nl, ?_⟩
  · rw [List.length_map, e2]
    exact small5 (by omega)
  · rw [← e2]
    exact LL.snoc e1' (lots_stay e3 (.of s2)) hl ok
theorem lot_two {D i : Int} (h0 : 0 ≤ i) (h1 : i < D) (h2 : 2 < D) {ms : List Int} (p : ms.Perm [i, (i + 1) % D]) (h : ms.Pairwise (· ≤ ·)) : LotOk D ms := by
  have j0 : 0 ≤ (i + 1) % D := Int.emod_nonneg _ (by omega)
  have j1 : (i + 1) % D < D := Int.emod_lt_of_pos _ (by omega)
  have ne : i ≠ (i + 1) % D := by
    by_cases e : i + 1 = D
    · rw [e, Int.emod_self]
      omega
    · rw [Int.emod_eq_of_lt (by omega) (by omega)]
      omega
  refine ⟨fun e => ?_, sorted_lt p (by simp [ne]) h, by rw [p.length_eq]; exact Nat.le_of_ble_eq_true rfl, fun d hd => ?_⟩
  · have := p.length_eq
    rw [e] at this
    cases this
  · have := p.mem_iff.mp hd
    rcases List.mem_cons.mp this with rfl | this
    · exact ⟨h0, h1⟩
    · rw [List.mem_singleton.mp this]
      exact ⟨j0, j1⟩
theorem cr_sortedK (K : PySem.W.Frag) (e : X.K = K := by rfl) : CallR X (.builtin "sorted") (rSorted K) := by
  subst e
  exact cr_sorted
/-- where the list of lots stands -/
def PartsI (H : Hp) (d l : Addr) (most D k : Int) (σ : L2.St) (H' : Hp) : Prop := ∃ (la : Addr) (n : Nat), σ = [some (.ref d), some (.int most), some (.int D), some (.int k), some (.ref la), none, none, none] ∧ Stay H H' ∧ DL H' d l ∧ H la = none ∧ n ≤ 6 ∧ LL H' la D n
def spParts : Sp := fun vs H Q _ => ∃ (d l : Addr) (most : Int), vs = [.ref d, .int most] ∧ DL H d l ∧ 1 ≤ most ∧ most ≤ 6 ∧ ∀ (H' : Hp) (p : Addr) (D : Int) (lots : List (List Int)), Stay H H' → DL H' d l → PartsAt H' p D lots → Q (.ref p) H'
theorem ok_parts (T : Top K mg) : Cal P w K mg base 2 "_law_parts" spParts := by
  have G : Cal P w K mg base 1 "_law_draw" spDraw := ok_draw T
  refine cal0 T.d_l_parts sc_l_parts (fun vs H Q E h => ?_) (fun f cdv A outer s H vs Q E hr h => ?_)
  · obtain ⟨d, l, n, rfl, _⟩ := h
    rfl
  · obtain ⟨d, l, most, rfl, hD, m1, m6, q⟩ := h
    have nd := sc_l_parts.nd
    refine ⟨_, pss_cons (ps_set (i := 2) nd rfl (.inr rfl) (pe_op op_add pe_int (pe_cal G hr (pa_cons (pv 0) (pa_cons (pv 1) pa_nil)))))
      (pss_cons (ps_set (i := 3) nd rfl (.inl rfl) (pe_cal G hr (pa_cons (pv 0) (pa_cons pe_int pa_nil))))
      (pss_cons (ps_set (i := 4) nd rfl (.inl rfl) (pe_lst pa_nil))
      (pss_cons (ps_cut (ps_if (PW.pt (pw_and (pt_cmpR op_eq (pv 3) pe_int (nomark _)) (pw_and1 (pt_cmpR op_gt (pv 2) pe_int (nomark _)))))
        (pss_one (ps_setLc (i := 4) (own := [("_law_desk", 7)]) (g := gName 7) (tt := tYes) rfl nd rfl rfl rfl (pi_range1 (by rfl) T.b_range (pa_cons (pv 2) pa_nil)) (blkOk_by (N := n_l_parts) (sc := defScope t_l_parts) (by decide +kernel))
          (fun _ _ _ _ _ => pg_name (i := 7) nd rfl (Or.inl rfl)) (fun _ _ _ _ _ => pts_nil)
          (fun _ _ _ _ _ => pe_callTy (call_tupK K) (by rfl) T.b_tuple (by decide +kernel) (pa_cons (pe_callB (cr_sortedK K) (by rfl) T.b_sorted (by decide +kernel) (pa_cons (pe_lst (pa_cons (pv 7) (pa_cons
            (pe_op op_mod (pe_callTy call_int1 (by rfl) T.b_int (by decide +kernel) (pa_cons (pe_op op_add (pv 7) pe_int) pa_nil)) (pv 2)) pa_nil))) pa_nil)) pa_nil)))) pss_nil))
      (pss_cons (ps_cut (ps_if (pt_cmpR op_eq (pv 3) pe_int (nomark _))
        (pss_one (ps_setLc (i := 4) (own := [("_law_desk", 7)]) (g := gName 7) (tt := tYes) rfl nd rfl rfl rfl (pi_range1 (by rfl) T.b_range (pa_cons (pv 2) pa_nil)) (blkOk_by (N := n_l_parts) (sc := defScope t_l_parts) (by decide +kernel))
          (fun _ _ _ _ _ => pg_name (i := 7) nd rfl (Or.inl rfl)) (fun _ _ _ _ _ => pts_nil) (fun _ _ _ _ _ => pe_tup (pa_cons (pv 7) pa_nil)))) pss_nil))
      (pss_cons (ps_cut (ps_if (PW.pt (pw_and (pt_cmpR op_eq (pv 3) pe_int (nomark _)) (pw_and1 (pt_cmpR op_gt (pv 2) pe_int (nomark _)))))
        (pss_one (ps_setLc (i := 4) (own := [("_law_desk", 7)]) (g := gName 7) (tt := tYes) rfl nd rfl rfl rfl (pi_range2 (by rfl) T.b_range (pa_cons pe_int (pa_cons (pv 2) pa_nil))) (blkOk_by (N := n_l_parts) (sc := defScope t_l_parts) (by decide +kernel))
          (fun _ _ _ _ _ => pg_name (i := 7) nd rfl (Or.inl rfl)) (fun _ _ _ _ _ => pts_nil) (fun _ _ _ _ _ => pe_tup (pa_cons pe_int (pa_cons (pv 7) pa_nil))))) pss_nil))
      (pss_cons (ps_for PassesOwn.never rfl (pi_range1 (by rfl) T.b_range (pa_cons (pe_op op_add pe_int (pe_cal G hr (pa_cons (pv 0) (pa_cons pe_int pa_nil)))) pa_nil)) (pg_name (i := 5) nd rfl (.inl rfl))
        (pss_cons (ps_set (i := 6) nd rfl (.inl rfl) (pe_callTy (call_tupK K) (by rfl) T.b_tuple (by decide +kernel) (pa_cons
            (pe_lc (own := [("_law_desk", 7)]) (g := gName 7) (tt := tTest (tOp rEq (tCall spDraw [] E0 (tCons (tVar 0) (tCons (tC (.int 2)) tNil))) (tC (.int 0)))) rfl nd (pi_range1 (by rfl) T.b_range (pa_cons (pv 2) pa_nil)) (blkOk_by (N := n_l_parts) (sc := defScope t_l_parts) (by decide +kernel))
              (fun _ _ _ _ _ => pg_name (i := 7) nd rfl (Or.inl rfl)) (fun _ _ _ _ _ => pts_one (pt_cmpR op_eq (pe_cal G hr (pa_cons (pv 0) (pa_cons pe_int pa_nil))) pe_int (nomark _))) (fun _ _ _ _ _ => pv 7)) pa_nil)))
        (pss_one (ps_expr (pe_bm PySem.F.plainAttrs_list PySem.F.slot_list_append PySem.F.type_list_append mt_append (pv 4) (pa_cons
          (pe_ifExp (pt_cmpR op_gt (pe_callB (call_ln K) (by rfl) T.b_len PySem.boot_len (pa_cons (pv 6) pa_nil)) pe_int (nomark _)) (pv 6) (pe_tup (pa_cons (pe_cal G hr (pa_cons (pv 0) (pa_cons (pv 2) pa_nil))) pa_nil))) pa_nil))))))
      (pss_one (ps_ret (pe_tup (pa_cons (pv 2) (pa_cons (pe_callTy (call_tupK K) (by rfl) T.b_tuple (by decide +kernel) (pa_cons (pe_slice (sl_lK K) (pv 4) po_none (po_some pe_int)) pa_nil)) pa_nil))))))))))), ?_⟩
    refine ⟨_, rfl, _, rfl, d, l, most, rfl, hD, m1, by omega, fun H1 r1 s1 D1 a0 a1 => ⟨_, _, rfl, rfl, ?_⟩⟩
    refine ⟨_, rfl, d, l, 4, rfl, D1, by decide, by decide, fun H2 k s2 D2 k0 k1 => ?_⟩
    refine ⟨Nat.zero_le _, fun la nla => ?_⟩
    have s12 := s1.trans s2
    -- the three kinds
    refine ⟨fun σ' H' => ∃ D, 1 ≤ D ∧ D ≤ 6 ∧ PartsI H d l most D k σ' H', ?_, ?_⟩
    · have dv1 : 1 ≤ 1 + r1 := by omega
      have dv6 : 1 + r1 ≤ 6 := by omega
      have start : PartsI H d l most (1 + r1) k [some (.ref d), some (.int most), some (.int (1 + r1)), some (.int k), some (.ref la), none, none, none] (upd H2 la (.lst [])) :=
        ⟨la, 0, rfl, stay_mut s12 (s12.there _ nla), D2.same (same_new nla), s12.there _ nla, Nat.zero_le _, [], upd_same, rfl, fun _ h => nomatch h⟩
      refine ⟨_, rfl, rfl, _, rfl, ite2 (fun h1 => ?_) (fun h1 => ⟨_, dv1, dv6, start⟩)⟩
      refine ⟨_, rfl, _, _, rfl, rfl, _, rfl, ite2 (fun h2 => ?_) (fun h2 => ⟨_, dv1, dv6, start⟩)⟩
      have d2 : 2 < 1 + r1 := of_decide_eq_true h2
      obtain ⟨_, _, _, sy, Dy, nly, _, _⟩ := start
      refine ⟨_, rfl, _, rfl, by omega, by omega, lcl_range (D := 1 + r1) (fun _ => rfl) (by omega) (fun i H' R hi s kk => ?_) fun lb H' s nl hl => ?_⟩
      · have i0 : (0 : Int) ≤ 0 + (i : Nat) := by omega
        have i1 : (0 : Int) + (i : Nat) < 1 + r1 := by omega
        refine ⟨_, rfl, _, rfl, _, _, rfl, rfl, .inl ⟨_, rfl, _, rfl, _, _, rfl, rfl, by omega, ?_⟩⟩
        refine ⟨by show 2 ≤ sizeLine; decide, fun p1 n1 => ⟨p1, [(0 : Int) + (i : Nat), ((0 : Int) + (i : Nat) + 1) % (1 + r1)], rfl, SqL.of upd_same, by show 2 < 64; decide, fun ms p2 pm ps n2 => ?_⟩⟩
        refine ⟨p2, _, rfl, .inl ⟨SqL.of upd_same, fun p3 n3 => ?_⟩⟩
        exact kk _ _ ms (((same_new n1).trans (same_new n2)).trans (same_new n3)) upd_same (lot_two i0 i1 d2 pm ps)
      · exact ⟨_, dv1, dv6, lb, _, rfl, sy.trans (.of s), Dy.same s, sy.there _ nl, by omega, hl⟩
    rintro σ1 H3 ⟨D, dv1, dv6, l1, n1, rfl, sy1, Dy1, nl1, ln1, hl1⟩
    refine ⟨PartsI H d l most D k, ?_, ?_⟩
    · have start : PartsI H d l most D k [some (.ref d), some (.int most), some (.int D), some (.int k), some (.ref l1), none, none, none] H3 := ⟨l1, n1, rfl, sy1, Dy1, nl1, ln1, hl1⟩
      refine ⟨_, rfl, rfl, _, rfl, ite2 (fun h1 => ?_) (fun h1 => start)⟩
      refine ⟨_, rfl, D, rfl, by omega, by omega, lcl_range (D := D) (fun _ => rfl) (by omega) (fun i H' R hi s kk => ?_) fun lb H' s nl hl => ?_⟩
      · refine ⟨_, rfl, by show 1 ≤ sizeLine; decide, fun p1 n1 => kk _ _ [(0 : Int) + (i : Nat)] (same_new n1) upd_same ⟨(fun z => nomatch z), List.pairwise_singleton _ _, by show 1 ≤ 6; decide, fun x hx => ?_⟩⟩
        rw [List.mem_singleton.mp hx]
        omega
      · exact ⟨lb, _, rfl, sy1.trans (.of s), Dy1.same s, sy1.there _ nl, by omega, hl⟩
    rintro σ2 H4 ⟨l2, n2, rfl, sy2, Dy2, nl2, ln2, hl2⟩
    refine ⟨PartsI H d l most D k, ?_, ?_⟩
    · have start : PartsI H d l most D k [some (.ref d), some (.int most), some (.int D), some (.int k), some (.ref l2), none, none, none] H4 := ⟨l2, n2, rfl, sy2, Dy2, nl2, ln2, hl2⟩
      refine ⟨_, rfl, rfl, _, rfl, ite2 (fun h1 => ?_) (fun h1 => start)⟩
      refine ⟨_, rfl, _, _, rfl, rfl, _, rfl, ite2 (fun h2 => ?_) (fun h2 => start)⟩
      refine ⟨_, rfl, 1, D, rfl, ⟨by omega, by omega, by omega, by omega⟩, lcl_range (D := D) (fun _ => rfl) (by omega) (fun i H' R hi s kk => ?_) fun lb H' s nl hl => ?_⟩
      · refine ⟨_, rfl, by show 2 ≤ sizeLine; decide, fun p1 n1 => kk _ _ [0, (1 : Int) + (i : Nat)] (same_new n1) upd_same ⟨(fun z => nomatch z), ?_, by show 2 ≤ 6; decide, fun x hx => ?_⟩⟩
        · rw [List.pairwise_pair]
          omega
        · rcases List.mem_cons.mp hx with rfl | hx
          · omega
          · rw [List.mem_singleton.mp hx]
            omega
      · exact ⟨lb, _, rfl, sy2.trans (.of s), Dy2.same s, sy2.there _ nl, by omega, hl⟩
    rintro σ3 H5 ⟨l3, n3, rfl, sy3, Dy3, nl3, ln3, hl3⟩
    -- the loop
    refine ⟨_, rfl, d, l, 4, rfl, Dy3, by decide, by decide, fun H6 r s6 D6 t0 t1 => ?_⟩
    refine ⟨_, _, rfl, rfl, _, rfl, by omega, by omega, for_range (lo := 0) (n := (1 + r).toNat) (fun i σ H' => ∃ (n : Nat) (y5 y6 : Option V), σ = [some (.ref d), some (.int most), some (.int D), some (.int k), some (.ref l3), y5, y6, none] ∧
      Stay H H' ∧ DL H' d l ∧ i ≤ n ∧ n ≤ 6 + i ∧ LL H' l3 D n) ⟨n3, _, none, rfl, sy3.trans s6, D6, Nat.zero_le _, by omega, hl3.stay s6⟩ ?_ ?_⟩
    · rintro i σ H' hi ⟨n, y5, y6, rfl, sy, Dy, h1, h2, hl⟩
      refine ⟨_, rfl, D, rfl, by omega, by omega, fun Dl nD => ?_⟩
      refine lc_range (fun j H2 => Stay H' H2 ∧ DL H2 d l ∧ ∃ acc : List Int, H2 Dl = some (.lst (acc.map V.int)) ∧ acc.Pairwise (· < ·) ∧ (∀ x ∈ acc, 0 ≤ x ∧ x < (j : Nat)) ∧ acc.length ≤ j)
        ⟨.of (same_new nD), Dy.same (same_new nD), [], upd_same, List.Pairwise.nil, (fun _ h => nomatch h), Nat.le_refl _⟩ (fun j H2 hj h => ⟨rfl, ?_⟩) (fun H2 h => ?_)
      · obtain ⟨sj, Dj, acc, a1, a2, a3, a4⟩ := h
        refine ⟨_, rfl, d, l, 2, rfl, Dj, by decide, by decide, fun H3 v s3 D3 v0 v1 => ⟨rfl, _, rfl, ite2 (fun hb => ?_) (fun hb => ?_)⟩⟩
        · have a1' := s3 _ _ a1 nd_ints
          refine ⟨_, rfl, acc.map V.int, a1', by rw [List.length_map]; exact small5 (by omega), stay_mut (sj.trans s3) nD, Dy.mut D3 nD, acc ++ [(0 : Int) + (j : Nat)], by rw [upd_same, List.map_append]; rfl, ?_, fun x hx => ?_, ?_⟩
          · rw [List.pairwise_append]
            refine ⟨a2, List.pairwise_singleton _ _, fun x hx y hy => ?_⟩
            rw [List.mem_singleton.mp hy]
            have := a3 x hx
            omega
          · rcases List.mem_append.mp hx with q1 | q1
            · have := a3 x q1
              omega
            · rw [List.mem_singleton.mp q1]
              omega
          · rw [List.length_append, List.length_singleton]
            omega
        · exact ⟨sj.trans s3, D3, acc, s3 _ _ a1 nd_ints, a2, fun x hx => by have := a3 x hx; omega, by omega⟩
      · obtain ⟨sj, Dj, acc, a1, a2, a3, a4⟩ := h
        refine ⟨Dl, _, rfl, .inl ⟨SqL.of a1, fun t nt => ?_⟩⟩
        have st : Same H2 (upd H2 t (.tup (acc.map V.int))) := same_new nt
        have lt : Lot (upd H2 t (.tup (acc.map V.int))) t acc := upd_same
        generalize upd H2 t (.tup (acc.map V.int)) = H3 at st lt
        have D3 := Dj.same st
        have s3 := sj.thenS st
        obtain ⟨as, e1, e2, e3⟩ := hl
        have e1' := s3 _ _ e1 nd_refs
        refine ⟨_, rfl, .inl ⟨rfl, _, SqL.of e1'⟩, _, rfl, t, _, rfl, .inr (SqT.of lt), _, _, rfl, rfl, _, rfl, ite2 (fun hp => ?_) (fun hp => ?_)⟩
        · rw [List.length_map] at hp
          have hp2 := of_decide_eq_true hp
          have ok : LotOk D acc := ⟨(fun z => by rw [z] at hp2; exact absurd hp2 (by decide)), a2, by omega, fun x hx => by have := a3 x hx; omega⟩
          refine ⟨_, rfl, l3, _, _, rfl, rfl, e1', by rw [List.length_map]; exact small5 (by omega), ?_⟩
          have hs := LL.snoc e1' (lots_stay e3 s3) lt ok
          rw [e2] at hs
          exact ⟨n + 1, _, _, rfl, stay_mut (sy.trans s3) nl3, hD.mut D3 nl3, by omega, by omega, hs⟩
        · refine ⟨_, rfl, _, rfl, d, l, D, rfl, D3, by omega, by omega, fun H4 v s4 D4 v0 v1 => ?_⟩
          refine ⟨by show 1 ≤ sizeLine; decide, fun p np => ?_⟩
          have sp : Same H4 (upd H4 p (.tup [V.int v])) := same_new np
          have lp : Lot (upd H4 p (.tup [V.int v])) p [v] := upd_same
          generalize upd H4 p (.tup [V.int v]) = H5 at sp lp
          have s5 := (s3.trans s4).thenS sp
          have e1'' := s5 _ _ e1 nd_refs
          have ok : LotOk D [v] := ⟨(fun z => nomatch z), List.pairwise_singleton _ _, by show 1 ≤ 6; decide, fun x hx => by rw [List.mem_singleton.mp hx]; exact ⟨v0, v1⟩⟩
          refine ⟨l3, _, _, rfl, rfl, e1'', by rw [List.length_map]; exact small5 (by omega), ?_⟩
          have hs := LL.snoc e1'' (lots_stay e3 s5) lp ok
          rw [e2] at hs
          exact ⟨n + 1, _, _, rfl, stay_mut (sy.trans s5) nl3, hD.mut (D4.same sp) nl3, by omega, by omega, hs⟩
    · rintro σ H' ⟨n, y5, y6, rfl, sy, Dy, h1, h2, as, e1, e2, e3⟩
      refine ⟨_, rfl, _, rfl, (10 : Int), rfl, l3, _, rfl, SqL.of e1, fun b nb => ?_⟩
      have ec : cutV (as.map V.ref) none (some (10 : Int)) = (as.take 10).map V.ref := by
        rw [List.map_take]
        exact cut_to (as.map V.ref) 10
      rw [ec]
      refine ⟨b, _, rfl, .inl ⟨SqL.of upd_same, fun t nt => ⟨by show 2 ≤ sizeLine; decide, fun p np => ?_⟩⟩⟩
      have sE : Same H' (upd (upd (upd H' b (.lst ((as.take 10).map V.ref))) t (.tup ((as.take 10).map V.ref))) p (.tup [V.int D, V.ref t])) := ((same_new nb).trans (same_new nt)).trans (same_new np)
      obtain ⟨lots, w1, w2, w3⟩ := lots_pick (as := as.take 10) (H := upd (upd (upd H' b (.lst ((as.take 10).map V.ref))) t (.tup ((as.take 10).map V.ref))) p (.tup [V.int D, V.ref t])) (D := D)
        fun a ha => let ⟨lot, y1, y2⟩ := e3 a (List.mem_of_mem_take ha); ⟨lot, y1.same sE, y2⟩
      have hlen : lots.length = min 10 n := by rw [← w1, List.length_take, e2]
      refine q _ p D lots (sy.thenS sE) (Dy.same sE) ⟨⟨t, upd_same, as.take 10, ?_, w1, w2⟩, dv1, dv6, by omega, by omega, w3⟩
      exact (same_new np) _ _ upd_same
end
end LW
/-! The law's own defs: the office made, a drawn row, what meets. -/
namespace LW
open PySem PySem.Spec PyProof.Rows L2
section
variable {P : Program} {w : World} {K : PySem.W.Frag} {mg : Str → Option Value} {base : Heap} {X : Cx}
def spMade (K : PySem.W.Frag) : Sp := fun vs H Q _ => ∃ (p : Addr) (D : Int) (lots : List (List Int)), vs = [.ref p] ∧ PartsAt H p D lots ∧ ∀ (H' : Hp) (x : Addr), Same H H' → OfficeAt K H' x lots.length (MM lots) → Q (.ref x) H'
theorem ok_made (T : Top K mg) : Cal P w K mg base 7 "_law_made" (spMade K) := by
  obtain ⟨C, f0, fd0, mC, M, F, B, cl, n1, n2, n3, n4⟩ := T.office
  have G : FnOk P w K mg base CX0 5 f0 fd0 p_office (spOffice K) := ok_office T F
  refine cal0 T.d_l_made sc_l_made (fun vs H Q E h => ?_) (fun f cdv A outer s H vs Q E hr h => ?_)
  · obtain ⟨p, D, lots, rfl, _⟩ := h
    rfl
  · obtain ⟨p, D, lots, rfl, hP, q⟩ := h
    refine ⟨_, pss_one (ps_ret (pe_make M G hr (by rfl) mC B .nil pass0 (pa_cons (pe_ix (ix_tK K) (pv 0) pe_int (fun _ _ => rfl)) (pa_cons (pe_ix (ix_tK K) (pv 0) pe_int (fun _ _ => rfl)) pa_nil)))), ?_⟩
    obtain ⟨wa, h1, hL⟩ := hP.ex
    refine ⟨_, rfl, p, _, 0, _, rfl, rfl, SqT.of h1, at_of (j := 0) rfl rfl, _, rfl, p, _, 1, _, rfl, rfl, SqT.of h1, at_of (j := 1) rfl rfl, fun x dx nx ndx ne => ?_⟩
    have s0 : Same H (upd (upd H dx (.own x)) x (.ins C dx [])) := same_mut (same_new ndx) nx
    refine ⟨x, C, dx, wa, D, lots, rfl, upd_same, cl, n1, n2, n3, n4, hL.same s0, hP.ok, fun H' O k => ⟨rfl, q H' x (fun b o e => ?_) O⟩⟩
    exact k b o (s0 b o e) (ne_of_none e nx)
def spSomeParts : Sp := fun vs H Q _ => ∃ (d l : Addr), vs = [.ref d] ∧ DL H d l ∧ ∀ (H' : Hp) (p : Addr) (D : Int) (lots : List (List Int)), Stay H H' → DL H' d l → PartsAt H' p D lots → Q (.ref p) H'
theorem ok_some_parts (T : Top K mg) : Cal P w K mg base 3 "_law_some_parts" spSomeParts := by
  have G : Cal P w K mg base 1 "_law_draw" spDraw := ok_draw T
  have G2 : Cal P w K mg base 2 "_law_parts" spParts := ok_parts T
  refine cal0 T.d_l_some_parts sc_l_some_parts (fun vs H Q E h => ?_) (fun f cdv A outer s H vs Q E hr h => ?_)
  · obtain ⟨d, l, rfl, _⟩ := h
    rfl
  · obtain ⟨d, l, rfl, hD, q⟩ := h
    refine ⟨_, pss_one (ps_ret (pe_cal G2 hr (pa_cons (pv 0) (pa_cons (pe_ifExp (pt_cmpR op_eq (pe_cal G hr (pa_cons (pv 0) (pa_cons pe_int pa_nil))) pe_int (nomark _)) pe_int pe_int) pa_nil)))), ?_⟩
    refine ⟨_, rfl, _, rfl, d, l, 8, rfl, hD, by decide, by decide, fun H1 r s1 D1 r0 r1 => ⟨rfl, _, rfl, ite2 (fun _ => ?_) (fun _ => ?_)⟩⟩
    · exact ⟨d, l, 6, rfl, D1, by decide, by decide, fun H' p D lots s D2 hp => q H' p D lots (s1.trans s) D2 hp⟩
    · exact ⟨d, l, 4, rfl, D1, by decide, by decide, fun H' p D lots s D2 hp => q H' p D lots (s1.trans s) D2 hp⟩
def spRow : Sp := fun vs H Q _ => ∃ (d l p : Addr) (most D : Int) (lots : List (List Int)), vs = [.ref d, .ref p, .int most] ∧ DL H d l ∧ PartsAt H p D lots ∧ 0 ≤ most ∧ most ≤ 60 ∧
  ∀ (H' : Hp) (a : Addr) (ns : List Int), Stay H H' → DL H' d l → RowN H' a ns → RowIn lots.length ns → ns.length ≤ most.toNat → Q (.ref a) H'
theorem ok_row (T : Top K mg) : Cal P w K mg base 2 "_law_row" spRow := by
  have G : Cal P w K mg base 1 "_law_draw" spDraw := ok_draw T
  refine cal0 T.d_l_row sc_l_row (fun vs H Q E h => ?_) (fun f cdv A outer s H vs Q E hr h => ?_)
  · obtain ⟨d, l, p, most, D, lots, rfl, _⟩ := h
    rfl
  · obtain ⟨d, l, p, most, D, lots, rfl, hD, hP, m0, m60, q⟩ := h
    have nd := sc_l_row.nd
    refine ⟨_, pss_one (ps_ret (pe_callTy (call_tupN K) (by rfl) T.b_tuple (by decide +kernel) (pa_cons
      (pe_lc (own := [("_law_turn", 3)]) (g := gName 3) (tt := tYes) rfl nd (pi_range1 (by rfl) T.b_range (pa_cons (pe_cal G hr (pa_cons (pv 0) (pa_cons (pe_op op_add (pv 2) pe_int) pa_nil))) pa_nil)) (blkOk_by (N := n_l_row) (sc := defScope t_l_row) (by decide +kernel))
        (fun _ _ _ _ _ => pg_name (i := 3) nd rfl (Or.inl rfl)) (fun _ _ _ _ _ => pts_nil)
        (fun _ _ _ _ _ => pe_cal G hr (pa_cons (pv 0) (pa_cons (pe_callB (call_ln K) (by rfl) T.b_len PySem.boot_len (pa_cons (pe_ix (ix_tK K) (pv 1) pe_int (fun _ _ => rfl)) pa_nil)) pa_nil)))) pa_nil))), ?_⟩
    refine ⟨_, rfl, _, rfl, _, _, rfl, rfl, d, l, most + 1, rfl, hD, by omega, by omega, fun H1 k s1 D1 k0 k1 => ?_⟩
    refine ⟨k, rfl, by omega, by omega, fun Dl nD => ?_⟩
    refine lc_range (fun i H2 => Stay H1 H2 ∧ DL H2 d l ∧ ∃ acc : List Int, H2 Dl = some (.lst (acc.map V.int)) ∧ acc.length = i ∧ RowIn lots.length acc)
      ⟨.of (same_new nD), D1.same (same_new nD), [], upd_same, rfl, fun _ h => nomatch h⟩ (fun i H2 hi h => ⟨rfl, ?_⟩) (fun H2 h => ?_)
    · obtain ⟨sj, Dj, acc, a1, a2, a3⟩ := h
      have hP2 := hP.stay (s1.trans sj)
      obtain ⟨wa, h1, as, h2, h3, h4⟩ := hP2.ex
      have l1 := hP.ok.l1
      have l10 := hP.ok.l10
      unfold tYes
      refine iteT ?_
      refine ⟨_, rfl, _, rfl, p, _, 1, _, rfl, rfl, SqT.of h1, at_of (j := 1) rfl rfl, wa, _, rfl, .inr (SqT.of h2), d, l, _, rfl, Dj, ?_, ?_, fun H3 v s3 D3 v0 v1 => ?_⟩
      · rw [List.length_map]
        omega
      · rw [List.length_map]
        omega
      · rw [List.length_map, h3] at v1
        have a1' := s3 _ _ a1 nd_ints
        refine ⟨_, a1', by rw [List.length_map, a2]; exact small5 (by omega), stay_mut (sj.trans s3) nD, D1.mut D3 nD, acc ++ [v], by rw [upd_same, List.map_append]; rfl, by rw [List.length_append, a2]; rfl, fun x hx => ?_⟩
        rcases List.mem_append.mp hx with q1 | q1
        · exact a3 x q1
        · rw [List.mem_singleton.mp q1]
          exact ⟨v0, v1⟩
    · obtain ⟨sj, Dj, acc, a1, a2, a3⟩ := h
      refine ⟨Dl, _, rfl, SqL.of a1, fun a o na hd => ?_⟩
      exact q _ a acc ((s1.trans sj).thenS (same_new na)) (Dj.same (same_new na)) (rowN_new hd) a3 (by omega)
def spMeets : Sp := fun vs H Q _ => ∃ (p : Addr) (D : Int) (lots : List (List Int)) (i j : Nat), vs = [.ref p, .int (i : Nat), .int (j : Nat)] ∧ PartsAt H p D lots ∧ i < lots.length ∧ j < lots.length ∧ ∀ H' : Hp, Same H H' → Q (.bl (MM lots (i : Nat) (j : Nat))) H'
theorem ok_meets (T : Top K mg) : Cal P w K mg base 1 "_law_meets" spMeets := by
  refine cal0 T.d_l_meets sc_l_meets (fun vs H Q E h => ?_) (fun f cdv A outer s H vs Q E hr h => ?_)
  · obtain ⟨p, D, lots, i, j, rfl, _⟩ := h
    rfl
  · obtain ⟨p, D, lots, i, j, rfl, hP, hi, hj, q⟩ := h
    have nd := sc_l_meets.nd
    refine ⟨_, pss_one (ps_ret (pe_callB (cr_anyK K) (by rfl) T.b_any (by decide +kernel) (pa_cons
      (pe_lc (own := [("_law_desk", 3)]) (g := gName 3) (tt := tYes) rfl nd (pi_tupK K (pe_ix (ix_tK K) (pe_ix (ix_tK K) (pv 0) pe_int (fun _ _ => rfl)) (pv 1) (fun _ _ => rfl))) (blkOk_by (N := n_l_meets) (sc := defScope t_l_meets) (by decide +kernel))
        (fun _ _ _ _ _ => pg_name (i := 3) nd rfl (Or.inl rfl)) (fun _ _ _ _ _ => pts_nil)
        (fun _ _ _ _ _ => pe_cmpR (op_inK K) (pv 3) (pe_ix (ix_tK K) (pe_ix (ix_tK K) (pv 0) pe_int (fun _ _ => rfl)) (pv 2) (fun _ _ => rfl)) (by rfl))) pa_nil))), ?_⟩
    obtain ⟨wa, h1, as, h2, h3, h4⟩ := hP.ex
    have hi2 : i < as.length := by omega
    have hj2 : j < as.length := by omega
    have eu := List.getElem?_eq_getElem hi
    have ev := List.getElem?_eq_getElem hj
    have hu := h4 i as[i] lots[i] (List.getElem?_eq_getElem hi2) eu
    have hv := h4 j as[j] lots[j] (List.getElem?_eq_getElem hj2) ev
    have a1 : (as.map V.ref)[i]? = some (.ref as[i]) := by rw [List.getElem?_map, List.getElem?_eq_getElem hi2]; rfl
    have a2 : (as.map V.ref)[j]? = some (.ref as[j]) := by rw [List.getElem?_map, List.getElem?_eq_getElem hj2]; rfl
    have mo := mm_over hP.ok eu ev
    have lo := (hP.ok.ok _ (List.mem_of_getElem? eu)).2.2.1
    generalize lots[i] = u at hu mo lo
    generalize lots[j] = v at hv mo
    refine ⟨_, rfl, p, _, 1, _, rfl, rfl, SqT.of h1, at_of (j := 1) rfl rfl, _, rfl, wa, _, _, _, rfl, rfl, SqT.of h2, at_of (j := i) rfl a1, as[i], rfl, ⟨_, SqT.of hu⟩, ?_⟩
    refine lcm_tup (fun k => .bl (v.any fun e => decide (e = u.getD k 0))) (SqT.of hu) (fun _ => rfl) (by rw [List.length_map]; omega) (fun k y H' R hy s2 kk => ?_) fun l H' s2 nl hD => ?_
    · obtain ⟨z, hz, rfl⟩ := int_at hy
      refine ⟨_, rfl, _, rfl, p, _, 1, _, rfl, rfl, SqT.of (s2 _ _ h1), at_of (j := 1) rfl rfl, _, rfl, wa, _, _, _, rfl, rfl, SqT.of (s2 _ _ h2), at_of (j := j) rfl a2, as[j], _, rfl, .inr (SqT.of (s2 _ _ hv)), rfl, flat_ints _, ?_⟩
      refine r_of ?_ (kk H' (Same.refl _))
      rw [if_neg Bool.false_ne_true, in_ints, List.getD_eq_getElem?_getD, hz]
      rfl
    · refine ⟨l, _, rfl, SqL.of (hD.trans (congrArg (fun z => some (HO.lst z)) (bls_range _ _))), ?_⟩
      have e1 : (List.range (u.map V.int).length).map (fun k => v.any fun e => decide (e = u.getD k 0)) = u.map fun d => v.any fun e => decide (e = d) := by
        rw [List.length_map]
        refine map_range _ fun k z hz => ?_
        rw [List.getD_eq_getElem?_getD, hz]
        rfl
      refine r_of ?_ (q H' s2)
      rw [e1, List.any_map, ← mo]
      rfl
def spFlag : Sp := fun vs H Q _ => ∃ b : Bool, vs = [.bl b, .bl b] ∧ Q (.bl true) H
theorem ok_flag (T : Top K mg) : Cal P w K mg base 1 "_law_flag" spFlag := by
  refine cal0 T.d_l_flag sc_l_flag (fun vs H Q E h => ?_) (fun f cdv A outer s H vs Q E hr h => ?_)
  · obtain ⟨b, rfl, _⟩ := h
    rfl
  · obtain ⟨b, rfl, q⟩ := h
    refine ⟨_, pss_one (ps_ret (pe_and (pe_callB call_isi (by rfl) T.b_isinstance (by decide +kernel) (pa_cons (pv 0) (pa_cons (pe_bltn (v := .ty "bool") (by rfl) T.b_bool (by decide +kernel) rfl) pa_nil))) (pe_one (pe_cmpR op_eq (pv 0) (pv 1) (nomark _))))), ?_⟩
    refine ⟨_, rfl, .bl b, .ty "bool", .type "bool", .type "bool", true, rfl, .ty _, .base (.bl b), kit_ty (by decide +kernel), true, rfl, iteT ?_⟩
    refine ⟨_, rfl, _, rfl, by cases b <;> rfl, ?_⟩
    exact r_of (bl_t rfl) q
def spWhole : Sp := fun vs H Q _ => (vs = [.non, .non] ∨ ∃ i : Int, vs = [.int i, .int i]) ∧ Q (.bl true) H
theorem ok_whole (T : Top K mg) : Cal P w K mg base 1 "_law_whole" spWhole := by
  refine cal0 T.d_l_whole sc_l_whole (fun vs H Q E h => ?_) (fun f cdv A outer s H vs Q E hr h => ?_)
  · obtain ⟨rfl | ⟨i, rfl⟩, _⟩ := h
    · rfl
    · rfl
  · obtain ⟨h, q⟩ := h
    refine ⟨_, pss_cons (ps_if (pt_cmpR op_isN (pv 1) pe_non (nomark _)) (pss_one (ps_ret (pe_cmpR op_isN (pv 0) pe_non (nomark _)))) pss_nil)
      (pss_one (ps_ret (pe_and (pe_callB call_isi (by rfl) T.b_isinstance (by decide +kernel) (pa_cons (pv 0) (pa_cons (pe_bltn (v := .ty "int") (by rfl) T.b_int (by decide +kernel) rfl) pa_nil)))
        (pe_and (pe_not (pe_callB call_isi (by rfl) T.b_isinstance (by decide +kernel) (pa_cons (pv 0) (pa_cons (pe_bltn (v := .ty "bool") (by rfl) T.b_bool (by decide +kernel) rfl) pa_nil)))) (pe_one (pe_cmpR op_eq (pv 0) (pv 1) (nomark _))))))), ?_⟩
    rcases h with rfl | ⟨i, rfl⟩
    · refine ⟨_, rfl, rfl, true, rfl, iteT ?_⟩
      exact ⟨_, rfl, rfl, q⟩
    · refine ⟨_, rfl, rfl, false, rfl, iteF ?_⟩
      refine ⟨_, rfl, .int i, .ty "int", .type "int", .type "int", true, rfl, .ty _, .base (.int i), kit_ty (by decide +kernel), true, rfl, iteT ?_⟩
      refine ⟨_, rfl, .int i, .ty "bool", .type "int", .type "bool", false, rfl, .ty _, .base (.int i), kit_ty (by decide +kernel), false, rfl, true, rfl, iteT ?_⟩
      refine ⟨_, rfl, _, rfl, rfl, ?_⟩
      exact r_of (bl_t rfl) q
end
end LW
/-! The law's own defs: what is the same, what is near. -/
namespace LW
open PySem PySem.Spec PyProof.Rows L2
theorem kit_ff {K : PySem.W.Frag} {t a b : String} (h1 : PySem.W.kitOne K (.type t) (.type a) = some false) (h2 : PySem.W.kitOne K (.type t) (.type b) = some false) : PySem.W.kitAny K (.type t) [.type a, .type b] = some false :=
  kitAny_cons h1 (fun _ => kitAny_cons h2 (fun _ => kitAny_nil) (fun z => nomatch z)) (fun z => nomatch z)
theorem kit_t {K : PySem.W.Frag} {t a b : String} (h1 : PySem.W.kitOne K (.type t) (.type a) = some true) : PySem.W.kitAny K (.type t) [.type a, .type b] = some true :=
  kitAny_cons h1 (fun z => nomatch z) (fun _ => rfl)
theorem bls_ne_refs {n : Nat} {f : Nat → Bool} {b : Addr} {r : List Addr} (h : 0 < n) : (List.range n).map (fun k => V.bl (f k)) ≠ V.ref b :: r.map V.ref := fun e => by
  cases n with
  | zero => exact absurd h (Nat.lt_irrefl 0)
  | succ n =>
    rw [List.range_succ_eq_map, List.map_cons] at e
    injection e with q1 q2
    cases q1
theorem tYes_of {σ : L2.St} {H : Hp} {Q : Bool → Hp → Prop} (h : Q true H) : tYes σ H Q := h
section
variable {P : Program} {w : World} {K : PySem.W.Frag} {mg : Str → Option Value} {base : Heap} {X : Cx}
def spSameF : Sp := fun vs H Q _ => (vs = [.non, .non] ∨ ∃ i : Int, vs = [.int i, .int i]) ∧ ∀ H' : Hp, Same H H' → Q (.bl true) H'
theorem ok_sameF (T : Top K mg) : Cal P w K mg base 2 "_law_same" spSameF := by
  have G : Cal P w K mg base 1 "_law_whole" spWhole := ok_whole T
  refine cal0 T.d_l_same sc_l_same (fun vs H Q E h => ?_) (fun f cdv A outer s H vs Q E hr h => ?_)
  · obtain ⟨rfl | ⟨i, rfl⟩, _⟩ := h
    · rfl
    · rfl
  · obtain ⟨h, q⟩ := h
    refine ⟨_, pss_cons (ps_if (pt_val (pe_callB call_isiT (by rfl) T.b_isinstance (by decide +kernel) (pa_cons (pv 1) (pa_cons (pe_tup (pa_cons (pe_bltn (v := .ty "tuple") (by rfl) T.b_tuple (by decide +kernel) rfl) (pa_cons (pe_bltn (v := .ty "list") (by rfl) T.b_list (by decide +kernel) rfl) pa_nil))) pa_nil)))) pss_never pss_nil)
      (pss_cons (ps_if (PW.pt (pw_or (pt_val (pe_callB call_isi (by rfl) T.b_isinstance (by decide +kernel) (pa_cons (pv 1) (pa_cons (pe_bltn (v := .ty "bool") (by rfl) T.b_bool (by decide +kernel) rfl) pa_nil))))
          (pw_or1 (pt_val (pe_callB call_isi (by rfl) T.b_isinstance (by decide +kernel) (pa_cons (pv 1) (pa_cons (pe_bltn (v := .ty "str") (by rfl) T.b_str (by decide +kernel) rfl) pa_nil))))))) pss_never pss_nil)
      (pss_one (ps_ret (pe_cal G hr (pa_cons (pv 0) (pa_cons (pv 1) pa_nil)))))), ?_⟩
    rcases h with rfl | ⟨i, rfl⟩
    · refine ⟨_, rfl, by show 2 ≤ sizeLine; decide, fun t nt => ⟨.non, t, _, .type "NoneType", _, false, rfl, upd_same, .cons (.ty _) (.cons (.ty _) .nil), .base .non, kit_ff (kit_ty (by decide +kernel)) (kit_ty (by decide +kernel)), false, rfl, iteF ?_⟩⟩
      refine ⟨_, rfl, .non, .ty "bool", .type "NoneType", .type "bool", false, rfl, .ty _, .base .non, kit_ty (by decide +kernel), false, rfl, iteF ?_⟩
      refine ⟨_, rfl, .non, .ty "str", .type "NoneType", .type "str", false, rfl, .ty _, .base .non, kit_ty (by decide +kernel), false, rfl, iteF ?_⟩
      exact ⟨_, rfl, _, rfl, .inl rfl, q _ (same_new nt)⟩
    · refine ⟨_, rfl, by show 2 ≤ sizeLine; decide, fun t nt => ⟨.int i, t, _, .type "int", _, false, rfl, upd_same, .cons (.ty _) (.cons (.ty _) .nil), .base (.int i), kit_ff (kit_ty (by decide +kernel)) (kit_ty (by decide +kernel)), false, rfl, iteF ?_⟩⟩
      refine ⟨_, rfl, .int i, .ty "bool", .type "int", .type "bool", false, rfl, .ty _, .base (.int i), kit_ty (by decide +kernel), false, rfl, iteF ?_⟩
      refine ⟨_, rfl, .int i, .ty "str", .type "int", .type "str", false, rfl, .ty _, .base (.int i), kit_ty (by decide +kernel), false, rfl, iteF ?_⟩
      exact ⟨_, rfl, _, rfl, .inr ⟨i, rfl⟩, q _ (same_new nt)⟩
def spSame (K : PySem.W.Frag) : Sp := fun vs H Q _ => ∃ (x y : V) (o : Option (List Int)), vs = [x, y] ∧ OptRow H x o ∧ OptRow H y o ∧ (∀ ns, o = some ns → ns.length ≤ 1000) ∧ ∀ H' : Hp, Same H H' → Q (.bl true) H'
theorem ok_same (T : Top K mg) : Cal P w K mg base 3 "_law_same" (spSame K) := by
  have G : Cal P w K mg base 1 "_law_whole" spWhole := ok_whole T
  have G2 : Cal P w K mg base 2 "_law_same" spSameF := ok_sameF T
  refine cal0 T.d_l_same sc_l_same (fun vs H Q E h => ?_) (fun f cdv A outer s H vs Q E hr h => ?_)
  · obtain ⟨x, y, o, rfl, _⟩ := h
    rfl
  · obtain ⟨x, y, o, rfl, hx, hy, hl, q⟩ := h
    have nd := sc_l_same.nd
    refine ⟨_, pss_cons (ps_if (pt_val (pe_callB call_isiT (by rfl) T.b_isinstance (by decide +kernel) (pa_cons (pv 1) (pa_cons (pe_tup (pa_cons (pe_bltn (v := .ty "tuple") (by rfl) T.b_tuple (by decide +kernel) rfl) (pa_cons (pe_bltn (v := .ty "list") (by rfl) T.b_list (by decide +kernel) rfl) pa_nil))) pa_nil))))
        (pss_cons (ps_if (PW.pt (pw_or (pt_cmpR op_ne (pe_callB call_isi (by rfl) T.b_isinstance (by decide +kernel) (pa_cons (pv 0) (pa_cons (pe_bltn (v := .ty "tuple") (by rfl) T.b_tuple (by decide +kernel) rfl) pa_nil)))
              (pe_callB call_isi (by rfl) T.b_isinstance (by decide +kernel) (pa_cons (pv 1) (pa_cons (pe_bltn (v := .ty "tuple") (by rfl) T.b_tuple (by decide +kernel) rfl) pa_nil))) (nomark _))
            (pw_or1 (pt_cmpR op_ne (pe_callB call_isi (by rfl) T.b_isinstance (by decide +kernel) (pa_cons (pv 0) (pa_cons (pe_bltn (v := .ty "list") (by rfl) T.b_list (by decide +kernel) rfl) pa_nil)))
              (pe_callB call_isi (by rfl) T.b_isinstance (by decide +kernel) (pa_cons (pv 1) (pa_cons (pe_bltn (v := .ty "list") (by rfl) T.b_list (by decide +kernel) rfl) pa_nil))) (nomark _))))) pss_never pss_nil)
        (pss_cons (ps_if (pt_cmpR op_ne (pe_callB (call_ln K) (by rfl) T.b_len PySem.boot_len (pa_cons (pv 0) pa_nil)) (pe_callB (call_ln K) (by rfl) T.b_len PySem.boot_len (pa_cons (pv 1) pa_nil)) (nomark _)) pss_never pss_nil)
        (pss_one (ps_ret (pe_callB (cr_allK K) (by rfl) T.b_all (by decide +kernel) (pa_cons
          (pe_lc (own := [("_law_at", 2)]) (g := gName 2) (tt := tYes) rfl nd (pi_range1 (by rfl) T.b_range (pa_cons (pe_callB (call_ln K) (by rfl) T.b_len PySem.boot_len (pa_cons (pv 1) pa_nil)) pa_nil)) (blkOk_by (N := n_l_same) (sc := defScope t_l_same) (by decide +kernel))
            (fun _ _ _ _ _ => pg_name (i := 2) nd rfl (Or.inl rfl)) (fun _ _ _ _ _ => pts_nil)
            (fun _ _ _ _ _ => pe_cal G2 hr (pa_cons (pe_ix (ix_tK K) (pv 0) (pv 2) (fun _ _ => rfl)) (pa_cons (pe_ix (ix_tK K) (pv 1) (pv 2) (fun _ _ => rfl)) pa_nil)))) pa_nil)))))) pss_nil)
      (pss_cons (ps_if (PW.pt (pw_or (pt_val (pe_callB call_isi (by rfl) T.b_isinstance (by decide +kernel) (pa_cons (pv 1) (pa_cons (pe_bltn (v := .ty "bool") (by rfl) T.b_bool (by decide +kernel) rfl) pa_nil))))
          (pw_or1 (pt_val (pe_callB call_isi (by rfl) T.b_isinstance (by decide +kernel) (pa_cons (pv 1) (pa_cons (pe_bltn (v := .ty "str") (by rfl) T.b_str (by decide +kernel) rfl) pa_nil))))))) pss_never pss_nil)
      (pss_one (ps_ret (pe_cal G hr (pa_cons (pv 0) (pa_cons (pv 1) pa_nil)))))), ?_⟩
    cases o with
    | none =>
      obtain rfl : x = .non := hx
      obtain rfl : y = .non := hy
      refine ⟨_, rfl, by show 2 ≤ sizeLine; decide, fun t nt => ⟨.non, t, _, .type "NoneType", _, false, rfl, upd_same, .cons (.ty _) (.cons (.ty _) .nil), .base .non, kit_ff (kit_ty (by decide +kernel)) (kit_ty (by decide +kernel)), false, rfl, iteF ?_⟩⟩
      refine ⟨_, rfl, .non, .ty "bool", .type "NoneType", .type "bool", false, rfl, .ty _, .base .non, kit_ty (by decide +kernel), false, rfl, iteF ?_⟩
      refine ⟨_, rfl, .non, .ty "str", .type "NoneType", .type "str", false, rfl, .ty _, .base .non, kit_ty (by decide +kernel), false, rfl, iteF ?_⟩
      exact ⟨_, rfl, _, rfl, .inl rfl, q _ (same_new nt)⟩
    | some ns =>
      obtain ⟨a, rfl, ha⟩ := hx
      obtain ⟨b, rfl, hb⟩ := hy
      have hl := hl ns rfl
      refine ⟨_, rfl, by show 2 ≤ sizeLine; decide, fun t nt => ?_⟩
      have st : Same H (upd H t (.tup [.ty "tuple", .ty "list"])) := same_new nt
      refine ⟨.ref b, t, _, .type "tuple", _, true, rfl, upd_same, .cons (.ty _) (.cons (.ty _) .nil), (hb.same st).ty, kit_t (kit_ty (by decide +kernel)), true, rfl, iteT ?_⟩
      have ha' := ha.same st
      have hb' := hb.same st
      refine ⟨_, rfl, .ref a, .ty "tuple", .type "tuple", .type "tuple", true, rfl, .ty _, ha'.ty, kit_ty (by decide +kernel), _, rfl, .ref b, .ty "tuple", .type "tuple", .type "tuple", true, rfl, .ty _, hb'.ty, kit_ty (by decide +kernel), rfl, false, rfl, iteF ?_⟩
      refine ⟨_, rfl, .ref a, .ty "list", .type "tuple", .type "list", false, rfl, .ty _, ha'.ty, kit_ty (by decide +kernel), _, rfl, .ref b, .ty "list", .type "tuple", .type "list", false, rfl, .ty _, hb'.ty, kit_ty (by decide +kernel), rfl, false, rfl, iteF ?_⟩
      refine ⟨_, rfl, a, _, rfl, .inr ha'.sq, _, rfl, b, _, rfl, .inr hb'.sq, rfl, false, ?_, iteF ?_⟩
      · exact congrArg V.bl (by rw [decide_eq_true rfl]; rfl)
      refine ⟨_, rfl, b, _, rfl, .inr hb'.sq, _, rfl, ?_, ?_, lcm_range (fun i => .bl true) (fun _ => rfl) ?_ (fun i H2 R hi s2 k => ?_) fun l2 H2 s2 nl2 hD2 => ?_⟩
      · rw [List.length_map]
        omega
      · rw [List.length_map]
        omega
      · rw [List.length_map]
        omega
      · rw [List.length_map] at hi
        have hi2 : i < ns.length := by omega
        have e1 : (ns.map V.int)[i]? = some (.int ns[i]) := by rw [List.getElem?_map, List.getElem?_eq_getElem hi2]; rfl
        refine ⟨_, rfl, _, rfl, a, _, _, .int ns[i], rfl, rfl, (ha'.same s2).sq, at_of (j := i) (by omega) e1, _, rfl, _, rfl, b, _, _, .int ns[i], rfl, rfl, (hb'.same s2).sq, at_of (j := i) (by omega) e1, .inr ⟨_, rfl⟩, fun H3 s3 => k H3 s3⟩
      · refine ⟨l2, _, rfl, SqL.of (hD2.trans (congrArg (fun z => some (HO.lst z)) (bls_range _ fun _ => true))), ?_⟩
        rw [all_range fun _ _ => rfl]
        exact q _ (st.trans s2)
def spNear : Sp := fun vs H Q _ => ∃ (p : Addr) (D : Int) (lots : List (List Int)), vs = [.ref p] ∧ PartsAt H p D lots ∧ ∀ (H' : Hp) (l : Addr), Same H H' → Mat H' l lots.length (MM lots) → Q (.ref l) H'
theorem ok_near (T : Top K mg) : Cal P w K mg base 2 "_law_near" spNear := by
  have G : Cal P w K mg base 1 "_law_meets" spMeets := ok_meets T
  refine cal0 T.d_l_near sc_l_near (fun vs H Q E h => ?_) (fun f cdv A outer s H vs Q E hr h => ?_)
  · obtain ⟨p, D, lots, rfl, _⟩ := h
    rfl
  · obtain ⟨p, D, lots, rfl, hP, q⟩ := h
    have nd := sc_l_near.nd
    refine ⟨_, pss_cons (ps_set (i := 1) nd rfl (.inr rfl) (pe_listRg rfl (by rfl) T.b_list (prg_1 (by rfl) T.b_range (pe_callB (call_ln K) (by rfl) T.b_len PySem.boot_len (pa_cons (pe_ix (ix_tK K) (pv 0) pe_int (fun _ _ => rfl)) pa_nil)))))
      (pss_one (ps_ret (pe_lc (own := [("_law_one", 2)]) (g := gName 2) (tt := tYes) rfl nd (pi_listK K (pv 1)) (blkOk_by (N := n_l_near) (sc := defScope t_l_near) (by decide +kernel)) (fun _ _ _ _ _ => pg_name (i := 2) nd rfl (Or.inr rfl)) (fun _ _ _ _ _ => pts_nil)
        (fun _ _ _ _ _ => pe_lc (own := [("_law_other", 3)]) (g := gName 3) (tt := tYes) rfl nd (pi_listK K (pv 1)) (blkOk_by (by show blkC n_l_near (relS _ (defScope t_l_near)) _ _ = true; decide +kernel)) (fun _ _ _ _ _ => pg_name (i := 3) nd rfl (Or.inl rfl)) (fun _ _ _ _ _ => pts_nil)
          (fun _ _ _ _ _ => pe_cal G hr (pa_cons (pv 0) (pa_cons (pv 2) (pa_cons (pv 3) pa_nil)))))))), ?_⟩
    obtain ⟨wa, h1, as, h2, h3, h4⟩ := hP.ex
    have l1 := hP.ok.l1
    have l10 := hP.ok.l10
    refine ⟨_, rfl, p, _, 1, _, rfl, rfl, SqT.of h1, at_of (j := 1) rfl rfl, wa, _, rfl, .inr (SqT.of h2), _, rfl, ?_, fun nl nnl => ?_⟩
    · rw [List.length_map]
      exact RgOk.of_le (by decide) (by omega) (by decide) (by omega)
    have er : rgV 0 (((as.map V.ref).length : Nat) : Int) = (List.range lots.length).map fun i => V.int ((0 : Int) + (i : Nat)) := by
      unfold rgV
      rw [List.length_map, h3]
      rw [show (((lots.length : Nat) : Int) - 0).toNat = lots.length by omega]
    rw [er]
    have s1 : Same H (upd H nl (.lst ((List.range lots.length).map fun i => V.int ((0 : Int) + (i : Nat))))) := same_new nnl
    have hn : (upd H nl (.lst ((List.range lots.length).map fun i => V.int ((0 : Int) + (i : Nat))))) nl = some (.lst ((List.range lots.length).map fun i => V.int ((0 : Int) + (i : Nat)))) := upd_same
    generalize upd H nl (.lst ((List.range lots.length).map fun i => V.int ((0 : Int) + (i : Nat)))) = H1 at s1 hn
    have at_n : ∀ {i : Nat} {x : V}, ((List.range lots.length).map fun i => V.int ((0 : Int) + (i : Nat)))[i]? = some x → i < lots.length ∧ x = .int (i : Nat) := fun {i x} h => by
      have il := (List.getElem?_eq_some_iff.mp h).1
      rw [List.length_map, List.length_range] at il
      rw [List.getElem?_map, List.getElem?_range il] at h
      refine ⟨il, ?_⟩
      rw [← Option.some.inj h]
      exact congrArg V.int (Int.zero_add _)
    refine ⟨_, rfl, nl, rfl, ⟨_, SqL.of hn⟩, fun Dl nD => ?_⟩
    refine lc_list (K := K) (a := nl) (xs := (List.range lots.length).map fun i => V.int ((0 : Int) + (i : Nat))) (fun i H2 => Same H1 H2 ∧ ∃ ms : List Addr, H2 Dl = some (.lst (ms.map V.ref)) ∧ ms.length = i ∧
          ∀ (j : Nat) (a : Addr), ms[j]? = some a → H2 a = some (.lst ((List.range lots.length).map fun (k : Nat) => V.bl (MM lots (j : Nat) (k : Nat)))))
      ⟨same_new nD, [], upd_same, rfl, fun j a e => nomatch e⟩ (fun i H2 _ h => SqL.of (h.1 _ _ hn)) (fun i x H2 hx h => ⟨rfl, ?_⟩) (fun H2 h => ?_)
    · obtain ⟨s2, ms, hm, hml, hrows⟩ := h
      obtain ⟨il, rfl⟩ := at_n hx
      refine tYes_of (iteT ?_)
      refine ⟨_, rfl, nl, rfl, ⟨_, SqL.of (s2 _ _ hn)⟩, ?_⟩
      refine lcm_list (fun k => .bl (MM lots (i : Nat) (k : Nat))) (SqL.of (s2 _ _ hn)) ?_ ?_ (fun k x H3 R hx2 s3 kk => ?_) fun De H3 s3 nE hE => ?_
      · exact fun _ => rfl
      · rw [List.length_map, List.length_range]
        omega
      · obtain ⟨kl, rfl⟩ := at_n hx2
        exact ⟨_, rfl, _, rfl, _, rfl, p, D, lots, i, k, rfl, ((hP.same s1).same s2).same s3, il, kl, fun H4 s4 => kk H4 s4⟩
      · rw [List.length_map, List.length_range] at hE
        have nDE : Dl ≠ De := ne_of_none hm nE
        refine ⟨ms.map V.ref, s3 _ _ hm, small5 (by rw [List.length_map]; omega), same_mut (s2.trans s3) nD, ms ++ [De], ?_, ?_, fun j a e => ?_⟩
        · rw [upd_same, List.map_append]
          rfl
        · rw [List.length_append, hml]
          rfl
        · rcases Nat.lt_trichotomy j i with lt | eq | gt
          · rw [List.getElem?_append_left (by omega)] at e
            have h0 := s3 _ _ (hrows j a e)
            have ne : a ≠ Dl := fun z => by
              rw [z, s3 _ _ hm] at h0
              have q1 := Option.some.inj h0
              injection q1 with q2
              cases ms with
              | nil => cases e
              | cons y t => exact bls_ne_refs (by omega) q2.symm
            rw [upd_ne ne]
            exact h0
          · subst eq
            rw [List.getElem?_append_right (by omega), hml, Nat.sub_self] at e
            obtain rfl : De = a := Option.some.inj e
            rw [upd_ne nDE.symm]
            exact hE
          · rw [List.getElem?_eq_none (by rw [List.length_append, hml]; show i + 1 ≤ j; omega)] at e
            cases e
    · obtain ⟨s2, ms, hm, hml, hrows⟩ := h
      rw [List.length_map, List.length_range] at hml
      exact q H2 Dl (s1.trans s2) ⟨ms, hm, hml, hrows⟩
end
end LW
/-! The law's own defs: where a work is free, the least row, what is left. -/
namespace LW
open PySem PySem.Spec PyProof.Rows L2
/-- where a work is free, as a value -/
def freeV (m : Int → Int → Bool) (ns : List Int) (x : Int) : V := match freeAt m ns x with
  | none => .non
  | some k => .int (k : Nat)
section
variable {P : Program} {w : World} {K : PySem.W.Frag} {mg : Str → Option Value} {base : Heap} {X : Cx}
theorem call_lsK (K : PySem.W.Frag) (e : X.K = K := by rfl) : CallR X (.type "list") (fun xs H Q => ∃ p ys, xs = [.ref p] ∧ (SqL K H p ys ∨ SqT K H p ys) ∧ ∀ l, H l = none → Q (.ref l) (upd H l (.lst ys))) := by
  subst e
  exact call_list_of
theorem cr_setK (K : PySem.W.Frag) (w : World) (hc : X.calm = true := by rfl) (e : X.K = K := by rfl) (e2 : X.w = w := by rfl) : CallR X (.type "set") (rSetOfL K w) := by
  subst e e2
  exact cr_setOfL hc
theorem cr_sortSetK (w : World) (hc : X.calm = true := by rfl) (e2 : X.w = w := by rfl) : CallR X (.builtin "sorted") (rSortedSet w) := by
  subst e2
  exact cr_sortedSet hc
theorem seq_nat {k n : Nat} (h : k < n) : seqIndex? (k : Int) n = some k := by
  exact (seqIndex_of (by omega) (by omega)).trans (congrArg some (Int.toNat_natCast k))
theorem cut_erase {cur : List Int} {k : Nat} : (cur.map V.int).eraseIdx k = (cur.take k ++ cur.drop (k + 1)).map V.int := by
  rw [List.eraseIdx_eq_take_drop_succ, List.map_append, List.map_take, List.map_drop]
def spFreeAt : Sp := fun vs H Q _ => ∃ (nl l : Addr) (n : Nat) (m : Int → Int → Bool) (ns : List Int) (x : Int), vs = [.ref nl, .ref l, .int x] ∧ Mat H nl n m ∧ H l = some (.lst (ns.map V.int)) ∧ RowIn n ns ∧ 0 ≤ x ∧ x < (n : Int) ∧ ns.length ≤ 1000 ∧
  Q (freeV m ns x) H
theorem ok_free_at (T : Top K mg) : Cal P w K mg base 1 "_law_free_at" spFreeAt := by
  refine cal0 T.d_l_free_at sc_l_free_at (fun vs H Q E h => ?_) (fun f cdv A outer s H vs Q E hr h => ?_)
  · obtain ⟨nl, l, n, m, ns, x, rfl, _⟩ := h
    rfl
  · obtain ⟨nl, l, n, m, ns, x, rfl, M, hl, hi, x0, x1, hz, q⟩ := h
    have nd := sc_l_free_at.nd
    refine ⟨_, pss_cons (ps_for PassesOwn.never rfl (pi_range1 (by rfl) T.b_range (pa_cons (pe_callB (call_ln K) (by rfl) T.b_len PySem.boot_len (pa_cons (pv 1) pa_nil)) pa_nil)) (pg_name (i := 3) nd rfl (.inl rfl))
        (pss_cons (ps_if (pt_cmpR op_eq (pe_ix (ix_lK K) (pv 1) (pv 3) (fun _ _ => rfl)) (pv 2) (nomark _)) (pss_one (ps_ret (pv 3))) pss_nil)
        (pss_one (ps_if (pt_val (pe_ix (ix_lK K) (pe_ix (ix_lK K) (pv 0) (pe_ix (ix_lK K) (pv 1) (pv 3) (fun _ _ => rfl)) (fun _ _ => rfl)) (pv 2) (fun _ _ => rfl))) (pss_one (ps_ret pe_non)) pss_nil))))
      (pss_one (ps_ret pe_non)), ?_⟩
    refine ⟨_, rfl, l, _, rfl, .inl (SqL.of hl), _, rfl, ?_, ?_, for_range (lo := 0) (n := (((ns.map V.int).length : Nat) : Int).toNat) (fun i σ H' => ∃ y3, σ = [some (.ref nl), some (.ref l), some (.int x), y3] ∧ H' = H ∧ freeAt m ns x = (freeAt m (ns.drop i) x).map fun k => k + i) ⟨none, rfl, rfl, ?_⟩ ?_ ?_⟩
    · rw [List.length_map]
      omega
    · rw [List.length_map]
      omega
    · rw [List.drop_zero]
      exact Option.map_id'.symm
    · rintro i σ H' hin ⟨y3, rfl, rfl, hf⟩
      rw [List.length_map] at hin
      have il : i < ns.length := by omega
      have e0 := List.getElem?_eq_getElem il
      have e1 : (ns.map V.int)[i]? = some (.int ns[i]) := by rw [List.getElem?_map, e0]; rfl
      obtain ⟨z0, z1⟩ := hi _ (List.getElem_mem il)
      rw [drop_cons e0] at hf
      generalize ns[i] = z at e1 z0 z1 hf
      refine ⟨_, rfl, _, rfl, l, _, _, .int z, rfl, rfl, SqL.of hl, at_of (j := i) (by omega) e1, _, rfl, rfl, _, rfl, ite2 (fun he => ?_) (fun he => ?_)⟩
      · have ez : z = x := V.int.inj (of_decide_eq_true he)
        refine ⟨_, rfl, ?_⟩
        refine r_of ?_ q
        unfold freeV
        rw [hf, freeAt, if_pos ez]
        show V.int (((0 + i : Nat) : Nat) : Int) = V.int ((0 : Int) + (i : Nat))
        exact congrArg V.int (by omega)
      · have ez : ¬ z = x := fun e => he (by rw [e]; exact decide_eq_true rfl)
        obtain ⟨as, a, h1, h2, h3⟩ := M.row z0 z1
        refine ⟨_, rfl, _, rfl, _, rfl, l, _, _, .int z, rfl, rfl, SqL.of hl, at_of (j := i) (by omega) e1, nl, _, z, .ref a, rfl, rfl, SqL.of h1, h2, _, rfl, a, _, x, _, rfl, rfl, SqL.of h3, flag_at x0 x1, _, rfl, ite2 (fun hm => ?_) (fun hm => ?_)⟩
        · refine r_of ?_ q
          unfold freeV
          rw [hf, freeAt, if_neg ez, if_pos hm]
          rfl
        · refine ⟨_, rfl, rfl, ?_⟩
          rw [hf, freeAt, if_neg ez, if_neg hm, Option.map_map]
          congr 1
          funext k
          show k + 1 + i = k + (i + 1)
          omega
    · rintro σ H' ⟨y3, rfl, rfl, hf⟩
      rw [List.length_map, Int.toNat_natCast, List.drop_length] at hf
      refine r_of ?_ q
      unfold freeV
      rw [hf]
      rfl
/-- the first of an ascending list of the row's works that is free is the least of those that can come first -/
theorem min_first {m : Int → Int → Bool} {cur ws : List Int} {j : Nat} {w : Int} (asc : ws.Pairwise (· < ·)) (mem : ∀ z, z ∈ ws ↔ z ∈ cur) (hw : ws[j]? = some w) (hf : (freeAt m cur w).isSome = true) (before : ∀ i z, i < j → ws[i]? = some z → freeAt m cur z = none) :
    minOf (firsts m cur) = some w := by
  refine minOf_eq (mem_firsts2.mpr hf) fun y hy => ?_
  have hy2 := mem_firsts2.mp hy
  obtain ⟨i, hi⟩ := List.mem_iff_getElem?.mp ((mem y).mpr (free_mem hy2))
  rcases Nat.lt_trichotomy i j with lt | eq | gt
  · rw [before i y lt hi] at hy2
    cases hy2
  · subst eq
    rw [hw] at hi
    cases hi
    exact Int.le_refl _
  · obtain ⟨l1, e1⟩ := List.getElem?_eq_some_iff.mp hw
    obtain ⟨l2, e2⟩ := List.getElem?_eq_some_iff.mp hi
    have := List.pairwise_iff_getElem.mp asc j i l1 l2 gt
    rw [e1, e2] at this
    omega
/-- where the loop stands -/
def LeastI (H : Hp) (nl a le fo : Addr) (n : Nat) (m : Int → Int → Bool) (ns : List Int) (i : Nat) (σ : L2.St) (H' : Hp) : Prop :=
  ∃ (cur acc : List Int) (y4 y5 y6 : Option V), σ = [some (.ref nl), some (.ref a), some (.ref le), some (.ref fo), y4, y5, y6] ∧ Same H H' ∧ H' le = some (.lst (cur.map V.int)) ∧ H' fo = some (.lst (acc.map V.int)) ∧ RowIn n cur ∧
    acc.length = i ∧ i + cur.length = ns.length ∧ acc ++ leastN m cur.length cur = least m ns
def spLeast (K : PySem.W.Frag) : Sp := fun vs H Q _ => ∃ (nl a : Addr) (n : Nat) (m : Int → Int → Bool) (ns : List Int), vs = [.ref nl, .ref a] ∧ Mat H nl n m ∧ Row H a ns ∧ RowIn n ns ∧ ns.length ≤ 62 ∧
  ∀ (H' : Hp) (b : Addr), Same H H' → Row H' b (least m ns) → Q (.ref b) H'
theorem ok_least (T : Top K mg) : Cal P w K mg base 2 "_law_least" (spLeast K) := by
  have G : Cal P w K mg base 1 "_law_free_at" spFreeAt := ok_free_at T
  refine cal0 T.d_l_least sc_l_least (fun vs H Q E h => ?_) (fun f cdv A outer s H vs Q E hr h => ?_)
  · obtain ⟨nl, a, n, m, ns, rfl, _⟩ := h
    rfl
  · obtain ⟨nl, a, n, m, ns, rfl, M, hR, hi, hl, q⟩ := h
    have nd := sc_l_least.nd
    refine ⟨_, pss_cons (ps_set (i := 2) nd rfl (.inl rfl) (pe_callTy (call_lsK K) (by rfl) T.b_list (by decide +kernel) (pa_cons (pv 1) pa_nil)))
      (pss_cons (ps_set (i := 3) nd rfl (.inl rfl) (pe_lst pa_nil))
      (pss_cons (ps_for PassesOwn.never rfl (pi_range1 (by rfl) T.b_range (pa_cons (pe_callB (call_ln K) (by rfl) T.b_len PySem.boot_len (pa_cons (pv 1) pa_nil)) pa_nil)) (pg_name (i := 4) nd rfl (.inl rfl))
        (pss_one (ps_for PassesOwn.never rfl (pi_listK K (pe_callB (cr_sortSetK w) (by rfl) T.b_sorted (by decide +kernel) (pa_cons (pe_callTy (cr_setK K w) (by rfl) T.b_set (by decide +kernel) (pa_cons (pv 2) pa_nil)) pa_nil))) (pg_name (i := 5) nd rfl (.inl rfl))
          (pss_cons (ps_set (i := 6) nd rfl (.inl rfl) (pe_cal G hr (pa_cons (pv 0) (pa_cons (pv 2) (pa_cons (pv 5) pa_nil)))))
          (pss_one (ps_if (pt_cmpR op_notN (pv 6) pe_non (nomark _))
            (pss_cons (ps_expr (pe_bm PySem.F.plainAttrs_list PySem.F.slot_list_append PySem.F.type_list_append mt_append (pv 3) (pa_cons
              (pe_bm PySem.F.plainAttrs_list PySem.F.slot_list_pop PySem.F.type_list_pop mt_popAt (pv 2) (pa_cons (pv 6) pa_nil)) pa_nil))) (pss_one ps_break)) pss_nil))))))
      (pss_one (ps_ret (pe_callTy (call_tupK K) (by rfl) T.b_tuple (by decide +kernel) (pa_cons (pv 3) pa_nil)))))), ?_⟩
    refine ⟨_, rfl, a, _, rfl, .inr hR.sq, fun le nle => ?_⟩
    refine ⟨Nat.zero_le _, fun fo nfo => ?_⟩
    have nle2 : le ≠ fo := fun z => by
      rw [← z, upd_same] at nfo
      cases nfo
    have nfo0 : H fo = none := by
      rw [upd_ne nle2.symm] at nfo
      exact nfo
    have s1 : Same H (upd (upd H le (.lst (ns.map V.int))) fo (.lst [])) := same_mut (same_new nle) nfo0
    refine ⟨_, rfl, a, _, rfl, .inr (hR.same s1).sq, _, rfl, ?_, ?_, for_range (lo := 0) (n := (((ns.map V.int).length : Nat) : Int).toNat) (LeastI H nl a le fo n m ns) ⟨ns, [], none, none, none, rfl, s1, by rw [upd_ne nle2, upd_same], upd_same, hi, rfl, Nat.zero_add _, rfl⟩ ?_ ?_⟩
    · rw [List.length_map]
      omega
    · rw [List.length_map]
      omega
    · rintro i σ H' hin ⟨cur, acc, y4, y5, y6, rfl, s, hle, hfo, hci, ha, hcl, hq⟩
      rw [List.length_map] at hin
      have cpos : 0 < cur.length := by omega
      have nle' : H le = none := nle
      refine ⟨_, rfl, le, cur, rfl, SqL.of hle, by omega, fun sp c hc nsp => ?_⟩
      refine ⟨sp, _, c, rfl, upd_same, by omega, fun ws so asc mem _ nso => ?_⟩
      have mem2 : ∀ z, z ∈ ws ↔ z ∈ cur := fun z => by rw [mem, decide_eq_true_eq]
      have s2 : Same H' (upd (upd H' sp (SetO w sp (fun j => decide (j ∈ cur)) c)) so (.lst (ws.map V.int))) := (same_new nsp).trans (same_new nso)
      have hso : (upd (upd H' sp (SetO w sp (fun j => decide (j ∈ cur)) c)) so (.lst (ws.map V.int))) so = some (.lst (ws.map V.int)) := upd_same
      generalize upd (upd H' sp (SetO w sp (fun j => decide (j ∈ cur)) c)) so (.lst (ws.map V.int)) = H2 at s2 hso
      refine ⟨so, rfl, ⟨_, SqL.of hso⟩, for_list (K := K) (a := so) (xs := ws.map V.int) (fun j σ H3 => ∃ y5 y6, σ = [some (.ref nl), some (.ref a), some (.ref le), some (.ref fo), some (.int ((0 : Int) + (i : Nat))), y5, y6] ∧ H3 = H2 ∧ ∀ i z, i < j → ws[i]? = some z → freeAt m cur z = none)
        ⟨_, _, rfl, rfl, fun _ _ h => absurd h (Nat.not_lt_zero _)⟩ (fun j σ H3 _ h => ?_) ?_ ?_⟩
      · obtain ⟨_, _, _, rfl, _⟩ := h
        exact SqL.of hso
      · rintro j x σ H3 hx ⟨z5, z6, rfl, rfl, hb⟩
        obtain ⟨z, hz, rfl⟩ := int_at hx
        have zm : z ∈ cur := (mem2 z).mp (List.mem_of_getElem? hz)
        obtain ⟨z0, z1⟩ := hci z zm
        have hle2 := s2 _ _ hle
        have hfo2 := s2 _ _ hfo
        refine ⟨_, rfl, _, rfl, _, rfl, nl, le, n, m, cur, z, rfl, (M.same s).same s2, hle2, hci, z0, z1, by omega, ?_⟩
        cases ef : freeAt m cur z with
        | none =>
          have ev : freeV m cur z = .non := by
            unfold freeV
            rw [ef]
          rw [ev]
          refine ⟨_, rfl, rfl, false, rfl, iteF ⟨_, _, rfl, rfl, fun i' y h1 h2 => ?_⟩⟩
          rcases Nat.lt_or_ge i' j with lt | ge
          · exact hb i' y lt h2
          · have : i' = j := by omega
            subst this
            rw [hz] at h2
            cases h2
            exact ef
        | some k =>
          have ev : freeV m cur z = .int (k : Nat) := by
            unfold freeV
            rw [ef]
          rw [ev]
          have hmin := min_first asc mem2 hz (by rw [ef]; rfl) hb
          have kl := (free_lt ef).1
          have ek := (free_lt ef).2
          have ek2 : (cur.map V.int)[k]? = some (.int z) := by rw [List.getElem?_map, ek]; rfl
          have hstep : leastN m cur.length cur = z :: leastN m (cur.length - 1) (cur.take k ++ cur.drop (k + 1)) := by
            have := least_step (n := cur.length - 1) hmin ef
            rw [show cur.length - 1 + 1 = cur.length by omega] at this
            exact this
          have hcut := take_drop_len kl
          refine ⟨_, rfl, rfl, true, rfl, iteT ?_⟩
          refine ⟨_, rfl, .inl ⟨rfl, _, SqL.of hfo2⟩, _, rfl, .inl ⟨rfl, _, SqL.of hle2⟩, _, rfl, le, _, (k : Int), k, .int z, rfl, rfl, hle2, by omega, by omega, ?_, ek2, ?_⟩
          · rw [List.length_map]
            exact seq_nat kl
          rw [cut_erase]
          have nf : fo ≠ le := nle2.symm
          have sE := s.trans s2
          refine ⟨fo, _, _, rfl, rfl, by rw [upd_ne nf]; exact hfo2, by rw [List.length_map]; exact small5 (by omega), ?_⟩
          refine ⟨_, acc ++ [z], _, _, _, rfl, same_mut (same_mut sE nle') nfo0, by rw [upd_ne nf.symm, upd_same], by rw [upd_same, List.map_append]; rfl, hci.cut k, by rw [List.length_append, ha]; rfl, by omega, ?_⟩
          rw [← hq, hstep, List.append_assoc]
          rw [show (cur.take k ++ cur.drop (k + 1)).length = cur.length - 1 by omega]
          rfl
      · rintro σ H3 ⟨z5, z6, rfl, rfl, hb⟩
        exfalso
        obtain ⟨x, r, e0⟩ : ∃ x r, cur = x :: r := by
          cases cur with
          | nil => exact absurd cpos (Nat.lt_irrefl 0)
          | cons x r => exact ⟨x, r, rfl⟩
        obtain ⟨w0, hw0⟩ : ∃ w, minOf (firsts m cur) = some w := by
          rw [e0]
          exact firsts_ne
        have hf := mem_firsts2.mp (minOf_mem hw0)
        obtain ⟨j, hj⟩ := List.mem_iff_getElem?.mp ((mem2 w0).mpr (free_mem hf))
        rw [hb j w0 (by rw [List.length_map]; exact (List.getElem?_eq_some_iff.mp hj).1) hj] at hf
        cases hf
    · rintro σ H' ⟨cur, acc, y4, y5, y6, rfl, s, hle, hfo, hci, ha, hcl, hq⟩
      rw [List.length_map, Int.toNat_natCast] at ha
      have hz : cur.length = 0 := by
        rw [List.length_map, Int.toNat_natCast] at hcl
        omega
      have e0 : leastN m cur.length cur = [] := by
        rw [hz]
        rfl
      rw [e0, List.append_nil] at hq
      refine ⟨_, rfl, fo, _, rfl, .inl ⟨SqL.of hfo, fun b nb => q _ b (s.trans (same_new nb)) (.inl ?_)⟩⟩
      rw [upd_same, hq]
def spLeft (K : PySem.W.Frag) : Sp := fun vs H Q _ => ∃ (nl a b : Addr) (n : Nat) (m : Int → Int → Bool) (ns ms : List Int), vs = [.ref nl, .ref a, .ref b] ∧ Mat H nl n m ∧ Meets m ∧ Row H a ns ∧ Row H b ms ∧ RowIn n ns ∧ RowIn n ms ∧ ns.length ≤ 1000 ∧ ms.length ≤ 62 ∧
  ∀ (H' : Hp) (v : V), Same H H' → OptRow H' v (due m ns ms) → Q v H'
theorem ok_left (T : Top K mg) : Cal P w K mg base 3 "_law_left" (spLeft K) := by
  have G : Cal P w K mg base 1 "_law_free_at" spFreeAt := ok_free_at T
  have L : Cal P w K mg base 2 "_law_least" (spLeast K) := ok_least T
  refine cal0 T.d_l_left sc_l_left (fun vs H Q E h => ?_) (fun f cdv A outer s H vs Q E hr h => ?_)
  · obtain ⟨nl, a, b, n, m, ns, ms, rfl, _⟩ := h
    rfl
  · obtain ⟨nl, a, b, n, m, ns, ms, rfl, M, mm, hR, hS, hi, hj, hl, hk, q⟩ := h
    have nd := sc_l_left.nd
    refine ⟨_, pss_cons (ps_set (i := 3) nd rfl (.inl rfl) (pe_callTy (call_lsK K) (by rfl) T.b_list (by decide +kernel) (pa_cons (pv 2) pa_nil)))
      (pss_cons (ps_for PassesOwn.never rfl (pi_tupK K (pv 1)) (pg_name (i := 4) nd rfl (.inl rfl))
        (pss_cons (ps_set (i := 5) nd rfl (.inl rfl) (pe_cal G hr (pa_cons (pv 0) (pa_cons (pv 3) (pa_cons (pv 4) pa_nil)))))
        (pss_cons (ps_if (pt_cmpR op_isN (pv 5) pe_non (nomark _)) (pss_one (ps_ret pe_non)) pss_nil)
        (pss_one (ps_expr (pe_bm PySem.F.plainAttrs_list PySem.F.slot_list_pop PySem.F.type_list_pop mt_popAt (pv 3) (pa_cons (pv 5) pa_nil)))))))
      (pss_one (ps_ret (pe_cal L hr (pa_cons (pv 0) (pa_cons (pe_callTy (call_tupK K) (by rfl) T.b_tuple (by decide +kernel) (pa_cons (pv 3) pa_nil)) pa_nil)))))), ?_⟩
    refine ⟨_, rfl, b, _, rfl, .inr hS.sq, fun le nle => ?_⟩
    have s1 : Same H (upd H le (.lst (ms.map V.int))) := same_new nle
    refine ⟨_, rfl, a, rfl, ⟨_, (hR.same s1).sq⟩, for_tup (K := K) (a := a) (xs := ns.map V.int) (fun i σ H' => ∃ (cur : List Int) (y4 y5 : Option V), σ = [some (.ref nl), some (.ref a), some (.ref b), some (.ref le), y4, y5] ∧ Same H H' ∧
      H' le = some (.lst (cur.map V.int)) ∧ RowIn n cur ∧ cur.length ≤ 62 ∧ left m ns ms = left m (ns.drop i) cur) ⟨ms, none, none, rfl, s1, upd_same, hj, hk, rfl⟩ (fun i σ H' _ h => ?_) ?_ ?_⟩
    · obtain ⟨cur, y4, y5, _, s, _⟩ := h
      exact (hR.same s).sq
    · rintro i x σ H' hx ⟨cur, y4, y5, rfl, s, hle, hci, hcl, hq⟩
      obtain ⟨z, hz, rfl⟩ := int_at hx
      obtain ⟨z0, z1⟩ := hi z (List.mem_of_getElem? hz)
      rw [drop_cons hz] at hq
      refine ⟨_, rfl, _, rfl, _, rfl, nl, le, n, m, cur, z, rfl, M.same s, hle, hci, z0, z1, by omega, ?_⟩
      cases ef : freeAt m cur z with
      | none =>
        have ev : freeV m cur z = .non := by
          unfold freeV
          rw [ef]
        rw [ev]
        refine ⟨_, rfl, rfl, true, rfl, iteT (q H' .non s ?_)⟩
        unfold due
        rw [hq, left_step_none ef]
        rfl
      | some k =>
        have ev : freeV m cur z = .int (k : Nat) := by
          unfold freeV
          rw [ef]
        rw [ev]
        have kl := (free_lt ef).1
        have ek := (free_lt ef).2
        have ek2 : (cur.map V.int)[k]? = some (.int z) := by rw [List.getElem?_map, ek]; rfl
        have hcut := take_drop_len kl
        refine ⟨_, rfl, rfl, false, rfl, iteF ?_⟩
        refine ⟨_, rfl, .inl ⟨rfl, _, SqL.of hle⟩, _, rfl, le, _, (k : Int), k, .int z, rfl, rfl, hle, by omega, by omega, ?_, ek2, ?_⟩
        · rw [List.length_map]
          exact seq_nat kl
        rw [cut_erase]
        exact ⟨_, _, _, rfl, same_mut s nle, upd_same, hci.cut k, by omega, hq.trans (left_step_some ef)⟩
    · rintro σ H' ⟨cur, y4, y5, rfl, s, hle, hci, hcl, hq⟩
      rw [List.length_map, List.drop_length] at hq
      refine ⟨_, rfl, _, rfl, le, _, rfl, .inl ⟨SqL.of hle, fun t nt => ?_⟩⟩
      have st : Same H' (upd H' t (.tup (cur.map V.int))) := same_new nt
      refine ⟨nl, t, n, m, cur, rfl, (M.same s).same st, .inl upd_same, hci, hcl, fun H2 c s2 hc => q H2 _ ((s.trans st).trans s2) ?_⟩
      unfold due
      rw [hq]
      exact ⟨c, rfl, hc⟩
def spRight (K : PySem.W.Frag) : Sp := fun vs H Q _ => ∃ (u : V) (p a b : Addr) (v : V) (n : Nat) (m : Int → Int → Bool) (ns ms : List Int), vs = [u, .ref p, .ref a, .ref b, v] ∧ OfficeAt K H p n m ∧ Meets m ∧ Row H a ns ∧ RowN H b ms ∧ RowIn n ns ∧ RowIn n ms ∧
  ns.length ≤ 1000 ∧ ms.length ≤ 62 ∧ OptRow H v (due m ns ms) ∧ ∀ H' : Hp, Same H H' → Q (.bl true) H'
theorem due_isSome {H : Hp} {v : V} {m : Int → Int → Bool} {ns ms : List Int} (h : OptRow H v (due m ns ms)) : (!decide (v = .non)) = (left m ns ms).isSome := by
  unfold due at h
  cases e : left m ns ms with
  | none =>
    rw [e] at h
    obtain rfl : v = .non := h
    rfl
  | some r =>
    rw [e] at h
    obtain ⟨c, rfl, _⟩ := h
    rfl
theorem due_len {m : Int → Int → Bool} (mm : Meets m) {ns ms d : List Int} (h : due m ns ms = some d) : ns.length + d.length = ms.length := by
  unfold due at h
  cases e : left m ns ms with
  | none => rw [e] at h; cases h
  | some r =>
    rw [e] at h
    have hd : least m r = d := Option.some.inj h
    have a := (least_al mm.s r).length
    have b := (left_al mm.s e).length
    rw [List.length_append] at b
    rw [← hd, ← a]
    exact b.symm
theorem ok_right (T : Top K mg) : Cal P w K mg base 8 "_law_right" (spRight K) := by
  have B : Cal P w K mg base 7 "begins" (spBegins K) := ok_begins T
  have G : Cal P w K mg base 7 "gone_on" (spGoneOn K) := ok_gone_on T
  have F : Cal P w K mg base 1 "_law_flag" spFlag := ok_flag T
  have S : Cal P w K mg base 3 "_law_same" (spSame K) := ok_same T
  refine cal0 T.d_l_right sc_l_right (fun vs H Q E h => ?_) (fun f cdv A outer s H vs Q E hr h => ?_)
  · obtain ⟨u, p, a, b, v, n, m, ns, ms, rfl, _⟩ := h
    rfl
  · obtain ⟨u, p, a, b, v, n, m, ns, ms, rfl, O, mm, hR, hS, hi, hj, hl, hk, hv, q⟩ := h
    refine ⟨_, pss_cons (ps_if (pt_not (pt_val (pe_cal F hr (pa_cons (pe_cal B hr (pa_cons (pv 1) (pa_cons (pv 2) (pa_cons (pv 3) pa_nil)))) (pa_cons (pe_cmpR op_notN (pv 4) pe_non (nomark _)) pa_nil))))) pss_never pss_nil)
      (pss_one (ps_ret (pe_cal S hr (pa_cons (pe_cal G hr (pa_cons (pv 1) (pa_cons (pv 2) (pa_cons (pv 3) pa_nil)))) (pa_cons (pv 4) pa_nil))))), ?_⟩
    refine ⟨_, rfl, _, rfl, _, rfl, p, a, b, n, m, ns, ms, rfl, O, mm, hR, hS, hi, hj, hl, hk, fun H1 s1 => ?_⟩
    refine ⟨_, rfl, rfl, (left m ns ms).isSome, ?_, true, rfl, iteF ?_⟩
    · rw [due_isSome hv]
      rfl
    refine ⟨_, rfl, _, rfl, _, rfl, p, a, b, n, m, ns, ms, rfl, O.same s1, mm, hR.same s1, hS.same s1, hi, hj, hl, hk, fun H2 x s2 hx => ?_⟩
    refine ⟨_, rfl, x, v, _, rfl, hx, (hv.same s1).same s2, fun d hd => ?_, fun H3 s3 => q H3 ((s1.trans s2).trans s3)⟩
    have := due_len mm hd
    omega
end
end LW
/-! The law's own defs: rows mixed, rows changed. -/
namespace LW
open PySem PySem.Spec PyProof.Rows L2
theorem ixN_at {i : Int} {k n : Nat} (e : i = (k : Int)) (h : k < n) : ixN n i = some k := by
  unfold ixN
  rw [if_pos (by omega), if_pos (by omega)]
  exact congrArg some (by omega)
theorem swap_sw {m : Int → Int → Bool} : ∀ {cur : List Int} {k : Nat} {x y : Int}, cur[k]? = some x → cur[k + 1]? = some y → m x y = false → Sw m cur ((cur.set k y).set (k + 1) x)
  | [], k, x, y, h, _, _ => by cases h
  | [a], k, x, y, h1, h2, _ => by cases h2
  | a :: b :: r, 0, x, y, h1, h2, hm => by
    cases h1
    cases h2
    exact .here _ _ _ hm
  | a :: b :: r, k + 1, x, y, h1, h2, hm => .cons a (swap_sw (cur := b :: r) (k := k) (by simpa using h1) (by simpa using h2) hm)
theorem set_ints (cur : List Int) (k j : Nat) (x y : Int) : ((cur.map V.int).set k (.int x)).set j (.int y) = ((cur.set k x).set j y).map V.int := by
  rw [List.map_set, List.map_set]
theorem int_item {cur : List Int} {k : Nat} {x : Int} (h : cur[k]? = some x) : (cur.map V.int)[k]? = some (.int x) := by
  rw [List.getElem?_map, h]
  rfl
section
variable {P : Program} {w : World} {K : PySem.W.Frag} {mg : Str → Option Value} {base : Heap} {X : Cx}
def spMixed : Sp := fun vs H Q _ => ∃ (d l nl a : Addr) (t : Int) (n : Nat) (m : Int → Int → Bool) (ns : List Int), vs = [.ref d, .ref nl, .ref a, .int t] ∧ DL H d l ∧ Mat H nl n m ∧ Row H a ns ∧ RowIn n ns ∧ ns.length ≤ 62 ∧ 0 ≤ t ∧ t ≤ 100 ∧
  ∀ (H' : Hp) (b : Addr) (ms : List Int), Stay H H' → DL H' d l → RowN H' b ms → Al m ns ms → Q (.ref b) H'
theorem ok_mixed (T : Top K mg) : Cal P w K mg base 2 "_law_mixed" spMixed := by
  have G : Cal P w K mg base 1 "_law_draw" spDraw := ok_draw T
  refine cal0 T.d_l_mixed sc_l_mixed (fun vs H Q E h => ?_) (fun f cdv A outer s H vs Q E hr h => ?_)
  · obtain ⟨d, l, nl, a, t, n, m, ns, rfl, _⟩ := h
    rfl
  · obtain ⟨d, l, nl, a, t, n, m, ns, rfl, hD, M, hR, hi, hl, t0, t1, q⟩ := h
    have nd := sc_l_mixed.nd
    refine ⟨_, pss_cons (ps_set (i := 4) nd rfl (.inl rfl) (pe_callTy (call_lsK K) (by rfl) T.b_list (by decide +kernel) (pa_cons (pv 2) pa_nil)))
      (pss_cons (ps_for PassesOwn.never rfl (pi_range1 (by rfl) T.b_range (pa_cons (pe_ifExp (pt_cmpR op_gt (pe_callB (call_ln K) (by rfl) T.b_len PySem.boot_len (pa_cons (pv 2) pa_nil)) pe_int (nomark _)) (pv 3) pe_int) pa_nil)) (pg_name (i := 5) nd rfl (.inl rfl))
        (pss_cons (ps_set (i := 6) nd rfl (.inl rfl) (pe_cal G hr (pa_cons (pv 0) (pa_cons (pe_op op_sub (pe_callB (call_ln K) (by rfl) T.b_len PySem.boot_len (pa_cons (pv 4) pa_nil)) pe_int) pa_nil))))
        (pss_one (ps_if (pt_not (pt_val (pe_ix (ix_lK K) (pe_ix (ix_lK K) (pv 1) (pe_ix (ix_lK K) (pv 4) (pv 6) (fun _ _ => rfl)) (fun _ _ => rfl)) (pe_ix (ix_lK K) (pv 4) (pe_op op_add (pv 6) pe_int) (fun _ _ => rfl)) (fun _ _ => rfl))))
          (pss_one (ps_asg (pe_tup (pa_cons (pe_ix (ix_lK K) (pv 4) (pe_op op_add (pv 6) pe_int) (fun _ _ => rfl)) (pa_cons (pe_ix (ix_lK K) (pv 4) (pv 6) (fun _ _ => rfl)) pa_nil)))
            (pg_tup rfl (pgs_cons (pg_sub (pv 4) (pv 6) set_list) (pgs_cons (pg_sub (pv 4) (pe_op op_add (pv 6) pe_int) set_list) pgs_nil))))) pss_nil))))
      (pss_one (ps_ret (pe_callTy (call_tupN K) (by rfl) T.b_tuple (by decide +kernel) (pa_cons (pv 4) pa_nil))))), ?_⟩
    refine ⟨_, rfl, a, _, rfl, .inr hR.sq, fun le nle => ?_⟩
    have s1 : Same H (upd H le (.lst (ns.map V.int))) := same_new nle
    have hle0 : (upd H le (.lst (ns.map V.int))) le = some (.lst (ns.map V.int)) := upd_same
    generalize upd H le (.lst (ns.map V.int)) = H1 at s1 hle0
    have done : ∀ (j : Int) (σ : L2.St) (H' : Hp), (∃ (cur : List Int) (y5 y6 : Option V), σ = [some (.ref d), some (.ref nl), some (.ref a), some (.int t), some (.ref le), y5, y6] ∧ Stay H H' ∧ DL H' d l ∧ H' le = some (.lst (cur.map V.int)) ∧ Al m ns cur) →
        (tRet (tCB (rTupN K) (tCons (tVar 4) tNil)) { nx := fun x H' => Q V.non H', rt := Q }) σ H' := by
      rintro j σ H' ⟨cur, y5, y6, rfl, sy, Dy, hle, hal⟩
      exact ⟨_, rfl, le, _, rfl, SqL.of hle, fun b o nb hd => q _ b cur (sy.thenS (same_new nb)) (Dy.same (same_new nb)) (rowN_new hd) hal⟩
    refine ⟨_, rfl, a, _, rfl, .inr (hR.same s1).sq, _, _, rfl, rfl, _, rfl, ite2 (fun h1 => ?_) (fun h1 => ?_)⟩
    · rw [List.length_map] at h1
      have h2 := of_decide_eq_true h1
      refine ⟨_, rfl, t, rfl, by omega, by omega, for_range (lo := 0) (n := t.toNat) (fun i σ H' => ∃ (cur : List Int) (y5 y6 : Option V), σ = [some (.ref d), some (.ref nl), some (.ref a), some (.int t), some (.ref le), y5, y6] ∧ Stay H H' ∧ DL H' d l ∧ H' le = some (.lst (cur.map V.int)) ∧ Al m ns cur)
        ⟨ns, none, none, rfl, .of s1, hD.same s1, hle0, .refl _⟩ ?_ (done t)⟩
      rintro i σ H' hin ⟨cur, y5, y6, rfl, sy, Dy, hle, hal⟩
      have cl := hal.length
      have ci := hi.al hal
      refine ⟨_, rfl, _, rfl, le, _, rfl, .inl (SqL.of hle), _, _, rfl, rfl, d, l, _, rfl, Dy, ?_, ?_, fun H2 r s2 D2 r0 r1 => ?_⟩
      · rw [List.length_map]
        omega
      · rw [List.length_map]
        omega
      rw [List.length_map] at r1
      obtain ⟨k, rfl⟩ : ∃ k : Nat, r = (k : Int) := ⟨r.toNat, by omega⟩
      have k1 : k + 1 < cur.length := by omega
      have k0 : k < cur.length := by omega
      have ex := List.getElem?_eq_getElem k0
      have ey := List.getElem?_eq_getElem k1
      obtain ⟨x0, x1⟩ := ci _ (List.getElem_mem k0)
      obtain ⟨y0, y1⟩ := ci _ (List.getElem_mem k1)
      generalize cur[k] = x at ex x0 x1
      generalize cur[k + 1] = y at ey y0 y1
      have hle2 := s2 _ _ hle nd_ints
      obtain ⟨as, fa, m1, m2, m3⟩ := (M.stay (sy.trans s2)).row x0 x1
      refine ⟨_, rfl, _, rfl, _, rfl, le, _, _, .int x, rfl, rfl, SqL.of hle2, at_of (j := k) rfl (int_item ex), nl, _, _, .ref fa, rfl, rfl, SqL.of m1, m2, ?_⟩
      refine ⟨_, rfl, _, rfl, _, _, rfl, rfl, le, _, _, .int y, rfl, rfl, SqL.of hle2, at_of (j := k + 1) (by omega) (int_item ey), fa, _, _, _, rfl, rfl, SqL.of m3, flag_at y0 y1, _, rfl, ite2 (fun hm => ?_) (fun hm => ?_)⟩
      · have hm2 : m x y = false := by rw [Bool.not_eq_true'] at hm; exact hm
        refine ⟨_, rfl, _, rfl, _, _, rfl, rfl, le, _, _, .int y, rfl, rfl, SqL.of hle2, at_of (j := k + 1) (by omega) (int_item ey), _, rfl, _, rfl, le, _, _, .int x, rfl, rfl, SqL.of hle2, at_of (j := k) rfl (int_item ex), by show 2 ≤ sizeLine; decide, fun p np => ?_⟩
        have sp : Same H2 (upd H2 p (.tup [.int y, .int x])) := same_new np
        have hle3 := sp _ _ hle2
        refine ⟨p, _, rfl, SqT.of upd_same, rfl, _, _, rfl, _, rfl, _, rfl, le, _, _, k, rfl, rfl, hle3, ixN_at rfl (by rw [List.length_map]; exact k0), _, _, rfl, _, rfl, _, rfl, _, _, rfl, rfl, le, _, _, k + 1, rfl, rfl, upd_same, ixN_at (by omega) (by rw [List.length_set, List.length_map]; exact k1), rfl, ?_⟩
        have sE := (sy.trans s2).thenS sp
        rw [set_ints]
        refine ⟨_, _, _, rfl, stay_mut (stay_mut sE nle) nle, hD.mut (hD.mut (D2.same sp) nle) nle, upd_same, .step hal (swap_sw ex ey hm2)⟩
      · exact ⟨cur, _, _, rfl, sy.trans s2, D2, hle2, hal⟩
    · refine ⟨0, rfl, by decide, by decide, for_range (lo := 0) (n := (0 : Int).toNat) (fun i σ H' => ∃ (cur : List Int) (y5 y6 : Option V), σ = [some (.ref d), some (.ref nl), some (.ref a), some (.int t), some (.ref le), y5, y6] ∧ Stay H H' ∧ DL H' d l ∧ H' le = some (.lst (cur.map V.int)) ∧ Al m ns cur)
        ⟨ns, none, none, rfl, .of s1, hD.same s1, hle0, .refl _⟩ (fun i σ H' h _ => absurd h (Nat.not_lt_zero _)) (done 0)⟩
end
end LW
/-! The law's own defs: rows changed. -/
namespace LW
open PySem PySem.Spec PyProof.Rows L2
theorem RowIn.set {n : Nat} {cur : List Int} (h : RowIn n cur) {k : Nat} {x : Int} (hx : 0 ≤ x ∧ x < (n : Int)) : RowIn n (cur.set k x) := fun y hy => by
  rcases List.mem_or_eq_of_mem_set hy with q | q
  · exact h y q
  · rw [q]
    exact hx
section
variable {P : Program} {w : World} {K : PySem.W.Frag} {mg : Str → Option Value} {base : Heap} {X : Cx}
def ChI (H : Hp) (d l nl a le : Addr) (k : Int) (i : Nat) (n z : Nat) (σ : L2.St) (H' : Hp) : Prop := ∃ cur : List Int, σ = [some (.ref d), some (.ref nl), some (.ref a), some (.ref le), some (.int k), some (.int (i : Nat))] ∧ Stay H H' ∧ DL H' d l ∧
  H' le = some (.lst (cur.map V.int)) ∧ RowIn n cur ∧ cur.length ≤ z + 1
def spChanged : Sp := fun vs H Q _ => ∃ (d l nl a : Addr) (n : Nat) (m : Int → Int → Bool) (ns : List Int), vs = [.ref d, .ref nl, .ref a] ∧ DL H d l ∧ Mat H nl n m ∧ Row H a ns ∧ RowIn n ns ∧ ns.length ≤ 62 ∧ 1 ≤ n ∧ n ≤ 10 ∧
  ∀ (H' : Hp) (b : Addr) (ms : List Int), Stay H H' → DL H' d l → RowN H' b ms → RowIn n ms → ms.length ≤ ns.length + 1 → Q (.ref b) H'
theorem ok_changed (T : Top K mg) : Cal P w K mg base 3 "_law_changed" spChanged := by
  have G : Cal P w K mg base 1 "_law_draw" spDraw := ok_draw T
  have Mx : Cal P w K mg base 2 "_law_mixed" spMixed := ok_mixed T
  refine cal0 T.d_l_changed sc_l_changed (fun vs H Q E h => ?_) (fun f cdv A outer s H vs Q E hr h => ?_)
  · obtain ⟨d, l, nl, a, n, m, ns, rfl, _⟩ := h
    rfl
  · obtain ⟨d, l, nl, a, n, m, ns, rfl, hD, M, hR, hi, hl, n1, n10, q⟩ := h
    have nd := sc_l_changed.nd
    refine ⟨_, pss_cons (ps_set (i := 3) nd rfl (.inl rfl) (pe_callTy (call_lsK K) (by rfl) T.b_list (by decide +kernel) (pa_cons (pe_cal Mx hr (pa_cons (pv 0) (pa_cons (pv 1) (pa_cons (pv 2) (pa_cons pe_int pa_nil))))) pa_nil)))
      (pss_cons (ps_set (i := 4) nd rfl (.inl rfl) (pe_cal G hr (pa_cons (pv 0) (pa_cons pe_int pa_nil))))
      (pss_cons (ps_set (i := 5) nd rfl (.inl rfl) (pe_cal G hr (pa_cons (pv 0) (pa_cons (pe_op op_add (pe_callB (call_ln K) (by rfl) T.b_len PySem.boot_len (pa_cons (pv 3) pa_nil)) pe_int) pa_nil))))
      (pss_cons (ps_cut (ps_if (pt_cmpR op_eq (pv 4) pe_int (nomark _))
        (pss_one (ps_expr (pe_bm PySem.F.plainAttrs_list PySem.F.slot_list_insert PySem.F.type_list_insert mt_insert (pv 3) (pa_cons (pv 5) (pa_cons (pe_cal G hr (pa_cons (pv 0) (pa_cons (pe_callB (call_ln K) (by rfl) T.b_len PySem.boot_len (pa_cons (pv 1) pa_nil)) pa_nil))) pa_nil))))) pss_nil))
      (pss_cons (ps_cut (ps_if (PW.pt (pw_and (pt_cmpR op_eq (pv 4) pe_int (nomark _)) (pw_and1 (pt_cmpR op_lt (pv 5) (pe_callB (call_ln K) (by rfl) T.b_len PySem.boot_len (pa_cons (pv 3) pa_nil)) (nomark _)))))
        (pss_one (ps_expr (pe_bm PySem.F.plainAttrs_list PySem.F.slot_list_pop PySem.F.type_list_pop mt_popAt (pv 3) (pa_cons (pv 5) pa_nil)))) pss_nil))
      (pss_cons (ps_cut (ps_if (PW.pt (pw_and (pt_cmpR op_eq (pv 4) pe_int (nomark _)) (pw_and1 (pt_cmpR op_lt (pv 5) (pe_callB (call_ln K) (by rfl) T.b_len PySem.boot_len (pa_cons (pv 3) pa_nil)) (nomark _)))))
        (pss_one (ps_asg (pe_cal G hr (pa_cons (pv 0) (pa_cons (pe_callB (call_ln K) (by rfl) T.b_len PySem.boot_len (pa_cons (pv 1) pa_nil)) pa_nil))) (pg_sub (pv 3) (pv 5) set_list))) pss_nil))
      (pss_cons (ps_cut (ps_if (PW.pt (pw_and (pt_cmpR op_eq (pv 4) pe_int (nomark _)) (pw_and1 (pt_cmpR op_lt (pe_op op_add (pv 5) pe_int) (pe_callB (call_ln K) (by rfl) T.b_len PySem.boot_len (pa_cons (pv 3) pa_nil)) (nomark _)))))
        (pss_one (ps_asg (pe_tup (pa_cons (pe_ix (ix_lK K) (pv 3) (pe_op op_add (pv 5) pe_int) (fun _ _ => rfl)) (pa_cons (pe_ix (ix_lK K) (pv 3) (pv 5) (fun _ _ => rfl)) pa_nil)))
            (pg_tup rfl (pgs_cons (pg_sub (pv 3) (pv 5) set_list) (pgs_cons (pg_sub (pv 3) (pe_op op_add (pv 5) pe_int) set_list) pgs_nil))))) pss_nil))
      (pss_one (ps_ret (pe_callTy (call_tupN K) (by rfl) T.b_tuple (by decide +kernel) (pa_cons (pv 3) pa_nil)))))))))), ?_⟩
    refine ⟨_, rfl, _, rfl, _, rfl, d, l, nl, a, 6, n, m, ns, rfl, hD, M, hR, hi, hl, by decide, by decide, fun H1 b ms s1 D1 hb hal => ?_⟩
    refine ⟨b, _, rfl, .inr hb.row.sq, fun le nle1 => ?_⟩
    have nle : H le = none := s1.there _ nle1
    have s2 : Same H1 (upd H1 le (.lst (ms.map V.int))) := same_new nle1
    have hle : (upd H1 le (.lst (ms.map V.int))) le = some (.lst (ms.map V.int)) := upd_same
    generalize upd H1 le (.lst (ms.map V.int)) = H2 at s2 hle
    have ml := hal.length
    refine ⟨_, rfl, d, l, 6, rfl, D1.same s2, by decide, by decide, fun H3 kind s3 D3 k0 k1 => ?_⟩
    have hle3 := s3 _ _ hle nd_ints
    refine ⟨_, rfl, _, rfl, le, _, rfl, .inl (SqL.of hle3), _, _, rfl, rfl, d, l, _, rfl, D3, ?_, ?_, fun H4 r s4 D4 r0 r1 => ?_⟩
    · rw [List.length_map]
      omega
    · rw [List.length_map]
      omega
    obtain ⟨i, rfl⟩ : ∃ i : Nat, r = (i : Int) := ⟨r.toNat, by omega⟩
    rw [List.length_map] at r1
    have start : ChI H d l nl a le kind i n ns.length [some (.ref d), some (.ref nl), some (.ref a), some (.ref le), some (.int kind), some (.int (i : Nat))] H4 :=
      ⟨ms, rfl, (s1.thenS s2).trans (s3.trans s4), D4, s4 _ _ hle3 nd_ints, hi.al hal, by omega⟩
    have ip : i < 1000 := by omega
    have matl : ∀ {H' : Hp}, Stay H H' → ∃ as : List Addr, H' nl = some (.lst (as.map V.ref)) ∧ as.length = n := fun s => by
      obtain ⟨as, e1, e2, _⟩ := (M.stay s).ex
      exact ⟨as, e1, e2⟩
    -- insert
    refine ⟨ChI H d l nl a le kind i n ns.length, ?_, ?_⟩
    · refine ⟨_, rfl, rfl, _, rfl, ite2 (fun h1 => ?_) (fun h1 => start)⟩
      have sy := (s1.thenS s2).trans (s3.trans s4)
      have hc := s4 _ _ hle3 nd_ints
      have hci := hi.al hal
      obtain ⟨as, e1, e2⟩ := matl sy
      refine ⟨_, rfl, .inl ⟨rfl, _, SqL.of hc⟩, _, rfl, _, rfl, _, rfl, nl, _, rfl, .inl (SqL.of e1), d, l, _, rfl, D4, ?_, ?_, fun H5 v s5 D5 v0 v1 => ?_⟩
      · rw [List.length_map]
        omega
      · rw [List.length_map]
        omega
      rw [List.length_map, e2] at v1
      have hc5 := s5 _ _ hc nd_ints
      refine ⟨le, _, _, .int v, rfl, rfl, hc5, by rw [List.length_map]; exact small5 (by omega), by omega, by omega, ?_⟩
      have ei : (ms.map V.int).take ((i : Nat) : Int).toNat ++ [V.int v] ++ (ms.map V.int).drop ((i : Nat) : Int).toNat = (ms.take i ++ [v] ++ ms.drop i).map V.int := by
        rw [List.map_append, List.map_append, List.map_take, List.map_drop, Int.toNat_natCast]
        rfl
      rw [ei]
      refine ⟨_, rfl, stay_mut (sy.trans s5) nle, hD.mut D5 nle, upd_same, fun x hx => ?_, ?_⟩
      · rcases List.mem_append.mp hx with hx | hx
        · rcases List.mem_append.mp hx with hx | hx
          · exact hci x (List.mem_of_mem_take hx)
          · rw [List.mem_singleton.mp hx]
            exact ⟨v0, v1⟩
        · exact hci x (List.mem_of_mem_drop hx)
      · rw [List.length_append, List.length_append, List.length_take, List.length_drop, List.length_singleton]
        omega
    clear start
    -- pop
    rintro σ1 Ha ⟨cur, rfl, sy, Dy, hc, hci, hcl⟩
    refine ⟨ChI H d l nl a le kind i n ns.length, ?_, ?_⟩
    · have start : ChI H d l nl a le kind i n ns.length [some (.ref d), some (.ref nl), some (.ref a), some (.ref le), some (.int kind), some (.int (i : Nat))] Ha := ⟨cur, rfl, sy, Dy, hc, hci, hcl⟩
      refine ⟨_, rfl, rfl, _, rfl, ite2 (fun h1 => ?_) (fun h1 => start)⟩
      refine ⟨_, rfl, _, rfl, le, _, rfl, .inl (SqL.of hc), _, _, rfl, rfl, _, rfl, ite2 (fun h2 => ?_) (fun h2 => start)⟩
      have h3 := of_decide_eq_true h2
      rw [List.length_map] at h3
      have ik : i < cur.length := by omega
      have ex := List.getElem?_eq_getElem ik
      refine ⟨_, rfl, .inl ⟨rfl, _, SqL.of hc⟩, _, rfl, le, _, ((i : Nat) : Int), i, .int cur[i], rfl, rfl, hc, by omega, by omega, by rw [List.length_map]; exact seq_nat ik, int_item ex, ?_⟩
      rw [cut_erase]
      have hcut := take_drop_len ik
      exact ⟨_, rfl, stay_mut sy nle, hD.mut Dy nle, upd_same, hci.cut i, by omega⟩
    rintro σ2 Hb ⟨cur2, rfl, sy2, Dy2, hc2, hci2, hcl2⟩
    -- put
    refine ⟨ChI H d l nl a le kind i n ns.length, ?_, ?_⟩
    · have start : ChI H d l nl a le kind i n ns.length [some (.ref d), some (.ref nl), some (.ref a), some (.ref le), some (.int kind), some (.int (i : Nat))] Hb := ⟨cur2, rfl, sy2, Dy2, hc2, hci2, hcl2⟩
      refine ⟨_, rfl, rfl, _, rfl, ite2 (fun h1 => ?_) (fun h1 => start)⟩
      refine ⟨_, rfl, _, rfl, le, _, rfl, .inl (SqL.of hc2), _, _, rfl, rfl, _, rfl, ite2 (fun h2 => ?_) (fun h2 => start)⟩
      have h3 := of_decide_eq_true h2
      rw [List.length_map] at h3
      have ik : i < cur2.length := by omega
      obtain ⟨as, e1, e2⟩ := matl sy2
      refine ⟨_, rfl, _, rfl, nl, _, rfl, .inl (SqL.of e1), d, l, _, rfl, Dy2, ?_, ?_, fun H5 v s5 D5 v0 v1 => ?_⟩
      · rw [List.length_map]
        omega
      · rw [List.length_map]
        omega
      rw [List.length_map, e2] at v1
      refine ⟨_, rfl, _, rfl, le, _, _, i, rfl, rfl, s5 _ _ hc2 nd_ints, ixN_at rfl (by rw [List.length_map]; exact ik), ?_⟩
      rw [← List.map_set]
      exact ⟨_, rfl, stay_mut (sy2.trans s5) nle, hD.mut D5 nle, upd_same, hci2.set ⟨v0, v1⟩, by rw [List.length_set]; exact hcl2⟩
    rintro σ3 Hc ⟨cur3, rfl, sy3, Dy3, hc3, hci3, hcl3⟩
    -- swap
    refine ⟨ChI H d l nl a le kind i n ns.length, ?_, ?_⟩
    · have start : ChI H d l nl a le kind i n ns.length [some (.ref d), some (.ref nl), some (.ref a), some (.ref le), some (.int kind), some (.int (i : Nat))] Hc := ⟨cur3, rfl, sy3, Dy3, hc3, hci3, hcl3⟩
      refine ⟨_, rfl, rfl, _, rfl, ite2 (fun h1 => ?_) (fun h1 => start)⟩
      refine ⟨_, rfl, _, _, rfl, rfl, _, rfl, le, _, rfl, .inl (SqL.of hc3), _, _, rfl, rfl, _, rfl, ite2 (fun h2 => ?_) (fun h2 => start)⟩
      have h3 := of_decide_eq_true h2
      rw [List.length_map] at h3
      have k1 : i + 1 < cur3.length := by omega
      have k0 : i < cur3.length := by omega
      have ex := List.getElem?_eq_getElem k0
      have ey := List.getElem?_eq_getElem k1
      have hx := hci3 _ (List.getElem_mem k0)
      have hy := hci3 _ (List.getElem_mem k1)
      generalize cur3[i] = x at ex hx
      generalize cur3[i + 1] = y at ey hy
      refine ⟨_, rfl, _, rfl, _, _, rfl, rfl, le, _, _, .int y, rfl, rfl, SqL.of hc3, at_of (j := i + 1) (by omega) (int_item ey), _, rfl, _, rfl, le, _, _, .int x, rfl, rfl, SqL.of hc3, at_of (j := i) rfl (int_item ex), by show 2 ≤ sizeLine; decide, fun p np => ?_⟩
      have sp : Same Hc (upd Hc p (.tup [.int y, .int x])) := same_new np
      have hle3 := sp _ _ hc3
      refine ⟨p, _, rfl, SqT.of upd_same, rfl, _, _, rfl, _, rfl, _, rfl, le, _, _, i, rfl, rfl, hle3, ixN_at rfl (by rw [List.length_map]; exact k0), _, _, rfl, _, rfl, _, rfl, _, _, rfl, rfl, le, _, _, i + 1, rfl, rfl, upd_same, ixN_at (by omega) (by rw [List.length_set, List.length_map]; exact k1), rfl, ?_⟩
      have sE := sy3.thenS sp
      rw [set_ints]
      exact ⟨_, rfl, stay_mut (stay_mut sE nle) nle, hD.mut (hD.mut (Dy3.same sp) nle) nle, upd_same, (hci3.set hy).set hx, by rw [List.length_set, List.length_set]; exact hcl3⟩
    rintro σ4 Hd ⟨cur4, rfl, sy4, Dy4, hc4, hci4, hcl4⟩
    exact ⟨_, rfl, le, _, rfl, SqL.of hc4, fun c o nc hd => q _ c cur4 (sy4.thenS (same_new nc)) (Dy4.same (same_new nc)) (rowN_new hd) hci4 hcl4⟩
end
end LW
/-! The law's own defs: all the rows that a row may be exchanged to. -/
namespace LW
open PySem PySem.Spec PyProof.Rows L2
theorem Row.upd_lst {H : Hp} {a x : Addr} {ns : List Int} {xs : List V} {o : HO} (r : Row H a ns) (h : H x = some (.lst xs)) : Row (upd H x o) a ns := by
  rcases r with e | ⟨u, e⟩
  · refine .inl ?_
    rw [upd_ne (ne_of e h (fun z => nomatch z))]
    exact e
  · refine .inr ⟨u, ?_⟩
    rw [upd_ne (ne_of e h (fun z => nomatch z))]
    exact e
theorem Row.upd_ext {P : Program} {w : World} {H : Hp} {a x : Addr} {ns : List Int} {ks : List RowKey} {o : HO} (r : Row H a ns) (h : H x = some (DO P w x ks)) : Row (upd H x o) a ns := by
  rcases r with e | ⟨u, e⟩
  · refine .inl ?_
    rw [upd_ne (ne_of e h (fun z => by unfold DO at z; exact nomatch z))]
    exact e
  · refine .inr ⟨u, ?_⟩
    rw [upd_ne (ne_of e h (fun z => by unfold DO at z; exact nomatch z))]
    exact e
theorem drop_consG {α : Type} {l : List α} {i : Nat} {x : α} (h : l[i]? = some x) : l.drop i = x :: l.drop (i + 1) := by
  obtain ⟨h1, h2⟩ := List.getElem?_eq_some_iff.mp h
  rw [← h2]
  exact List.drop_eq_getElem_cons h1
abbrev keys (ks : List RowKey) : List (List Int) := ks.map fun p => p.1
abbrev adrs (ks : List RowKey) : List V := ks.map fun p => V.ref p.2
theorem mem_keys {ks : List RowKey} {p : RowKey} (h : p ∈ ks) : p.1 ∈ keys ks := List.mem_map.mpr ⟨p, h, rfl⟩
theorem keys_snoc (ks : List RowKey) (p : RowKey) : keys (ks ++ [p]) = keys ks ++ [p.1] := by
  show List.map _ _ = _
  rw [List.map_append]
  rfl
theorem adrs_snoc (ks : List RowKey) (p : RowKey) : adrs (ks ++ [p]) = adrs ks ++ [.ref p.2] := by
  show List.map _ _ = _
  rw [List.map_append]
  rfl
/-- the dict as it stands -/
structure Ex (P : Program) (w : World) (H0 : Hp) (m : Int → Int → Bool) (ns : List Int) (dd : Addr) (ks : List RowKey) (H : Hp) : Prop where
  same : Same H0 H
  dict : H dd = some (DO P w dd ks)
  rows : RowsD H ks
  nod : (keys ks).Nodup
  al : ∀ p ∈ ks, Al m ns p.1
  start : ns ∈ keys ks
theorem Ex.thenS {P : Program} {w : World} {H0 H H' : Hp} {m : Int → Int → Bool} {ns : List Int} {dd : Addr} {ks : List RowKey} (x : Ex P w H0 m ns dd ks H) (s : Same H H') : Ex P w H0 m ns dd ks H' :=
  ⟨x.same.trans s, s _ _ x.dict, x.rows.same s, x.nod, x.al, x.start⟩
theorem Ex.le {P : Program} {w : World} {H0 H : Hp} {m : Int → Int → Bool} {ns : List Int} {dd : Addr} {ks : List RowKey} {n : Nat} (x : Ex P w H0 m ns dd ks H) (hi : RowIn n ns) (hn : n ≤ 10) (hl : ns.length ≤ 6) : ks.length ≤ 1000000 := by
  have h := rows_le (K := keys ks) (L := ns.length) x.nod (fun k hk => ?_) hl
  · have e : (keys ks).length = ks.length := List.length_map ..
    rw [e] at h
    exact h
  · obtain ⟨p, hp, rfl⟩ := List.mem_map.mp hk
    have a := x.al p hp
    refine ⟨a.length.symm, fun z hz => ?_⟩
    have := hi z (a.perm.mem_iff.mpr hz)
    omega
/-- all that a row exchanges to in one step is there -/
def Dn (m : Int → Int → Bool) (ks : List RowKey) (k : List Int) : Prop := ∀ v, Sw m k v → v ∈ keys ks
theorem Dn.snoc {m : Int → Int → Bool} {ks : List RowKey} {k : List Int} (h : Dn m ks k) (p : RowKey) : Dn m (ks ++ [p]) k := fun v s => by
  rw [keys_snoc]
  exact List.mem_append_left _ (h v s)
/-- a layer: rows in a list, all of them keys -/
structure Ly (ks : List RowKey) (la : Addr) (ly : List RowKey) (H : Hp) : Prop where
  lst : H la = some (.lst (adrs ly))
  rows : RowsD H ly
  key : ∀ p ∈ ly, p.1 ∈ keys ks
theorem Ly.same {ks : List RowKey} {la : Addr} {ly : List RowKey} {H H' : Hp} (x : Ly ks la ly H) (s : Same H H') : Ly ks la ly H' := ⟨s _ _ x.lst, x.rows.same s, x.key⟩
theorem Ly.snoc {ks : List RowKey} {la : Addr} {ly : List RowKey} {H : Hp} (x : Ly ks la ly H) (p : RowKey) : Ly (ks ++ [p]) la ly H := ⟨x.lst, x.rows, fun q hq => by rw [keys_snoc]; exact List.mem_append_left _ (x.key q hq)⟩
/-- the head of the while: k turns at most are left -/
def WEx (P : Program) (w : World) (H0 : Hp) (nl a dd : Addr) (m : Int → Int → Bool) (ns : List Int) (k : Nat) (σ : L2.St) (H : Hp) : Prop :=
  ∃ (la : Addr) (ly ks : List RowKey) (y4 y5 y6 y7 : Option V), σ = [some (.ref nl), some (.ref a), some (.ref dd), some (.ref la), y4, y5, y6, y7] ∧ Ex P w H0 m ns dd ks H ∧ Ly ks la ly H ∧ (∀ p ∈ ks, p.1 ∈ keys ly ∨ Dn m ks p.1) ∧
    k = 2 * (1000000 - ks.length) + (if ly.length = 0 then 0 else 1)
/-- the walk over a layer, i rows of it done -/
def FEx (P : Program) (w : World) (H0 : Hp) (nl a dd la lt : Addr) (m : Int → Int → Bool) (ns : List Int) (ly : List RowKey) (k0 : Nat) (i : Nat) (σ : L2.St) (H : Hp) : Prop :=
  ∃ (nw ks : List RowKey) (y5 y6 y7 : Option V), σ = [some (.ref nl), some (.ref a), some (.ref dd), some (.ref la), some (.ref lt), y5, y6, y7] ∧ Ex P w H0 m ns dd ks H ∧ Ly ks la ly H ∧ Ly ks lt nw H ∧ ks.length = k0 + nw.length ∧
    ∀ p ∈ ks, p.1 ∈ keys (ly.drop i) ∨ p.1 ∈ keys nw ∨ Dn m ks p.1
/-- .. and within a row u at ha, j places of it done -/
def GEx (P : Program) (w : World) (H0 : Hp) (nl a dd la lt ha : Addr) (m : Int → Int → Bool) (ns : List Int) (ly : List RowKey) (k0 : Nat) (i : Nat) (u : List Int) (j : Nat) (σ : L2.St) (H : Hp) : Prop :=
  ∃ (nw ks : List RowKey) (y6 y7 : Option V), σ = [some (.ref nl), some (.ref a), some (.ref dd), some (.ref la), some (.ref lt), some (.ref ha), y6, y7] ∧ Ex P w H0 m ns dd ks H ∧ Ly ks la ly H ∧ Ly ks lt nw H ∧ ks.length = k0 + nw.length ∧
    (∀ p ∈ ks, p.1 ∈ keys (ly.drop i) ∨ p.1 ∈ keys nw ∨ Dn m ks p.1) ∧ ∀ j' x y, j' < j → u[j']? = some x → u[j' + 1]? = some y → m x y = false → swapAt u j' x y ∈ keys ks
section
variable {P : Program} {w : World} {H0 H : Hp} {m : Int → Int → Bool} {ns k : List Int} {dd la lt b : Addr} {ks ly nw : List RowKey} {xs ys : List V}
theorem Ex.put (x : Ex P w H0 m ns dd ks H) (hdd : H0 dd = none) (r : Row H b k) (no : k ∉ keys ks) (al : Al m ns k) : Ex P w H0 m ns dd (ks ++ [(k, b)]) (upd H dd (DO P w dd (ks ++ [(k, b)]))) := by
  refine ⟨same_mut x.same hdd, upd_same, fun p hp => ?_, ?_, fun p hp => ?_, ?_⟩
  · rcases List.mem_append.mp hp with q | q
    · exact (x.rows p q).upd_ext x.dict
    · rw [List.mem_singleton.mp q]
      exact r.upd_ext x.dict
  · rw [keys_snoc, List.nodup_append]
    refine ⟨x.nod, by simp, fun u hu v hv e => no ?_⟩
    have ev : v = k := List.mem_singleton.mp hv
    rw [← ev, ← e]
    exact hu
  · rcases List.mem_append.mp hp with q | q
    · exact x.al p q
    · rw [List.mem_singleton.mp q]
      exact al
  · rw [keys_snoc]
    exact List.mem_append_left _ x.start
theorem Ex.wlst (x : Ex P w H0 m ns dd ks H) (hlt : H0 lt = none) (h : H lt = some (.lst xs)) : Ex P w H0 m ns dd ks (upd H lt (.lst ys)) := by
  have ne : dd ≠ lt := ne_of x.dict h (fun z => by unfold DO at z; exact nomatch z)
  exact ⟨same_mut x.same hlt, by rw [upd_ne ne]; exact x.dict, fun p hp => (x.rows p hp).upd_lst h, x.nod, x.al, x.start⟩
theorem Ly.wdict {ks' : List RowKey} {o : HO} (y : Ly ks la ly H) (h : H dd = some (DO P w dd ks')) : Ly ks la ly (upd H dd o) := by
  have ne : la ≠ dd := ne_of y.lst h (fun z => by unfold DO at z; exact nomatch z)
  exact ⟨by rw [upd_ne ne]; exact y.lst, fun p hp => (y.rows p hp).upd_ext h, y.key⟩
theorem Ly.wlst {o : HO} (y : Ly ks la ly H) (ne : la ≠ lt) (h : H lt = some (.lst xs)) : Ly ks la ly (upd H lt o) :=
  ⟨by rw [upd_ne ne]; exact y.lst, fun p hp => (y.rows p hp).upd_lst h, y.key⟩
theorem Ly.put (y : Ly ks lt nw H) (r : Row H b k) (hk : k ∈ keys ks) : Ly ks lt (nw ++ [(k, b)]) (upd H lt (.lst (adrs nw ++ [V.ref b]))) := by
  refine ⟨by rw [upd_same, adrs_snoc], fun p hp => ?_, fun p hp => ?_⟩
  · rcases List.mem_append.mp hp with q | q
    · exact (y.rows p q).upd_lst y.lst
    · rw [List.mem_singleton.mp q]
      exact r.upd_lst y.lst
  · rcases List.mem_append.mp hp with q | q
    · exact y.key p q
    · rw [List.mem_singleton.mp q]
      exact hk
theorem adr_at {i : Nat} {x : V} (h : (adrs ly)[i]? = some x) : ∃ p, ly[i]? = some p ∧ x = .ref p.2 := by
  have h2 : (ly.map fun p => V.ref p.2)[i]? = some x := h
  rw [List.getElem?_map] at h2
  cases e : ly[i]? with
  | none => rw [e] at h2; cases h2
  | some p =>
    rw [e] at h2
    exact ⟨p, rfl, (Option.some.inj h2).symm⟩
end
section
variable {P : Program} {w : World} {K : PySem.W.Frag} {mg : Str → Option Value} {base : Heap} {X : Cx}
def spExchanged (P : Program) (w : World) : Sp := fun vs H Q _ => ∃ (nl a : Addr) (n : Nat) (m : Int → Int → Bool) (ns : List Int), vs = [.ref nl, .ref a] ∧ Mat H nl n m ∧ Row H a ns ∧ RowIn n ns ∧ ns.length ≤ 6 ∧ n ≤ 10 ∧
  ∀ (H' : Hp) (dd : Addr) (ks : List RowKey), Same H H' → H dd = none → H' dd = some (DO P w dd ks) → RowsD H' ks → ks.length ≤ 1000000 → (∀ ms, ms ∈ keys ks ↔ Al m ns ms) → Q (.ref dd) H'
theorem ok_exchanged (T : Top K mg) : Cal P w K mg base 1 "_law_exchanged" (spExchanged P w) := by
  refine cal0 T.d_l_exchanged sc_l_exchanged (fun vs H Q E h => ?_) (fun f cdv A outer s H vs Q E hr h => ?_)
  · obtain ⟨nl, a, n, m, ns, rfl, _⟩ := h
    rfl
  · obtain ⟨nl, a, n, m, ns, rfl, M, hR, hi, hl, hn, q⟩ := h
    have nd := sc_l_exchanged.nd
    have hu := hu_of hr
    refine ⟨_, pss_cons (ps_set (i := 2) nd rfl (.inl rfl) (pe_dispO P w hu (pv 1) pe_int))
      (pss_cons (ps_set (i := 3) nd rfl (.inl rfl) (pe_lst (pa_cons (pv 1) pa_nil)))
      (pss_cons (ps_while PassesOwn.never (pt_cmpR op_gt (pe_callB (call_ln K) (by rfl) T.b_len PySem.boot_len (pa_cons (pv 3) pa_nil)) pe_int (nomark _))
        (pss_cons (ps_set (i := 4) nd rfl (.inl rfl) (pe_lst pa_nil))
        (pss_cons (ps_for PassesOwn.never rfl (pi_listK K (pv 3)) (pg_name (i := 5) nd rfl (.inl rfl))
          (pss_one (ps_for PassesOwn.never rfl (pi_range1 (by rfl) T.b_range (pa_cons (pe_op op_sub (pe_callB (call_ln K) (by rfl) T.b_len PySem.boot_len (pa_cons (pv 5) pa_nil)) pe_int) pa_nil)) (pg_name (i := 6) nd rfl (.inl rfl))
            (pss_cons (ps_set (i := 7) nd rfl (.inl rfl) (pe_op (op_catK K) (pe_op (op_catK K) (pe_slice (sl_tK K) (pv 5) po_none (po_some (pv 6))) (pe_tup (pa_cons (pe_ix (ix_tK K) (pv 5) (pe_op op_add (pv 6) pe_int) (fun _ _ => rfl)) (pa_cons (pe_ix (ix_tK K) (pv 5) (pv 6) (fun _ _ => rfl)) pa_nil))))
                (pe_slice (sl_tK K) (pv 5) (po_some (pe_op op_add (pv 6) pe_int)) po_none)))
            (pss_one (ps_if (PW.pt (pw_and (pt_not (pt_val (pe_ix (ix_lK K) (pe_ix (ix_lK K) (pv 0) (pe_ix (ix_tK K) (pv 5) (pv 6) (fun _ _ => rfl)) (fun _ _ => rfl)) (pe_ix (ix_tK K) (pv 5) (pe_op op_add (pv 6) pe_int) (fun _ _ => rfl)) (fun _ _ => rfl))))
                (pw_and1 (pt_cmp (pc_donot P w hu (pv 7) (pv 2)) (by rfl)))))
              (pss_cons (ps_doput P w hu (pv 2) (pv 7) (pe_op op_add (pe_doget P w hu (pv 2) (pv 5) (fun _ _ => rfl)) pe_int) rfl)
              (pss_one (ps_expr (pe_bm PySem.F.plainAttrs_list PySem.F.slot_list_append PySem.F.type_list_append mt_append (pv 4) (pa_cons (pv 7) pa_nil))))) pss_nil))))))
        (pss_one (ps_set (i := 3) nd rfl (.inl rfl) (pv 4))))))
      (pss_one (ps_ret (pv 2))))), ?_⟩
    refine fun dd ndd => ⟨_, rfl, a, ns, 0, rfl, upd_same, hR.same (same_new ndd), ?_⟩
    have ex0 : Ex P w H m ns dd [(ns, a)] (upd (upd H dd (DO P w dd [])) dd (DO P w dd [(ns, a)])) := by
      refine ⟨same_mut (same_new ndd) ndd, upd_same, fun p hp => ?_, by simp, fun p hp => ?_, List.mem_cons_self⟩
      · rw [List.mem_singleton.mp hp]
        exact (hR.same (same_new ndd)).upd_ext upd_same
      · rw [List.mem_singleton.mp hp]
        exact .refl _
    generalize upd (upd H dd (DO P w dd [])) dd (DO P w dd [(ns, a)]) = H1 at ex0
    refine ⟨_, rfl, by show 1 ≤ sizeLine; decide, fun la0 nla0 => ?_⟩
    have sl : Same H1 (upd H1 la0 (.lst [.ref a])) := same_new nla0
    refine ⟨WEx P w H nl a dd m ns, ⟨_, la0, [(ns, a)], [(ns, a)], none, none, none, none, rfl, ex0.thenS sl, ⟨upd_same, (ex0.thenS sl).rows, fun p hp => mem_keys hp⟩, fun p hp => .inl (mem_keys hp), rfl⟩, ?_⟩
    clear ex0 sl nla0
    rintro k σ H2 ⟨la, ly, ks, y4, y5, y6, y7, rfl, ex, hly, hcov, hk⟩
    have ll : (adrs ly).length = ly.length := List.length_map ..
    refine ⟨_, rfl, la, _, rfl, .inl (SqL.of hly.lst), _, _, rfl, rfl, _, rfl, ite2 (fun hp => ?_) (fun hp => ?_)⟩
    · have lpos : 0 < ly.length := by
        rw [ll] at hp
        have := of_decide_eq_true hp
        omega
      refine ⟨fun σ' H' => ∃ k', k' < k ∧ WEx P w H nl a dd m ns k' σ' H', fun _ _ h => h, ?_⟩
      refine ⟨Nat.zero_le _, fun lt nlt => ?_⟩
      have s3 : Same H2 (upd H2 lt (.lst [])) := same_new nlt
      have nlt0 : H lt = none := ex.same.free nlt
      have nelt : la ≠ lt := ne_of_none hly.lst nlt
      refine ⟨_, rfl, la, rfl, ⟨_, SqL.of (s3 _ _ hly.lst)⟩, for_list (K := K) (a := la) (xs := adrs ly) (FEx P w H nl a dd la lt m ns ly ks.length)
        ⟨[], ks, y5, y6, y7, rfl, ex.thenS s3, hly.same s3, ⟨upd_same, (fun _ h => nomatch h), (fun _ h => nomatch h)⟩, rfl, fun p hp => ?_⟩ (fun i σ H3 _ h => ?_) ?_ ?_⟩
      · rcases hcov p hp with c | c
        · exact .inl c
        · exact .inr (.inr c)
      · obtain ⟨nw, ks1, _, _, _, _, _, hl1, _⟩ := h
        exact SqL.of hl1.lst
      · rintro i x σ H3 hx ⟨nw, ks1, z5, z6, z7, rfl, ex1, hl1, hn1, hlen1, hc1⟩
        obtain ⟨⟨u, ha⟩, hpi, rfl⟩ := adr_at hx
        have hmem := List.mem_of_getElem? hpi
        have hrow : Row H3 ha u := hl1.rows _ hmem
        obtain ⟨pk, hpk, epk⟩ := List.mem_map.mp (hl1.key _ hmem)
        have hual : Al m ns u := by
          have := ex1.al pk hpk
          rw [epk] at this
          exact this
        have ulen : u.length ≤ 6 := by rw [← hual.length]; exact hl
        have uin := hi.al hual
        refine ⟨_, rfl, ha, _, rfl, .inr hrow.sq, _, _, rfl, rfl, _, rfl, ?_, ?_, for_range (lo := 0) (n := ((((u.map V.int).length : Nat) : Int) - 1).toNat) (GEx P w H nl a dd la lt ha m ns ly ks.length i u)
          ⟨nw, ks1, z6, z7, rfl, ex1, hl1, hn1, hlen1, hc1, fun j' _ _ h => absurd h (Nat.not_lt_zero _)⟩ ?_ ?_⟩
        · rw [List.length_map]
          omega
        · rw [List.length_map]
          omega
        · clear ex1 hl1 hn1 hlen1 hc1 hrow hpk epk
          rintro j σ H4 hj ⟨nw, ks1, z6, z7, rfl, ex1, hl1, hn1, hlen1, hc1, hsw⟩
          rw [List.length_map] at hj
          have hrow : Row H4 ha u := hl1.rows _ hmem
          have hukey : u ∈ keys ks1 := hl1.key _ hmem
          have j1 : j + 1 < u.length := by omega
          have j0 : j < u.length := by omega
          have e0 := List.getElem?_eq_getElem j0
          have e1 := List.getElem?_eq_getElem j1
          obtain ⟨x0, x1⟩ := uin _ (List.getElem_mem j0)
          obtain ⟨v0, v1⟩ := uin _ (List.getElem_mem j1)
          generalize u[j] = x at e0 x0 x1
          generalize u[j + 1] = y at e1 v0 v1
          rw [show (0 : Int) + ((j : Nat) : Int) = ((j : Nat) : Int) from Int.zero_add _]
          refine ⟨_, rfl, _, rfl, ((j : Nat) : Int), rfl, sl_to hrow j fun b1 H5 s5 hb1 => ?_⟩
          have hrow5 := hrow.same s5
          refine ⟨_, rfl, _, rfl, _, _, rfl, rfl, ha, _, _, .int y, rfl, rfl, hrow5.sq, at_of (j := j + 1) (by omega) (int_item e1), _, rfl, _, rfl, ha, _, _, .int x, rfl, rfl, hrow5.sq, at_of (j := j) rfl (int_item e0), by show 2 ≤ sizeLine; decide, fun pr npr => ?_⟩
          have s6 : Same H5 (upd H5 pr (.tup [.int y, .int x])) := same_new npr
          have hpr : Row (upd H5 pr (.tup [.int y, .int x])) pr [y, x] := .inl upd_same
          generalize upd H5 pr (.tup [.int y, .int x]) = H6 at s6 hpr
          refine cat_rows (hb1.same s6) hpr (by rw [List.length_take]; show _ + 2 ≤ _; omega) fun b2 H7 s7 hb2 => ?_
          have hrow7 := (hrow5.same s6).same s7
          refine ⟨_, rfl, _, rfl, _, _, rfl, rfl, _, rfl, ?_⟩
          rw [show ((j : Nat) : Int) + 2 = ((j + 2 : Nat) : Int) by omega]
          unfold tNoPart
          refine sl_from hrow7 (j + 2) fun b3 H8 s8 hb3 => ?_
          refine cat_rows (hb2.same s8) hb3 (by rw [List.length_append, List.length_take, List.length_drop]; show _ + 2 + _ ≤ _; omega) fun bt H9 s9 hbt => ?_
          have sA : Same H4 H9 := (((s5.trans s6).trans s7).trans s8).trans s9
          have hrow9 := hrow.same sA
          have exA := ex1.thenS sA
          have hlA := hl1.same sA
          have hnA := hn1.same sA
          obtain ⟨as, fa, m1, m2, m3⟩ := (M.same exA.same).row x0 x1
          have keep : (m x y = false → swapAt u j x y ∈ keys ks1) → ∃ (nw ks : List RowKey) (y6 y7 : Option V), [some (V.ref nl), some (.ref a), some (.ref dd), some (.ref la), some (.ref lt), some (.ref ha), some (.int ((j : Nat) : Int)), some (.ref bt)] = [some (.ref nl), some (.ref a), some (.ref dd), some (.ref la), some (.ref lt), some (.ref ha), y6, y7] ∧
              Ex P w H m ns dd ks H9 ∧ Ly ks la ly H9 ∧ Ly ks lt nw H9 ∧ ks.length = _ + nw.length ∧ (∀ p ∈ ks, p.1 ∈ keys (ly.drop i) ∨ p.1 ∈ keys nw ∨ Dn m ks p.1) ∧ ∀ j' x y, j' < j + 1 → u[j']? = some x → u[j' + 1]? = some y → m x y = false → swapAt u j' x y ∈ keys ks := fun hnew =>
            ⟨nw, ks1, _, _, rfl, exA, hlA, hnA, hlen1, hc1, fun j' x' y' hj' q1 q2 q3 => by
              rcases Nat.lt_or_ge j' j with lt | ge
              · exact hsw j' x' y' lt q1 q2 q3
              · have ej : j' = j := by omega
                subst ej
                rw [e0] at q1
                rw [e1] at q2
                cases q1
                cases q2
                exact hnew q3⟩
          refine ⟨_, rfl, _, rfl, _, rfl, ha, _, _, .int x, rfl, rfl, hrow9.sq, at_of (j := j) rfl (int_item e0), nl, _, _, .ref fa, rfl, rfl, SqL.of m1, m2, _, rfl, _, rfl, _, _, rfl, rfl, ha, _, _, .int y, rfl, rfl, hrow9.sq, at_of (j := j + 1) (by omega) (int_item e1), fa, _, _, _, rfl, rfl, SqL.of m3, flag_at v0 v1, _, rfl, ite2 (fun hm => ?_) (fun hm => ?_)⟩
          · have hm2 : m x y = false := by rw [Bool.not_eq_true'] at hm; exact hm
            have hsa := at_sw e0 e1 hm2
            have eb : u.take j ++ [y, x] ++ u.drop (j + 2) = swapAt u j x y := rfl
            rw [eb] at hbt
            refine ⟨_, rfl, _, rfl, dd, bt, ks1, swapAt u j x y, rfl, rfl, .inl exA.dict, exA.rows, hbt, _, rfl, ite2 (fun hno => ?_) (fun hno => ?_)⟩
            · have no : swapAt u j x y ∉ keys ks1 := fun hin => by
                have h1 : decide (swapAt u j x y ∈ ks1.map (fun p : RowKey => p.1)) = true := decide_eq_true hin
                have h2 : (!decide (swapAt u j x y ∈ ks1.map (fun p : RowKey => p.1))) = true := hno
                rw [h1] at h2
                cases h2
              have cnt := exA.le hi hn hl
              refine ⟨_, rfl, _, rfl, dd, ha, ks1, u, rfl, rfl, .inl exA.dict, exA.rows, hrow9, hukey, fun cn => ⟨_, _, rfl, rfl, _, rfl, _, rfl, dd, bt, ks1, swapAt u j x y, _, rfl, rfl, rfl, exA.dict, exA.rows, hbt, no, Nat.lt_of_le_of_lt cnt (by decide), ?_⟩⟩
              have exB := exA.put ndd hbt no (.step hual hsa)
              have hlB := (hlA.snoc (swapAt u j x y, bt)).wdict (o := DO P w dd (ks1 ++ [(swapAt u j x y, bt)])) exA.dict
              have hnB := (hnA.snoc (swapAt u j x y, bt)).wdict (o := DO P w dd (ks1 ++ [(swapAt u j x y, bt)])) exA.dict
              have hbB := hbt.upd_ext (o := DO P w dd (ks1 ++ [(swapAt u j x y, bt)])) exA.dict
              have cnt2 := exB.le hi hn hl
              generalize upd H9 dd (DO P w dd (ks1 ++ [(swapAt u j x y, bt)])) = HB at exB hlB hnB hbB
              have hkey : swapAt u j x y ∈ keys (ks1 ++ [(swapAt u j x y, bt)]) := by rw [keys_snoc]; exact List.mem_append_right _ List.mem_cons_self
              have nl2 : (adrs nw).length = nw.length := List.length_map ..
              rw [List.length_append, List.length_singleton] at cnt2
              refine ⟨_, rfl, .inl ⟨rfl, _, SqL.of hnB.lst⟩, _, rfl, lt, _, _, rfl, rfl, hnB.lst, by rw [nl2]; exact Nat.lt_of_le_of_lt (show nw.length ≤ 1000000 by omega) (by decide), ?_⟩
              refine ⟨nw ++ [(swapAt u j x y, bt)], ks1 ++ [(swapAt u j x y, bt)], _, _, rfl, exB.wlst nlt0 hnB.lst, hlB.wlst nelt hnB.lst, hnB.put hbB hkey, ?_, fun p hp => ?_, fun j' x' y' hj' q1 q2 q3 => ?_⟩
              · rw [List.length_append, List.length_append, hlen1]
                rfl
              · rcases List.mem_append.mp hp with c | c
                · rcases hc1 p c with c | c | c
                  · exact .inl c
                  · refine .inr (.inl ?_)
                    rw [keys_snoc]
                    exact List.mem_append_left _ c
                  · exact .inr (.inr (c.snoc _))
                · refine .inr (.inl ?_)
                  rw [List.mem_singleton.mp c, keys_snoc]
                  exact List.mem_append_right _ List.mem_cons_self
              · rcases Nat.lt_or_ge j' j with lt | ge
                · rw [keys_snoc]
                  exact List.mem_append_left _ (hsw j' x' y' lt q1 q2 q3)
                · have ej : j' = j := by omega
                  subst ej
                  rw [e0] at q1
                  rw [e1] at q2
                  cases q1
                  cases q2
                  exact hkey
            · refine keep fun _ => ?_
              have h2 : ¬ (!decide (swapAt u j x y ∈ ks1.map (fun p : RowKey => p.1))) = true := hno
              cases hd : decide (swapAt u j x y ∈ ks1.map (fun p : RowKey => p.1)) with
              | true => exact of_decide_eq_true hd
              | false => rw [hd] at h2; exact absurd rfl h2
          · refine keep fun h0 => ?_
            rw [h0] at hm
            exact absurd rfl hm
        · rintro σ H4 ⟨nw, ks1, z6, z7, rfl, ex1, hl1, hn1, hlen1, hc1, hsw⟩
          refine ⟨nw, ks1, _, _, _, rfl, ex1, hl1, hn1, hlen1, fun p hp => ?_⟩
          rcases hc1 p hp with c | c | c
          · rw [drop_consG hpi] at c
            rcases List.mem_cons.mp c with c | c
            · refine .inr (.inr fun v sv => ?_)
              have c2 : p.1 = u := c
              rw [c2] at sv
              obtain ⟨j', x', y', q1, q2, q3, rfl⟩ := sw_at sv
              refine hsw j' x' y' ?_ q1 q2 q3
              have := (List.getElem?_eq_some_iff.mp q2).1
              rw [List.length_map]
              omega
            · exact .inl c
          · exact .inr (.inl c)
          · exact .inr (.inr c)
      · rintro σ H3 ⟨nw, ks1, z5, z6, z7, rfl, ex1, hl1, hn1, hlen1, hc1⟩
        have cnt := ex1.le hi hn hl
        refine ⟨_, rfl, _, ?_, lt, nw, ks1, _, _, _, _, rfl, ex1, hn1, fun p hp => ?_, rfl⟩
        · rw [hk, if_neg (Nat.pos_iff_ne_zero.mp lpos)]
          split <;> omega
        · rcases hc1 p hp with c | c | c
          · rw [ll, List.drop_length] at c
            cases c
          · exact .inl c
          · exact .inr c
    · have lz : ly = [] := by
        rw [ll] at hp
        have h2 : ¬ ((ly.length : Nat) : Int) > 0 := fun h => hp (decide_eq_true h)
        exact List.eq_nil_of_length_eq_zero (by omega)
      subst lz
      refine ⟨_, rfl, q H2 dd ks ex.same ndd ex.dict ex.rows (ex.le hi hn hl) fun ms => ⟨fun h => ?_, fun h => al_closed ex.start (fun k' hk' v sv => ?_) h⟩⟩
      · obtain ⟨p, hp2, rfl⟩ := List.mem_map.mp h
        exact ex.al p hp2
      · obtain ⟨p, hp2, rfl⟩ := List.mem_map.mp hk'
        rcases hcov p hp2 with c | c
        · cases c
        · exact c v sv
end
end LW
/-! The law's own defs: the least row behind, by looking at all of them. -/
namespace LW
open PySem PySem.Spec PyProof.Rows L2
/-! ### the least tuple -/
theorem leL_refl : ∀ u : List Int, leL u u
  | [] => True.intro
  | x :: r => .inr ⟨rfl, leL_refl r⟩
theorem leL_trans : ∀ {u v t : List Int}, leL u v → leL v t → leL u t
  | [], _, _, _, _ => True.intro
  | _ :: _, [], _, h, _ => h.elim
  | _ :: _, _ :: _, [], _, h => h.elim
  | x :: u, y :: v, z :: t, h1, h2 => by
    rcases h1 with h1 | ⟨e1, h1⟩
    · rcases h2 with h2 | ⟨e2, _⟩
      · exact .inl (by omega)
      · exact .inl (by omega)
    · rcases h2 with h2 | ⟨e2, h2⟩
      · exact .inl (by omega)
      · exact .inr ⟨e1.trans e2, leL_trans h1 h2⟩
theorem leL_lt : ∀ {u v : List Int}, PySem.W.listLt u v = true → leL u v
  | [], [], h => by cases h
  | [], _ :: _, _ => True.intro
  | _ :: _, [], h => by cases h
  | x :: u, y :: v, h => by
    rw [PySem.W.listLt] at h
    by_cases e : x = y
    · rw [if_pos e] at h
      exact .inr ⟨e, leL_lt h⟩
    · rw [if_neg e] at h
      exact .inl (of_decide_eq_true h)
theorem leL_not : ∀ {u v : List Int}, PySem.W.listLt u v = false → leL v u
  | [], [], _ => True.intro
  | [], _ :: _, h => by cases h
  | _ :: _, [], _ => True.intro
  | x :: u, y :: v, h => by
    rw [PySem.W.listLt] at h
    by_cases e : x = y
    · rw [if_pos e] at h
      exact .inr ⟨e.symm, leL_not h⟩
    · rw [if_neg e] at h
      have h2 : ¬ x < y := of_decide_eq_false h
      exact .inl (by omega)
theorem minT_spec : ∀ (xs : List (List Int)) (x : List Int), ∃ r, PySem.W.minOf (PySem.W.Tup.mk x) (xs.map PySem.W.Tup.mk) = PySem.W.Tup.mk r ∧ r ∈ x :: xs ∧ leL r x ∧ ∀ y ∈ xs, leL r y
  | [], x => ⟨x, rfl, List.mem_cons_self, leL_refl x, fun _ h => nomatch h⟩
  | y :: ys, x => by
    by_cases h : PySem.W.listLt y x = true
    · obtain ⟨r, e, m, l1, l2⟩ := minT_spec ys y
      refine ⟨r, ?_, List.mem_cons_of_mem _ m, leL_trans l1 (leL_lt h), fun z hz => ?_⟩
      · rw [← e]
        show List.foldl _ (if PySem.W.listLt y x = true then PySem.W.Tup.mk y else PySem.W.Tup.mk x) _ = _
        rw [if_pos h]
        rfl
      · rcases List.mem_cons.mp hz with rfl | hz
        · exact l1
        · exact l2 z hz
    · obtain ⟨r, e, m, l1, l2⟩ := minT_spec ys x
      have h2 : PySem.W.listLt y x = false := by
        cases q : PySem.W.listLt y x with
        | true => exact absurd q h
        | false => rfl
      refine ⟨r, ?_, ?_, l1, fun z hz => ?_⟩
      · rw [← e]
        show List.foldl _ (if PySem.W.listLt y x = true then PySem.W.Tup.mk y else PySem.W.Tup.mk x) _ = _
        rw [if_neg h]
        rfl
      · rcases List.mem_cons.mp m with rfl | m
        · exact List.mem_cons_self
        · exact List.mem_cons_of_mem _ (List.mem_cons_of_mem _ m)
      · rcases List.mem_cons.mp hz with rfl | hz
        · exact leL_trans l1 (leL_not h2)
        · exact l2 z hz
/-- what the list of all rows behind tells -/
theorem by_all {m : Int → Int → Bool} (mm : Meets m) {ns ms : List Int} {S : List (List Int)} (h : ∀ z, z ∈ S ↔ ∃ t, Al m ms t ∧ Al m ns (t.take ns.length) ∧ z = t.drop ns.length) :
    (S = [] → due m ns ms = none) ∧ ∀ r, r ∈ S → (∀ y ∈ S, leL r y) → due m ns ms = some r := by
  cases e : due m ns ms with
  | none =>
    refine ⟨fun _ => rfl, fun r hr _ => ?_⟩
    obtain ⟨t, a, b, _⟩ := (h r).mp hr
    exact absurd (by rw [List.take_append_drop]; exact a) (due_none mm.r mm.s e (t.drop ns.length) (t.take ns.length) b)
  | some d =>
    obtain ⟨a, b⟩ := due_some mm.r mm.s e
    have hd : d ∈ S := (h d).mpr ⟨ns ++ d, a, by rw [List.take_left]; exact .refl _, by rw [List.drop_left]⟩
    refine ⟨(fun z => by rw [z] at hd; cases hd), fun r hr hle => ?_⟩
    obtain ⟨t, a2, b2, rfl⟩ := (h r).mp hr
    rw [leL_antisymm (hle d hd) (b _ _ b2 (by rw [List.take_append_drop]; exact a2))]
section
variable {P : Program} {w : World} {K : PySem.W.Frag} {mg : Str → Option Value} {base : Heap} {X : Cx}
/-- min(l), l a list of rows: one of them, and its row is the least one -/
def rMinR (K : PySem.W.Frag) : List V → Hp → VK → Prop := fun vs H Q => ∃ (l : Addr) (p0 : RowKey) (fs : List RowKey), vs = [V.ref l] ∧ SqL K H l (adrs (p0 :: fs)) ∧ RowsD H (p0 :: fs) ∧
  ∀ p ∈ p0 :: fs, PySem.W.Tup.mk p.1 = PySem.W.minOf (PySem.W.Tup.mk p0.1) ((keys fs).map PySem.W.Tup.mk) → Q (.ref p.2) H
theorem holds_rowsD {pins : List (Addr × Obj)} {σ : L2.St} {H : Hp} {s : Shared} (I : Inv X pins σ H s) : ∀ {fs : List RowKey} {us : List Value}, RowsD H fs → Vals (adrs fs) us → PySem.W.HoldAll s.heap us ((keys fs).map PySem.W.Tup.mk)
  | [], _, _, .nil => PySem.W.HoldAll.nil
  | p :: fs, _, h, .cons r q => by
    cases r
    exact PySem.W.HoldAll.cons (holds_row I (h p List.mem_cons_self).sq) (holds_rowsD I (fun x hx => h x (List.mem_cons_of_mem _ hx)) q)
theorem vals_adr_at : ∀ {fs : List RowKey} {us : List Value} {i : Nat} {v : Value}, Vals (adrs fs) us → us[i]? = some v → ∃ p ∈ fs, v = .ref p.2
  | [], _, i, v, .nil, h => by cases h
  | p :: fs, _, 0, v, .cons r t, h => by
    cases r
    cases h
    exact ⟨p, List.mem_cons_self, rfl⟩
  | p :: fs, _, i + 1, v, .cons r t, h => by
    obtain ⟨x, hx, e⟩ := vals_adr_at (fs := fs) (i := i) t (by simpa using h)
    exact ⟨x, List.mem_cons_of_mem _ hx, e⟩
theorem cr_minR (K : PySem.W.Frag) (hu : X.A.units + 64 < cLine) (hc : X.calm = true := by rfl) (e : X.K = K := by rfl) : CallR X (.builtin "min") (rMinR K) := by
  subst e
  intro pins s σ H vs us Q I r h
  obtain ⟨l, p0, fs, rfl, hl, hr, q⟩ := h
  obtain ⟨its, rv, pl, hz⟩ := I.list hl
  rw [Vals.ref1 r]
  have ha := holds_rowsD I hr rv
  refine PySem.W.min_list_datum (I.ok.hd hc) pl.isList ha (show X.A.units + 1 + (0 + 1) < cLine by omega) fun i v h' tk hi hm hk => ?_
  obtain ⟨p, hp, rfl⟩ := vals_adr_at rv (by simpa using hi)
  have J : Inv X pins σ H { s with heap := h', toks := tk } := I.kept hk
  exact ⟨.ref p.2, H, J, rfl, q p hp (holds_inj (holds_row J (hr p hp).sq) hm)⟩
def spByAll : Sp := fun vs H Q _ => ∃ (nl a b : Addr) (n : Nat) (m : Int → Int → Bool) (ns ms : List Int), vs = [.ref nl, .ref a, .ref b] ∧ Mat H nl n m ∧ Meets m ∧ Row H a ns ∧ Row H b ms ∧ RowIn n ns ∧ RowIn n ms ∧ ns.length ≤ 6 ∧ ms.length ≤ 6 ∧ n ≤ 10 ∧
  ∀ (H' : Hp) (v : V), Same H H' → OptRow H' v (due m ns ms) → Q v H'
theorem ok_by_all (T : Top K mg) : Cal P w K mg base 2 "_law_by_all" spByAll := by
  have G : Cal P w K mg base 1 "_law_exchanged" (spExchanged P w) := ok_exchanged T
  refine cal0 T.d_l_by_all sc_l_by_all (fun vs H Q E h => ?_) (fun f cdv A outer s H vs Q E hr h => ?_)
  · obtain ⟨nl, a, b, n, m, ns, ms, rfl, _⟩ := h
    rfl
  · obtain ⟨nl, a, b, n, m, ns, ms, rfl, M, mm, hR, hS, hi, hj, hl, hk, hn, q⟩ := h
    have nd := sc_l_by_all.nd
    have hu := hu_of hr
    refine ⟨_, pss_cons (ps_set (i := 3) nd rfl (.inr rfl) (pe_cal G hr (pa_cons (pv 0) (pa_cons (pv 1) pa_nil))))
      (pss_cons (ps_setLc (i := 4) (own := [("_law_whole_here", 5)]) (g := gName 5) (tt := _) rfl nd rfl rfl rfl (pi_keysO P w (pe_lockV (pe_cal G hr (pa_cons (pv 0) (pa_cons (pv 2) pa_nil))))) (blkOk_by (N := n_l_by_all) (sc := defScope t_l_by_all) (by decide +kernel))
          (fun _ _ _ _ _ => pg_name (i := 5) nd rfl (Or.inl rfl)) (fun _ _ _ _ _ => pts_one (pt_cmp (pc_doin P w hu (pe_slice (sl_tK K) (pv 5) po_none (po_some (pe_callB (call_ln K) (by rfl) T.b_len PySem.boot_len (pa_cons (pv 1) pa_nil)))) (pv 3)) (by rfl)))
          (fun _ _ _ _ _ => pe_slice (sl_tK K) (pv 5) (po_some (pe_callB (call_ln K) (by rfl) T.b_len PySem.boot_len (pa_cons (pv 1) pa_nil))) po_none))
      (pss_one (ps_ret (pe_ifExp (pt_cmpR op_gt (pe_callB (call_ln K) (by rfl) T.b_len PySem.boot_len (pa_cons (pv 4) pa_nil)) pe_int (nomark _)) (pe_callB (cr_minR K hr.units) (by rfl) T.b_min (by decide +kernel) (pa_cons (pv 4) pa_nil)) pe_non)))), ?_⟩
    refine ⟨_, rfl, _, rfl, nl, a, n, m, ns, rfl, M, hR, hi, hl, hn, fun H1 d1 k1 s1 nd1 hd1 r1 c1 iff1 => ?_⟩
    refine ⟨_, rfl, _, rfl, nl, b, n, m, ms, rfl, M.same s1, hS.same s1, hj, hk, hn, fun H2 d2 k2 s2 nd2 hd2 r2 c2 iff2 => ⟨d2, _, rfl, hd2, True.intro, fun od => ⟨d2, od, k2, rfl, upd_same, ?_⟩⟩⟩
    have s3 : Same H1 (upd H2 d2 (.frz od (DO P w d2 k2))) := same_mut s2 nd2
    have r3 : RowsD (upd H2 d2 (.frz od (DO P w d2 k2))) k2 := fun p hp => (r2 p hp).upd_ext hd2
    have h3 : (upd H2 d2 (.frz od (DO P w d2 k2))) d2 = some (.frz od (DO P w d2 k2)) := upd_same
    generalize upd H2 d2 (.frz od (DO P w d2 k2)) = H3 at s3 r3 h3
    have ll : (ns.map V.int).length = ns.length := List.length_map ..
    intro Dl nD
    refine lc_it walk_keysO (fun i H' => Same H3 H' ∧ ∃ fs : List RowKey, H' Dl = some (.lst (adrs fs)) ∧ RowsD H' fs ∧ fs.length ≤ i ∧ ∀ z, z ∈ keys fs ↔ ∃ p ∈ k2.take i, p.1.take ns.length ∈ keys k1 ∧ z = p.1.drop ns.length)
      ⟨same_new nD, [], upd_same, (fun _ h => nomatch h), Nat.le_refl _, fun z => ⟨(fun h => by cases h), fun ⟨p, h, _⟩ => by cases h⟩⟩ (fun i H' _ h => h.1 _ _ h3) ?_ ?_
    · rintro i x Hb Ha hi2 ⟨sa, fs, f1, f2, f3, f4⟩ ⟨rfl, p, hp, rfl⟩
      have hmem := List.mem_of_getElem? hp
      have hrow : Row Ha p.2 p.1 := (r3 p hmem).same sa
      have hRa := ((hR.same s1).same s3).same sa
      have take_i : k2.take (i + 1) = k2.take i ++ [p] := by
        rw [List.take_add_one, hp]
        rfl
      refine ⟨rfl, _, rfl, _, rfl, a, _, rfl, .inr hRa.sq, _, rfl, ?_⟩
      rw [ll]
      refine sl_to hrow ns.length fun b1 H5 s5 hb1 => ?_
      have sb := (s3.trans sa).trans s5
      refine ⟨_, rfl, d1, b1, k1, _, rfl, rfl, .inl (sb _ _ hd1), r1.same sb, hb1, _, rfl, ite2 (fun hin => ?_) (fun hin => ?_)⟩
      · have hin2 : p.1.take ns.length ∈ keys k1 := of_decide_eq_true hin
        refine ⟨_, rfl, _, rfl, a, _, rfl, .inr (hRa.same s5).sq, _, rfl, ?_⟩
        rw [ll]
        unfold tNoPart
        refine sl_from (hrow.same s5) ns.length fun b2 H6 s6 hb2 => ?_
        have s56 := s5.trans s6
        have fl : (adrs fs).length = fs.length := List.length_map ..
        refine ⟨adrs fs, s56 _ _ f1, by rw [fl]; exact Nat.lt_of_le_of_lt (show fs.length ≤ 1000000 by omega) (by decide), same_mut (sa.trans s56) nD, fs ++ [(p.1.drop ns.length, b2)], by rw [upd_same, adrs_snoc], fun x hx => ?_, ?_, fun z => ?_⟩
        · rcases List.mem_append.mp hx with c | c
          · exact ((f2 x c).same s56).upd_lst (s56 _ _ f1)
          · rw [List.mem_singleton.mp c]
            exact hb2.upd_lst (s56 _ _ f1)
        · rw [List.length_append]
          show fs.length + 1 ≤ i + 1
          omega
        · rw [keys_snoc, List.mem_append, f4 z, take_i]
          constructor
          · rintro (⟨p', h1, h2⟩ | h)
            · exact ⟨p', List.mem_append_left _ h1, h2⟩
            · exact ⟨p, List.mem_append_right _ List.mem_cons_self, hin2, List.mem_singleton.mp h⟩
          · rintro ⟨p', h1, h2, h3⟩
            rcases List.mem_append.mp h1 with h1 | h1
            · exact .inl ⟨p', h1, h2, h3⟩
            · rw [List.mem_singleton.mp h1] at h3
              exact .inr (List.mem_singleton.mpr h3)
      · refine ⟨sa.trans s5, fs, s5 _ _ f1, f2.same s5, by omega, fun z => ?_⟩
        rw [f4 z, take_i]
        constructor
        · rintro ⟨p', h1, h2⟩
          exact ⟨p', List.mem_append_left _ h1, h2⟩
        · rintro ⟨p', h1, h2, h3⟩
          rcases List.mem_append.mp h1 with h1 | h1
          · exact ⟨p', h1, h2, h3⟩
          · rw [List.mem_singleton.mp h1] at h2
            exact absurd (decide_eq_true h2) hin
    · rintro Ha ⟨sa, fs, f1, f2, f3, f4⟩
      have hS : ∀ z, z ∈ keys fs ↔ ∃ t, Al m ms t ∧ Al m ns (t.take ns.length) ∧ z = t.drop ns.length := fun z => by
        rw [f4 z, List.take_length]
        constructor
        · rintro ⟨p, h1, h2, h3⟩
          exact ⟨p.1, (iff2 _).mp (mem_keys h1), (iff1 _).mp h2, h3⟩
        · rintro ⟨t, h1, h2, h3⟩
          obtain ⟨p, hp, e⟩ := List.mem_map.mp ((iff2 t).mpr h1)
          have e2 : p.1 = t := e
          exact ⟨p, hp, by rw [e2]; exact (iff1 _).mpr h2, by rw [e2]; exact h3⟩
      obtain ⟨bn, bs⟩ := by_all mm hS
      have sE := (s1.trans s3).trans sa
      have fl : (adrs fs).length = fs.length := List.length_map ..
      refine ⟨_, rfl, Dl, _, rfl, .inl (SqL.of f1), _, _, rfl, rfl, _, rfl, ite2 (fun hp => ?_) (fun hp => ?_)⟩
      · cases fs with
        | nil => cases hp
        | cons p0 fs =>
          refine ⟨_, rfl, Dl, p0, fs, rfl, SqL.of f1, f2, fun p hp2 he => q Ha _ sE ?_⟩
          obtain ⟨r, e1, e2, e3, e4⟩ := minT_spec (keys fs) p0.1
          have er : p.1 = r := by
            have := he.trans e1
            exact congrArg PySem.W.Tup.items this
          rw [bs p.1 (mem_keys hp2) fun y hy => ?_]
          · exact ⟨p.2, rfl, f2 p hp2⟩
          · rw [er]
            rcases List.mem_cons.mp hy with rfl | hy
            · exact e3
            · exact e4 y hy
      · have fz : fs = [] := by
          rw [fl] at hp
          have h2 : ¬ ((fs.length : Nat) : Int) > 0 := fun h => hp (decide_eq_true h)
          exact List.eq_nil_of_length_eq_zero (by omega)
        subst fz
        refine q Ha _ sE ?_
        rw [bn rfl]
        rfl
end
end LW
/-! The law itself. -/
namespace LW
open PySem PySem.Spec PyProof.Rows L2
theorem RowIn.take {n : Nat} {ns : List Int} (h : RowIn n ns) (k : Nat) : RowIn n (ns.take k) := fun x hx => h x (List.mem_of_mem_take hx)
section
variable {P : Program} {w : World} {K : PySem.W.Frag} {mg : Str → Option Value} {base : Heap} {X : Cx}
def spLaw (K : PySem.W.Frag) : Sp := fun vs H Q _ => ∃ (a : Addr) (ns : List Int), vs = [.ref a] ∧ SqL K H a (ns.map V.int) ∧ ∀ H' : Hp, Q (.bl true) H'
theorem ok_law (T : Top K mg) {f : Addr} {fd : FuncData} (F : Fun K "law" "law" t_law f fd) : FnOk P w K mg base CX0 9 f fd p_law (spLaw K) := by
  have DC : Cal P w K mg base 1 "_law_dice" (spDice K) := ok_dice T
  have DR : Cal P w K mg base 1 "_law_draw" spDraw := ok_draw T
  have SP : Cal P w K mg base 3 "_law_some_parts" spSomeParts := ok_some_parts T
  have MD : Cal P w K mg base 7 "_law_made" (spMade K) := ok_made T
  have NR : Cal P w K mg base 2 "_law_near" spNear := ok_near T
  have RW : Cal P w K mg base 2 "_law_row" spRow := ok_row T
  have MX : Cal P w K mg base 2 "_law_mixed" spMixed := ok_mixed T
  have CH : Cal P w K mg base 3 "_law_changed" spChanged := ok_changed T
  have BA : Cal P w K mg base 2 "_law_by_all" spByAll := ok_by_all T
  have LF : Cal P w K mg base 3 "_law_left" (spLeft K) := ok_left T
  have LS : Cal P w K mg base 2 "_law_least" (spLeast K) := ok_least T
  have RT : Cal P w K mg base 8 "_law_right" (spRight K) := ok_right T
  have AL : Cal P w K mg base 6 "alike" (spAreAlike K) := ok_alike T
  have BG : Cal P w K mg base 7 "begins" (spBegins K) := ok_begins T
  refine F.ok sc_law (fun vs H Q E h => ?_) (fun cdv A outer s H vs Q E hr h => ?_)
  · obtain ⟨a, ns, rfl, _⟩ := h
    rfl
  · obtain ⟨a, sns, rfl, hq, q⟩ := h
    have nd := sc_law.nd
    refine ⟨_, (pss_cons (ps_set (i := 1) nd rfl (.inl rfl) (pe_cal DC hr (pa_cons (pv 0) pa_nil)))
      (pss_cons (ps_for PassesOwn.never rfl (pi_range1 (by rfl) T.b_range (pa_cons pe_int pa_nil)) (pg_name (i := 2) nd rfl (.inl rfl)) (pss_cons (ps_set (i := 3) nd rfl (.inl rfl) (pe_cal SP hr (pa_cons (pv 1) pa_nil)))
      (pss_cons (ps_set (i := 4) nd rfl (.inl rfl) (pe_cal MD hr (pa_cons (pv 3) pa_nil)))
      (pss_cons (ps_set (i := 5) nd rfl (.inl rfl) (pe_cal NR hr (pa_cons (pv 3) pa_nil)))
      (pss_cons (ps_set (i := 6) nd rfl (.inl rfl) (pe_cal RW hr (pa_cons (pv 1) (pa_cons (pv 3) (pa_cons pe_int pa_nil)))))
      (pss_cons (ps_for PassesOwn.never rfl (pi_range1 (by rfl) T.b_range (pa_cons pe_int pa_nil)) (pg_name (i := 7) nd rfl (.inl rfl)) (pss_cons (ps_set (i := 9) nd rfl (.inl rfl) (pe_cal MX hr (pa_cons (pv 1) (pa_cons (pv 5) (pa_cons (pv 6) (pa_cons pe_int pa_nil))))))
      (pss_cons (ps_set (i := 10) nd rfl (.inl rfl) (pe_slice (sl_tN K) (pv 9) po_none (po_some (pe_cal DR hr (pa_cons (pv 1) (pa_cons (pe_op op_add (pe_callB (call_ln K) (by rfl) T.b_len PySem.boot_len (pa_cons (pv 9) pa_nil)) pe_int) pa_nil))))))
      (pss_cons (ps_cut (ps_if (pt_cmpR op_eq (pe_cal DR hr (pa_cons (pv 1) (pa_cons pe_int pa_nil))) pe_int (nomark _)) (pss_one (ps_set (i := 10) nd rfl (.inl rfl) (pe_slice (sl_tN K) (pe_cal CH hr (pa_cons (pv 1) (pa_cons (pv 5) (pa_cons (pv 10) pa_nil)))) po_none (po_some pe_int)))) pss_nil))
      (pss_cons (ps_set (i := 11) nd rfl (.inl rfl) (pe_cal BA hr (pa_cons (pv 5) (pa_cons (pv 10) (pa_cons (pv 6) pa_nil)))))
      (pss_one (ps_if (PW.pt (pw_or (pt_cmpR (op_neK K hr.units) (pv 11) (pe_cal LF hr (pa_cons (pv 5) (pa_cons (pv 10) (pa_cons (pv 6) pa_nil)))) (nomark _)) (pw_or1 (pt_not (pt_val (pe_cal RT hr (pa_cons (pv 5) (pa_cons (pv 4) (pa_cons (pv 10) (pa_cons (pv 6) (pa_cons (pv 11) pa_nil))))))))))) pss_never pss_nil)))))))
      (pss_cons (ps_if (pt_not (pt_val (pe_cal RT hr (pa_cons (pv 5) (pa_cons (pv 4) (pa_cons (pe_tup pa_nil) (pa_cons (pv 6) (pa_cons (pe_cal LS hr (pa_cons (pv 5) (pa_cons (pv 6) pa_nil))) pa_nil)))))))) pss_never pss_nil)
      (pss_cons (ps_if (pt_not (pt_val (pe_cal RT hr (pa_cons (pv 5) (pa_cons (pv 4) (pa_cons (pv 6) (pa_cons (pv 6) (pa_cons (pe_tup pa_nil) pa_nil)))))))) pss_never pss_nil)
      (pss_cons (ps_set (i := 8) nd rfl (.inl rfl) (pe_cal RW hr (pa_cons (pv 1) (pa_cons (pv 3) (pa_cons pe_int pa_nil)))))
      (pss_cons (ps_set (i := 9) nd rfl (.inl rfl) (pe_cal MX hr (pa_cons (pv 1) (pa_cons (pv 5) (pa_cons (pv 8) (pa_cons pe_int pa_nil))))))
      (pss_cons (ps_set (i := 10) nd rfl (.inl rfl) (pe_slice (sl_tN K) (pv 9) po_none (po_some (pe_cal DR hr (pa_cons (pv 1) (pa_cons (pe_op op_add (pe_callB (call_ln K) (by rfl) T.b_len PySem.boot_len (pa_cons (pv 9) pa_nil)) pe_int) pa_nil))))))
      (pss_cons (ps_set (i := 11) nd rfl (.inl rfl) (pe_cal LF hr (pa_cons (pv 5) (pa_cons (pv 10) (pa_cons (pv 8) pa_nil)))))
      (pss_cons (ps_if (PW.pt (pw_or (pt_cmpR op_isN (pv 11) pe_non (nomark _)) (pw_or1 (pt_not (pt_val (pe_cal RT hr (pa_cons (pv 5) (pa_cons (pv 4) (pa_cons (pv 10) (pa_cons (pv 8) (pa_cons (pv 11) pa_nil))))))))))) pss_never pss_nil)
      (pss_cons (ps_if (pt_not (pt_val (pe_cal AL hr (pa_cons (pv 4) (pa_cons (pe_op (op_catK K) (pv 10) (pv 11)) (pa_cons (pv 8) pa_nil)))))) pss_never pss_nil)
      (pss_cons (ps_set (i := 12) nd rfl (.inl rfl) (pe_slice (sl_tN K) (pe_cal CH hr (pa_cons (pv 1) (pa_cons (pv 5) (pa_cons (pv 10) pa_nil)))) po_none (po_some pe_int)))
      (pss_cons (ps_if (pt_not (pt_val (pe_cal RT hr (pa_cons (pv 5) (pa_cons (pv 4) (pa_cons (pv 12) (pa_cons (pv 8) (pa_cons (pe_cal LF hr (pa_cons (pv 5) (pa_cons (pv 12) (pa_cons (pv 8) pa_nil)))) pa_nil)))))))) pss_never pss_nil)
      (pss_one (ps_if (pt_cmpR op_isnot_bl (pe_cal BG hr (pa_cons (pv 4) (pa_cons (pe_slice (sl_tN K) (pv 10) po_none (po_some pe_int)) (pa_cons (pv 8) pa_nil)))) pe_bl (nomark _)) pss_never pss_nil))))))))))))))))))
      (pss_one (ps_ret pe_bl)))), ?_⟩
    refine ⟨_, rfl, a, sns, rfl, hq, fun H0 d l _ _ D0 => ?_⟩
    refine ⟨3, rfl, by decide, by decide, for_range (lo := 0) (n := (3 : Int).toNat) (fun i σ H' => ∃ (y2 y3 y4 y5 y6 y7 y8 y9 y10 y11 y12 : Option V), σ = [some (.ref a), some (.ref d), y2, y3, y4, y5, y6, y7, y8, y9, y10, y11, y12] ∧ DL H' d l)
      ⟨_, _, _, _, _, _, _, _, _, _, _, rfl, D0⟩ ?_ ?_⟩
    · clear D0 hq
      rintro i σ H1 hi ⟨y2, y3, y4, y5, y6, y7, y8, y9, y10, y11, y12, rfl, D1⟩
      refine ⟨_, rfl, d, l, rfl, D1, fun H2 p D lots _ D2 hP => ?_⟩
      have mm := mm_meets lots
      have l1 := hP.ok.l1
      have l10 := hP.ok.l10
      refine ⟨_, rfl, p, D, lots, rfl, hP, fun H3 x s3 O3 => ?_⟩
      refine ⟨_, rfl, p, D, lots, rfl, hP.same s3, fun H4 nl s4 M4 => ?_⟩
      refine ⟨_, rfl, _, rfl, d, l, p, 6, D, lots, rfl, (D2.same s3).same s4, (hP.same s3).same s4, by decide, by decide, fun H5 wh ws s5 D5 hw wi wl => ?_⟩
      have O5 := (O3.same s4).stay s5
      have M5 := M4.stay s5
      have P5 := ((hP.same s3).same s4).stay s5
      have wl6 : ws.length ≤ 6 := wl
      -- the five changes
      refine ⟨5, rfl, by decide, by decide, for_range (lo := 0) (n := (5 : Int).toNat) (fun j σ H' => ∃ (y7 y9 y10 y11 : Option V), σ = [some (.ref a), some (.ref d), some (.int ((0 : Int) + (i : Nat))), some (.ref p), some (.ref x), some (.ref nl), some (.ref wh), y7, y8, y9, y10, y11, y12] ∧ Stay H5 H' ∧ DL H' d l)
        ⟨_, _, _, _, rfl, .refl _, D5⟩ ?_ ?_⟩
      · rintro j σ H6 hj ⟨y7, y9, y10, y11, rfl, s6, D6⟩
        refine ⟨_, rfl, _, rfl, _, rfl, d, l, nl, wh, 8, _, _, ws, rfl, D6, M5.stay s6, (hw.stay s6).row, wi, by omega, by decide, by decide, fun H7 b1 os s7 D7 hb1 al => ?_⟩
        have ol := al.length
        have oi := wi.al al
        refine ⟨_, rfl, _, rfl, _, rfl, b1, _, rfl, .inr hb1.row.sq, _, _, rfl, rfl, d, l, _, rfl, D7, ?_, ?_, fun H8 r s8 D8 r0 r1 => ?_⟩
        · rw [List.length_map]
          omega
        · rw [List.length_map]
          omega
        obtain ⟨k, rfl⟩ : ∃ k : Nat, r = (k : Int) := ⟨r.toNat, by omega⟩
        refine ⟨(k : Int), rfl, slN_to (hb1.stay s8) k fun b2 H9 s9 hb2 => ?_⟩
        have t9 : Stay H5 H9 := ((s6.trans s7).trans s8).thenS s9
        have D9 := D8.same s9
        -- the change
        refine ⟨fun σ' H' => ∃ (b : Addr) (rs : List Int), σ' = [some (.ref a), some (.ref d), some (.int ((0 : Int) + (i : Nat))), some (.ref p), some (.ref x), some (.ref nl), some (.ref wh), some (.int ((0 : Int) + (j : Nat))), y8, some (.ref b1), some (.ref b), y11, y12] ∧
          Stay H5 H' ∧ DL H' d l ∧ RowN H' b rs ∧ RowIn lots.length rs ∧ rs.length ≤ 6, ?_, ?_⟩
        · refine ⟨_, rfl, d, l, 3, rfl, D9, by decide, by decide, fun H10 r s10 D10 _ _ => ⟨rfl, _, rfl, ite2 (fun _ => ?_) (fun _ => ?_)⟩⟩
          · refine ⟨_, rfl, _, rfl, _, rfl, d, l, nl, b2, _, _, _, rfl, D10, M5.stay (t9.trans s10), (hb2.stay s10).row, oi.take k, ?_, l1, l10, fun H11 b3 rs s11 D11 hb3 ri rl => ?_⟩
            · rw [List.length_take]
              omega
            refine ⟨(6 : Int), rfl, slN_to hb3 6 fun b4 H12 s12 hb4 => ?_⟩
            refine ⟨b4, _, rfl, ((t9.trans s10).trans s11).thenS s12, D11.same s12, hb4, ri.take 6, ?_⟩
            rw [List.length_take]
            omega
          · refine ⟨b2, _, rfl, t9.trans s10, D10, hb2.stay s10, oi.take k, ?_⟩
            rw [List.length_take]
            omega
        rintro σ2 H10 ⟨b, rs, rfl, t10, D10, hb, ri, rl⟩
        refine ⟨_, rfl, _, rfl, _, rfl, nl, b, wh, _, _, rs, ws, rfl, M5.stay t10, mm, hb.row, (hw.stay t10).row, ri, wi, rl, wl6, l10, fun H11 v s11 hv => ?_⟩
        have t11 := t10.thenS s11
        refine ⟨_, rfl, _, rfl, _, rfl, _, rfl, nl, b, wh, _, _, rs, ws, rfl, M5.stay t11, mm, (hb.same s11).row, (hw.stay t11).row, ri, wi, by omega, by omega, fun H12 u s12 hu => ?_⟩
        have t12 := t11.thenS s12
        refine ne_rows (hv.same s12) hu ⟨false, ?_, iteF ?_⟩
        · exact congrArg V.bl (by rw [decide_eq_true rfl]; rfl)
        refine ⟨_, rfl, _, rfl, _, rfl, _, rfl, _, rfl, _, x, b, wh, v, _, _, rs, ws, rfl, O5.stay t12, mm, ((hb.same s11).same s12).row, hw.stay t12, ri, wi, by omega, by omega, hv.same s12, fun H13 s13 => ⟨true, rfl, iteF ?_⟩⟩
        exact ⟨_, _, _, _, rfl, t12.thenS s13, ((D10.same s11).same s12).same s13⟩
      · rintro σ H6 ⟨y7, y9, y10, y11, rfl, s6, D6⟩
        have M6 := M5.stay s6
        have O6 := O5.stay s6
        have P6 := P5.stay s6
        have w6 := hw.stay s6
        -- nothing, all
        refine ⟨_, rfl, _, rfl, Nat.zero_le _, fun t nt => ?_⟩
        have st : Same H6 (upd H6 t (.tup [])) := same_new nt
        have ht : Row (upd H6 t (.tup [])) t [] := .inl upd_same
        generalize upd H6 t (.tup []) = H7 at st ht
        refine ⟨_, rfl, _, rfl, _, rfl, nl, wh, _, _, ws, rfl, M6.same st, (w6.same st).row, wi, by omega, fun H8 b s8 hb => ?_⟩
        have t8 := st.trans s8
        refine ⟨_, x, t, wh, _, _, _, [], ws, rfl, O6.same t8, mm, ht.same s8, w6.same t8, (fun _ h => nomatch h), wi, Nat.zero_le _, by omega, ⟨b, rfl, hb⟩, fun H9 s9 => ⟨true, rfl, iteF ?_⟩⟩
        have t9 := t8.trans s9
        refine ⟨_, rfl, _, rfl, _, rfl, _, rfl, Nat.zero_le _, fun t2 nt2 => ?_⟩
        have st2 : Same H9 (upd H9 t2 (.tup [])) := same_new nt2
        have ht2 : Row (upd H9 t2 (.tup [])) t2 [] := .inl upd_same
        generalize upd H9 t2 (.tup []) = H10 at st2 ht2
        have t10 := t9.trans st2
        refine ⟨_, x, wh, wh, _, _, _, ws, ws, rfl, O6.same t10, mm, (w6.same t10).row, w6.same t10, wi, wi, by omega, by omega, by rw [due_whole mm.r mm.s]; exact ⟨t2, rfl, ht2⟩, fun H11 s11 => ⟨true, rfl, iteF ?_⟩⟩
        have t11 := t10.trans s11
        -- far
        refine ⟨_, rfl, _, rfl, d, l, p, 60, D, lots, rfl, D6.same t11, P6.same t11, by decide, by decide, fun H12 fa fs s12 D12 hf fi fl => ?_⟩
        have fl60 : fs.length ≤ 60 := fl
        have t12 : Stay H6 H12 := (Stay.of t11).trans s12
        refine ⟨_, rfl, _, rfl, _, rfl, d, l, nl, fa, 80, _, _, fs, rfl, D12, M6.stay t12, hf.row, fi, by omega, by decide, by decide, fun H13 b1 os s13 D13 hb1 al => ?_⟩
        have ol := al.length
        have oi := fi.al al
        refine ⟨_, rfl, _, rfl, _, rfl, b1, _, rfl, .inr hb1.row.sq, _, _, rfl, rfl, d, l, _, rfl, D13, ?_, ?_, fun H14 r s14 D14 r0 r1 => ?_⟩
        · rw [List.length_map]
          omega
        · rw [List.length_map]
          omega
        obtain ⟨k, rfl⟩ : ∃ k : Nat, r = (k : Int) := ⟨r.toNat, by omega⟩
        refine ⟨(k : Int), rfl, slN_to (hb1.stay s14) k fun b2 H15 s15 hb2 => ?_⟩
        have t15 : Stay H6 H15 := ((t12.trans s13).trans s14).thenS s15
        have f15 : RowN H15 fa fs := ((hf.stay s13).stay s14).same s15
        have kl : (os.take k).length ≤ 60 := by rw [List.length_take]; omega
        obtain ⟨rr, e1, _⟩ := left_pre mm.r mm.s (al.symm mm.s) k
        have hdue : due (MM lots) (os.take k) fs = some (least (MM lots) rr) := by
          unfold due
          rw [e1]
          rfl
        have hal := (due_some mm.r mm.s hdue).1
        have hlen := hal.length
        rw [List.length_append] at hlen
        have hlea := due_alike mm.r mm.s hdue
        refine ⟨_, rfl, _, rfl, _, rfl, nl, b2, fa, _, _, _, fs, rfl, M6.stay t15, mm, hb2.row, f15.row, oi.take k, fi, by omega, by omega, fun H16 v s16 hv => ?_⟩
        have t16 := t15.thenS s16
        have hv2 := hv
        rw [hdue] at hv2
        obtain ⟨dv, rfl, hdv⟩ := hv2
        refine ⟨_, rfl, rfl, false, rfl, iteF ?_⟩
        refine ⟨_, rfl, _, rfl, _, rfl, _, rfl, _, rfl, _, x, b2, fa, _, _, _, _, fs, rfl, O6.stay t16, mm, (hb2.same s16).row, f15.same s16, oi.take k, fi, by omega, by omega, hv, fun H17 s17 => ⟨true, rfl, iteF ?_⟩⟩
        have t17 := t16.thenS s17
        refine ⟨_, rfl, _, rfl, _, rfl, cat_rows ((hb2.same s16).same s17).row (hdv.same s17) (by omega) fun c H18 s18 hc => ?_⟩
        have t18 := t17.thenS s18
        have f18 := ((f15.same s16).same s17).same s18
        refine ⟨_, rfl, x, c, fa, _, _, _, fs, rfl, O6.stay t18, mm, hc, f18.row, fi.al hal, fi, by rw [List.length_append]; omega, by rw [List.length_append]; omega, hlea, fun H19 s19 => ⟨true, rfl, iteF ?_⟩⟩
        have t19 := t18.thenS s19
        have s1619 : Same H15 H19 := ((s16.trans s17).trans s18).trans s19
        have b219 := hb2.same s1619
        -- more
        refine ⟨_, rfl, _, rfl, _, rfl, d, l, nl, b2, _, _, _, rfl, (D14.same s15).same s1619, M6.stay t19, b219.row, oi.take k, by omega, l1, l10, fun H20 b3 rs s20 D20 hb3 ri rl => ?_⟩
        refine ⟨(60 : Int), rfl, slN_to hb3 60 fun b4 H21 s21 hb4 => ?_⟩
        have t21 : Stay H6 H21 := (t19.trans s20).thenS s21
        have f21 := ((f15.same s1619).stay s20).same s21
        have b221 := (b219.stay s20).same s21
        have ml : (rs.take 60).length ≤ 60 := by rw [List.length_take]; omega
        refine ⟨_, rfl, _, rfl, _, rfl, _, rfl, _, rfl, _, rfl, _, rfl, nl, b4, fa, _, _, _, fs, rfl, M6.stay t21, mm, hb4.row, f21.row, ri.take 60, fi, by omega, by omega, fun H22 u s22 hu => ?_⟩
        have t22 := t21.thenS s22
        refine ⟨_, x, b4, fa, _, _, _, _, fs, rfl, O6.stay t22, mm, (hb4.same s22).row, f21.same s22, ri.take 60, fi, by omega, by omega, hu, fun H23 s23 => ⟨true, rfl, iteF ?_⟩⟩
        have s2223 := s22.trans s23
        have t23 := t21.thenS s2223
        -- two of them begin
        refine ⟨_, rfl, _, rfl, (2 : Int), rfl, slN_to (b221.same s2223) 2 fun b5 H24 s24 hb5 => ?_⟩
        have t24 := t23.thenS s24
        have e2 : (os.take k).take 2 = os.take (min 2 k) := List.take_take
        obtain ⟨r2, e3, _⟩ := left_pre mm.r mm.s (al.symm mm.s) (min 2 k)
        rw [← e2] at e3
        refine ⟨_, rfl, x, b5, fa, _, _, _, fs, rfl, O6.stay t24, mm, hb5.row, (f21.same s2223).same s24, (oi.take k).take 2, fi, by rw [List.length_take]; omega, by omega, fun H25 s25 => ?_⟩
        refine ⟨_, true, rfl, rfl, false, ?_, iteF ?_⟩
        · rw [e3]
          exact congrArg V.bl (by rw [decide_eq_true (show (some r2).isSome = true from rfl)]; rfl)
        exact ⟨_, _, _, _, _, _, _, _, _, _, _, rfl, ((D20.same s21).same s2223).same (s24.trans s25)⟩
    · rintro σ H' ⟨y2, y3, y4, y5, y6, y7, y8, y9, y10, y11, y12, rfl, D1⟩
      exact q H'
end
end LW
/-! What the top has written, the law's own head. -/
namespace LW
open PySem PySem.Spec PyProof.Rows L2
theorem law_mk {P : Program} {w : World} {fa : Addr} {K : PySem.W.Frag} {h : Heap} {mg : Str → Option Value} (X : K.In h) (G : h.Ns mainGlobals mg) (hfa : mg "law" = some (.ref fa))
    {C : Addr} {f0 : Addr} {od0 an0 : Option Addr} {sl0 : Array (Option Value)} {oc0 kV0 dc0 pm0 cd0 ct0 : Value}
    {f1 : Addr} {od1 an1 : Option Addr} {sl1 : Array (Option Value)} {oc1 kV1 dc1 pm1 cd1 ct1 : Value}
    {f2 : Addr} {od2 an2 : Option Addr} {sl2 : Array (Option Value)} {oc2 kV2 dc2 pm2 cd2 ct2 : Value}
    {f3 : Addr} {od3 an3 : Option Addr} {sl3 : Array (Option Value)} {oc3 kV3 dc3 pm3 cd3 ct3 : Value}
    {f4 : Addr} {od4 an4 : Option Addr} {sl4 : Array (Option Value)} {oc4 kV4 dc4 pm4 cd4 ct4 : Value}
    {f5 : Addr} {od5 an5 : Option Addr} {sl5 : Array (Option Value)} {oc5 kV5 dc5 pm5 cd5 ct5 : Value}
    {f6 : Addr} {od6 an6 : Option Addr} {sl6 : Array (Option Value)} {oc6 kV6 dc6 pm6 cd6 ct6 : Value}
    {f7 : Addr} {od7 an7 : Option Addr} {sl7 : Array (Option Value)} {oc7 kV7 dc7 pm7 cd7 ct7 : Value}
    {f8 : Addr} {od8 an8 : Option Addr} {sl8 : Array (Option Value)} {oc8 kV8 dc8 pm8 cd8 ct8 : Value}
    {f9 : Addr} {od9 an9 : Option Addr} {sl9 : Array (Option Value)} {oc9 kV9 dc9 pm9 cd9 ct9 : Value}
    {f10 : Addr} {od10 an10 : Option Addr} {sl10 : Array (Option Value)} {oc10 kV10 dc10 pm10 cd10 ct10 : Value}
    {f11 : Addr} {od11 an11 : Option Addr} {sl11 : Array (Option Value)} {oc11 kV11 dc11 pm11 cd11 ct11 : Value}
    {f12 : Addr} {od12 an12 : Option Addr} {sl12 : Array (Option Value)} {oc12 kV12 dc12 pm12 cd12 ct12 : Value}
    {f13 : Addr} {od13 an13 : Option Addr} {sl13 : Array (Option Value)} {oc13 kV13 dc13 pm13 cd13 ct13 : Value}
    {f14 : Addr} {od14 an14 : Option Addr} {sl14 : Array (Option Value)} {oc14 kV14 dc14 pm14 cd14 ct14 : Value}
    {f15 : Addr} {od15 an15 : Option Addr} {sl15 : Array (Option Value)} {oc15 kV15 dc15 pm15 cd15 ct15 : Value}
    {f16 : Addr} {od16 an16 : Option Addr} {sl16 : Array (Option Value)} {oc16 kV16 dc16 pm16 cd16 ct16 : Value}
    {f17 : Addr} {od17 an17 : Option Addr} {sl17 : Array (Option Value)} {oc17 kV17 dc17 pm17 cd17 ct17 : Value}
    {f18 : Addr} {od18 an18 : Option Addr} {sl18 : Array (Option Value)} {oc18 kV18 dc18 pm18 cd18 ct18 : Value}
    {f19 : Addr} {od19 an19 : Option Addr} {sl19 : Array (Option Value)} {oc19 kV19 dc19 pm19 cd19 ct19 : Value}
    {f20 : Addr} {od20 an20 : Option Addr} {sl20 : Array (Option Value)} {oc20 kV20 dc20 pm20 cd20 ct20 : Value}
    {f21 : Addr} {od21 an21 : Option Addr} {sl21 : Array (Option Value)} {oc21 kV21 dc21 pm21 cd21 ct21 : Value}
    {f22 : Addr} {od22 an22 : Option Addr} {sl22 : Array (Option Value)} {oc22 kV22 dc22 pm22 cd22 ct22 : Value}
    {f23 : Addr} {od23 an23 : Option Addr} {sl23 : Array (Option Value)} {oc23 kV23 dc23 pm23 cd23 ct23 : Value}
    {f24 : Addr} {od24 an24 : Option Addr} {sl24 : Array (Option Value)} {oc24 kV24 dc24 pm24 cd24 ct24 : Value}
    {f25 : Addr} {od25 an25 : Option Addr} {sl25 : Array (Option Value)} {oc25 kV25 dc25 pm25 cd25 ct25 : Value}
    {f26 : Addr} {od26 an26 : Option Addr} {sl26 : Array (Option Value)} {oc26 kV26 dc26 pm26 cd26 ct26 : Value}
    {f27 : Addr} {od27 an27 : Option Addr} {sl27 : Array (Option Value)} {oc27 kV27 dc27 pm27 cd27 ct27 : Value}
    {f28 : Addr} {od28 an28 : Option Addr} {sl28 : Array (Option Value)} {oc28 kV28 dc28 pm28 cd28 ct28 : Value}
    {f29 : Addr} {od29 an29 : Option Addr} {sl29 : Array (Option Value)} {oc29 kV29 dc29 pm29 cd29 ct29 : Value}
    {f30 : Addr} {od30 an30 : Option Addr} {sl30 : Array (Option Value)} {oc30 kV30 dc30 pm30 cd30 ct30 : Value}
    {f31 : Addr} {od31 an31 : Option Addr} {sl31 : Array (Option Value)} {oc31 kV31 dc31 pm31 cd31 ct31 : Value}
    {f32 : Addr} {od32 an32 : Option Addr} {sl32 : Array (Option Value)} {oc32 kV32 dc32 pm32 cd32 ct32 : Value}
    {f33 : Addr} {od33 an33 : Option Addr} {sl33 : Array (Option Value)} {oc33 kV33 dc33 pm33 cd33 ct33 : Value}
    {f34 : Addr} {od34 an34 : Option Addr} {sl34 : Array (Option Value)} {oc34 kV34 dc34 pm34 cd34 ct34 : Value}
    {f35 : Addr} {od35 an35 : Option Addr} {sl35 : Array (Option Value)} {oc35 kV35 dc35 pm35 cd35 ct35 : Value}
    {f36 : Addr} {od36 an36 : Option Addr} {sl36 : Array (Option Value)} {oc36 kV36 dc36 pm36 cd36 ct36 : Value}
    {t_MOST_DESKS : Tok}
    {t_MOST_WORKS : Tok}
    (a0 : PySem.W.nsIn K mainGlobals "is_integer" = some (some (.ref f0)))
    (l0 : K.lookup f0 = some ⟨oc0, od0, .func (PySem.W.fnOf "is_integer" "is_integer" (defArgs t_is_integer) (defBody t_is_integer) (defScope t_is_integer) .none kV0 dc0 pm0 an0 cd0 ct0), sl0⟩) (c0 : PySem.W.codeIn K cd0 "is_integer" = true) (k0 : PySem.W.keepIn K (.ref f0) = true)
    (a1 : PySem.W.nsIn K mainGlobals "is_within" = some (some (.ref f1)))
    (l1 : K.lookup f1 = some ⟨oc1, od1, .func (PySem.W.fnOf "is_within" "is_within" (defArgs t_is_within) (defBody t_is_within) (defScope t_is_within) .none kV1 dc1 pm1 an1 cd1 ct1), sl1⟩) (c1 : PySem.W.codeIn K cd1 "is_within" = true) (k1 : PySem.W.keepIn K (.ref f1) = true)
    (a2 : PySem.W.nsIn K mainGlobals "is_lot" = some (some (.ref f2)))
    (l2 : K.lookup f2 = some ⟨oc2, od2, .func (PySem.W.fnOf "is_lot" "is_lot" (defArgs t_is_lot) (defBody t_is_lot) (defScope t_is_lot) .none kV2 dc2 pm2 an2 cd2 ct2), sl2⟩) (c2 : PySem.W.codeIn K cd2 "is_lot" = true) (k2 : PySem.W.keepIn K (.ref f2) = true)
    (a3 : PySem.W.nsIn K mainGlobals "are_works" = some (some (.ref f3)))
    (l3 : K.lookup f3 = some ⟨oc3, od3, .func (PySem.W.fnOf "are_works" "are_works" (defArgs t_are_works) (defBody t_are_works) (defScope t_are_works) .none kV3 dc3 pm3 an3 cd3 ct3), sl3⟩) (c3 : PySem.W.codeIn K cd3 "are_works" = true) (k3 : PySem.W.keepIn K (.ref f3) = true)
    (aC : PySem.W.nsIn K mainGlobals "Office" = some (some (.ref C))) (a4 : PySem.W.findIn K (.ref C) "__init__" = some (some (.ref f4))) (i4 : PySem.W.isFn K (.ref f4) = true)
    (l4 : K.lookup f4 = some ⟨oc4, od4, .func (PySem.W.fnOf "__init__" "Office.__init__" (defArgs t_office) (defBody t_office) (defScope t_office) .none kV4 dc4 pm4 an4 cd4 ct4), sl4⟩) (c4 : PySem.W.codeIn K cd4 "Office.__init__" = true) (k4 : PySem.W.keepIn K (.ref f4) = true)
    (a5 : PySem.W.nsIn K mainGlobals "is_work" = some (some (.ref f5)))
    (l5 : K.lookup f5 = some ⟨oc5, od5, .func (PySem.W.fnOf "is_work" "is_work" (defArgs t_is_work) (defBody t_is_work) (defScope t_is_work) .none kV5 dc5 pm5 an5 cd5 ct5), sl5⟩) (c5 : PySem.W.codeIn K cd5 "is_work" = true) (k5 : PySem.W.keepIn K (.ref f5) = true)
    (a6 : PySem.W.nsIn K mainGlobals "is_row_of" = some (some (.ref f6)))
    (l6 : K.lookup f6 = some ⟨oc6, od6, .func (PySem.W.fnOf "is_row_of" "is_row_of" (defArgs t_is_row_of) (defBody t_is_row_of) (defScope t_is_row_of) .none kV6 dc6 pm6 an6 cd6 ct6), sl6⟩) (c6 : PySem.W.codeIn K cd6 "is_row_of" = true) (k6 : PySem.W.keepIn K (.ref f6) = true)
    (a7 : PySem.W.nsIn K mainGlobals "check_row" = some (some (.ref f7)))
    (l7 : K.lookup f7 = some ⟨oc7, od7, .func (PySem.W.fnOf "check_row" "check_row" (defArgs t_check_row) (defBody t_check_row) (defScope t_check_row) .none kV7 dc7 pm7 an7 cd7 ct7), sl7⟩) (c7 : PySem.W.codeIn K cd7 "check_row" = true) (k7 : PySem.W.keepIn K (.ref f7) = true)
    (a8 : PySem.W.nsIn K mainGlobals "can_begin" = some (some (.ref f8)))
    (l8 : K.lookup f8 = some ⟨oc8, od8, .func (PySem.W.fnOf "can_begin" "can_begin" (defArgs t_can_begin) (defBody t_can_begin) (defScope t_can_begin) .none kV8 dc8 pm8 an8 cd8 ct8), sl8⟩) (c8 : PySem.W.codeIn K cd8 "can_begin" = true) (k8 : PySem.W.keepIn K (.ref f8) = true)
    (a9 : PySem.W.nsIn K mainGlobals "beginners" = some (some (.ref f9)))
    (l9 : K.lookup f9 = some ⟨oc9, od9, .func (PySem.W.fnOf "beginners" "beginners" (defArgs t_beginners) (defBody t_beginners) (defScope t_beginners) .none kV9 dc9 pm9 an9 cd9 ct9), sl9⟩) (c9 : PySem.W.codeIn K cd9 "beginners" = true) (k9 : PySem.W.keepIn K (.ref f9) = true)
    (a10 : PySem.W.nsIn K mainGlobals "least_of" = some (some (.ref f10)))
    (l10 : K.lookup f10 = some ⟨oc10, od10, .func (PySem.W.fnOf "least_of" "least_of" (defArgs t_least_of) (defBody t_least_of) (defScope t_least_of) .none kV10 dc10 pm10 an10 cd10 ct10), sl10⟩) (c10 : PySem.W.codeIn K cd10 "least_of" = true) (k10 : PySem.W.keepIn K (.ref f10) = true)
    (a11 : PySem.W.nsIn K mainGlobals "are_alike" = some (some (.ref f11)))
    (l11 : K.lookup f11 = some ⟨oc11, od11, .func (PySem.W.fnOf "are_alike" "are_alike" (defArgs t_are_alike) (defBody t_are_alike) (defScope t_are_alike) .none kV11 dc11 pm11 an11 cd11 ct11), sl11⟩) (c11 : PySem.W.codeIn K cd11 "are_alike" = true) (k11 : PySem.W.keepIn K (.ref f11) = true)
    (a12 : PySem.W.nsIn K mainGlobals "alike" = some (some (.ref f12)))
    (l12 : K.lookup f12 = some ⟨oc12, od12, .func (PySem.W.fnOf "alike" "alike" (defArgs t_alike) (defBody t_alike) (defScope t_alike) .none kV12 dc12 pm12 an12 cd12 ct12), sl12⟩) (c12 : PySem.W.codeIn K cd12 "alike" = true) (k12 : PySem.W.keepIn K (.ref f12) = true)
    (a13 : PySem.W.nsIn K mainGlobals "rest_behind" = some (some (.ref f13)))
    (l13 : K.lookup f13 = some ⟨oc13, od13, .func (PySem.W.fnOf "rest_behind" "rest_behind" (defArgs t_rest_behind) (defBody t_rest_behind) (defScope t_rest_behind) .none kV13 dc13 pm13 an13 cd13 ct13), sl13⟩) (c13 : PySem.W.codeIn K cd13 "rest_behind" = true) (k13 : PySem.W.keepIn K (.ref f13) = true)
    (a14 : PySem.W.nsIn K mainGlobals "check_two" = some (some (.ref f14)))
    (l14 : K.lookup f14 = some ⟨oc14, od14, .func (PySem.W.fnOf "check_two" "check_two" (defArgs t_check_two) (defBody t_check_two) (defScope t_check_two) .none kV14 dc14 pm14 an14 cd14 ct14), sl14⟩) (c14 : PySem.W.codeIn K cd14 "check_two" = true) (k14 : PySem.W.keepIn K (.ref f14) = true)
    (a15 : PySem.W.nsIn K mainGlobals "begins" = some (some (.ref f15)))
    (l15 : K.lookup f15 = some ⟨oc15, od15, .func (PySem.W.fnOf "begins" "begins" (defArgs t_begins) (defBody t_begins) (defScope t_begins) .none kV15 dc15 pm15 an15 cd15 ct15), sl15⟩) (c15 : PySem.W.codeIn K cd15 "begins" = true) (k15 : PySem.W.keepIn K (.ref f15) = true)
    (a16 : PySem.W.nsIn K mainGlobals "gone_on" = some (some (.ref f16)))
    (l16 : K.lookup f16 = some ⟨oc16, od16, .func (PySem.W.fnOf "gone_on" "gone_on" (defArgs t_gone_on) (defBody t_gone_on) (defScope t_gone_on) .none kV16 dc16 pm16 an16 cd16 ct16), sl16⟩) (c16 : PySem.W.codeIn K cd16 "gone_on" = true) (k16 : PySem.W.keepIn K (.ref f16) = true)
    (a17 : PySem.W.nsIn K mainGlobals "_law_dice" = some (some (.ref f17)))
    (l17 : K.lookup f17 = some ⟨oc17, od17, .func (PySem.W.fnOf "_law_dice" "_law_dice" (defArgs t_l_dice) (defBody t_l_dice) (defScope t_l_dice) .none kV17 dc17 pm17 an17 cd17 ct17), sl17⟩) (c17 : PySem.W.codeIn K cd17 "_law_dice" = true) (k17 : PySem.W.keepIn K (.ref f17) = true)
    (a18 : PySem.W.nsIn K mainGlobals "_law_draw" = some (some (.ref f18)))
    (l18 : K.lookup f18 = some ⟨oc18, od18, .func (PySem.W.fnOf "_law_draw" "_law_draw" (defArgs t_l_draw) (defBody t_l_draw) (defScope t_l_draw) .none kV18 dc18 pm18 an18 cd18 ct18), sl18⟩) (c18 : PySem.W.codeIn K cd18 "_law_draw" = true) (k18 : PySem.W.keepIn K (.ref f18) = true)
    (a19 : PySem.W.nsIn K mainGlobals "_law_parts" = some (some (.ref f19)))
    (l19 : K.lookup f19 = some ⟨oc19, od19, .func (PySem.W.fnOf "_law_parts" "_law_parts" (defArgs t_l_parts) (defBody t_l_parts) (defScope t_l_parts) .none kV19 dc19 pm19 an19 cd19 ct19), sl19⟩) (c19 : PySem.W.codeIn K cd19 "_law_parts" = true) (k19 : PySem.W.keepIn K (.ref f19) = true)
    (a20 : PySem.W.nsIn K mainGlobals "_law_made" = some (some (.ref f20)))
    (l20 : K.lookup f20 = some ⟨oc20, od20, .func (PySem.W.fnOf "_law_made" "_law_made" (defArgs t_l_made) (defBody t_l_made) (defScope t_l_made) .none kV20 dc20 pm20 an20 cd20 ct20), sl20⟩) (c20 : PySem.W.codeIn K cd20 "_law_made" = true) (k20 : PySem.W.keepIn K (.ref f20) = true)
    (a21 : PySem.W.nsIn K mainGlobals "_law_some_parts" = some (some (.ref f21)))
    (l21 : K.lookup f21 = some ⟨oc21, od21, .func (PySem.W.fnOf "_law_some_parts" "_law_some_parts" (defArgs t_l_some_parts) (defBody t_l_some_parts) (defScope t_l_some_parts) .none kV21 dc21 pm21 an21 cd21 ct21), sl21⟩) (c21 : PySem.W.codeIn K cd21 "_law_some_parts" = true) (k21 : PySem.W.keepIn K (.ref f21) = true)
    (a22 : PySem.W.nsIn K mainGlobals "_law_row" = some (some (.ref f22)))
    (l22 : K.lookup f22 = some ⟨oc22, od22, .func (PySem.W.fnOf "_law_row" "_law_row" (defArgs t_l_row) (defBody t_l_row) (defScope t_l_row) .none kV22 dc22 pm22 an22 cd22 ct22), sl22⟩) (c22 : PySem.W.codeIn K cd22 "_law_row" = true) (k22 : PySem.W.keepIn K (.ref f22) = true)
    (a23 : PySem.W.nsIn K mainGlobals "_law_meets" = some (some (.ref f23)))
    (l23 : K.lookup f23 = some ⟨oc23, od23, .func (PySem.W.fnOf "_law_meets" "_law_meets" (defArgs t_l_meets) (defBody t_l_meets) (defScope t_l_meets) .none kV23 dc23 pm23 an23 cd23 ct23), sl23⟩) (c23 : PySem.W.codeIn K cd23 "_law_meets" = true) (k23 : PySem.W.keepIn K (.ref f23) = true)
    (a24 : PySem.W.nsIn K mainGlobals "_law_flag" = some (some (.ref f24)))
    (l24 : K.lookup f24 = some ⟨oc24, od24, .func (PySem.W.fnOf "_law_flag" "_law_flag" (defArgs t_l_flag) (defBody t_l_flag) (defScope t_l_flag) .none kV24 dc24 pm24 an24 cd24 ct24), sl24⟩) (c24 : PySem.W.codeIn K cd24 "_law_flag" = true) (k24 : PySem.W.keepIn K (.ref f24) = true)
    (a25 : PySem.W.nsIn K mainGlobals "_law_whole" = some (some (.ref f25)))
    (l25 : K.lookup f25 = some ⟨oc25, od25, .func (PySem.W.fnOf "_law_whole" "_law_whole" (defArgs t_l_whole) (defBody t_l_whole) (defScope t_l_whole) .none kV25 dc25 pm25 an25 cd25 ct25), sl25⟩) (c25 : PySem.W.codeIn K cd25 "_law_whole" = true) (k25 : PySem.W.keepIn K (.ref f25) = true)
    (a26 : PySem.W.nsIn K mainGlobals "_law_same" = some (some (.ref f26)))
    (l26 : K.lookup f26 = some ⟨oc26, od26, .func (PySem.W.fnOf "_law_same" "_law_same" (defArgs t_l_same) (defBody t_l_same) (defScope t_l_same) .none kV26 dc26 pm26 an26 cd26 ct26), sl26⟩) (c26 : PySem.W.codeIn K cd26 "_law_same" = true) (k26 : PySem.W.keepIn K (.ref f26) = true)
    (a27 : PySem.W.nsIn K mainGlobals "_law_near" = some (some (.ref f27)))
    (l27 : K.lookup f27 = some ⟨oc27, od27, .func (PySem.W.fnOf "_law_near" "_law_near" (defArgs t_l_near) (defBody t_l_near) (defScope t_l_near) .none kV27 dc27 pm27 an27 cd27 ct27), sl27⟩) (c27 : PySem.W.codeIn K cd27 "_law_near" = true) (k27 : PySem.W.keepIn K (.ref f27) = true)
    (a28 : PySem.W.nsIn K mainGlobals "_law_exchanged" = some (some (.ref f28)))
    (l28 : K.lookup f28 = some ⟨oc28, od28, .func (PySem.W.fnOf "_law_exchanged" "_law_exchanged" (defArgs t_l_exchanged) (defBody t_l_exchanged) (defScope t_l_exchanged) .none kV28 dc28 pm28 an28 cd28 ct28), sl28⟩) (c28 : PySem.W.codeIn K cd28 "_law_exchanged" = true) (k28 : PySem.W.keepIn K (.ref f28) = true)
    (a29 : PySem.W.nsIn K mainGlobals "_law_mixed" = some (some (.ref f29)))
    (l29 : K.lookup f29 = some ⟨oc29, od29, .func (PySem.W.fnOf "_law_mixed" "_law_mixed" (defArgs t_l_mixed) (defBody t_l_mixed) (defScope t_l_mixed) .none kV29 dc29 pm29 an29 cd29 ct29), sl29⟩) (c29 : PySem.W.codeIn K cd29 "_law_mixed" = true) (k29 : PySem.W.keepIn K (.ref f29) = true)
    (a30 : PySem.W.nsIn K mainGlobals "_law_changed" = some (some (.ref f30)))
    (l30 : K.lookup f30 = some ⟨oc30, od30, .func (PySem.W.fnOf "_law_changed" "_law_changed" (defArgs t_l_changed) (defBody t_l_changed) (defScope t_l_changed) .none kV30 dc30 pm30 an30 cd30 ct30), sl30⟩) (c30 : PySem.W.codeIn K cd30 "_law_changed" = true) (k30 : PySem.W.keepIn K (.ref f30) = true)
    (a31 : PySem.W.nsIn K mainGlobals "_law_free_at" = some (some (.ref f31)))
    (l31 : K.lookup f31 = some ⟨oc31, od31, .func (PySem.W.fnOf "_law_free_at" "_law_free_at" (defArgs t_l_free_at) (defBody t_l_free_at) (defScope t_l_free_at) .none kV31 dc31 pm31 an31 cd31 ct31), sl31⟩) (c31 : PySem.W.codeIn K cd31 "_law_free_at" = true) (k31 : PySem.W.keepIn K (.ref f31) = true)
    (a32 : PySem.W.nsIn K mainGlobals "_law_least" = some (some (.ref f32)))
    (l32 : K.lookup f32 = some ⟨oc32, od32, .func (PySem.W.fnOf "_law_least" "_law_least" (defArgs t_l_least) (defBody t_l_least) (defScope t_l_least) .none kV32 dc32 pm32 an32 cd32 ct32), sl32⟩) (c32 : PySem.W.codeIn K cd32 "_law_least" = true) (k32 : PySem.W.keepIn K (.ref f32) = true)
    (a33 : PySem.W.nsIn K mainGlobals "_law_left" = some (some (.ref f33)))
    (l33 : K.lookup f33 = some ⟨oc33, od33, .func (PySem.W.fnOf "_law_left" "_law_left" (defArgs t_l_left) (defBody t_l_left) (defScope t_l_left) .none kV33 dc33 pm33 an33 cd33 ct33), sl33⟩) (c33 : PySem.W.codeIn K cd33 "_law_left" = true) (k33 : PySem.W.keepIn K (.ref f33) = true)
    (a34 : PySem.W.nsIn K mainGlobals "_law_by_all" = some (some (.ref f34)))
    (l34 : K.lookup f34 = some ⟨oc34, od34, .func (PySem.W.fnOf "_law_by_all" "_law_by_all" (defArgs t_l_by_all) (defBody t_l_by_all) (defScope t_l_by_all) .none kV34 dc34 pm34 an34 cd34 ct34), sl34⟩) (c34 : PySem.W.codeIn K cd34 "_law_by_all" = true) (k34 : PySem.W.keepIn K (.ref f34) = true)
    (a35 : PySem.W.nsIn K mainGlobals "_law_right" = some (some (.ref f35)))
    (l35 : K.lookup f35 = some ⟨oc35, od35, .func (PySem.W.fnOf "_law_right" "_law_right" (defArgs t_l_right) (defBody t_l_right) (defScope t_l_right) .none kV35 dc35 pm35 an35 cd35 ct35), sl35⟩) (c35 : PySem.W.codeIn K cd35 "_law_right" = true) (k35 : PySem.W.keepIn K (.ref f35) = true)
    (a36 : PySem.W.nsIn K mainGlobals "law" = some (some (.ref f36)))
    (l36 : K.lookup f36 = some ⟨oc36, od36, .func (PySem.W.fnOf "law" "law" (defArgs t_law) (defBody t_law) (defScope t_law) .none kV36 dc36 pm36 an36 cd36 ct36), sl36⟩) (c36 : PySem.W.codeIn K cd36 "law" = true) (k36 : PySem.W.keepIn K (.ref f36) = true)
    (z_MOST_DESKS : PySem.W.nsIn K mainGlobals "MOST_DESKS" = some (some (.int 6 t_MOST_DESKS)))
    (z_MOST_WORKS : PySem.W.nsIn K mainGlobals "MOST_WORKS" = some (some (.int 10 t_MOST_WORKS)))
    (y_isinstance : PySem.W.nsIn K mainGlobals "isinstance" = some none)
    (y_all : PySem.W.nsIn K mainGlobals "all" = some none)
    (y_any : PySem.W.nsIn K mainGlobals "any" = some none)
    (y_len : PySem.W.nsIn K mainGlobals "len" = some none)
    (y_range : PySem.W.nsIn K mainGlobals "range" = some none)
    (y_tuple : PySem.W.nsIn K mainGlobals "tuple" = some none)
    (y_enumerate : PySem.W.nsIn K mainGlobals "enumerate" = some none)
    (y_list : PySem.W.nsIn K mainGlobals "list" = some none)
    (y_sorted : PySem.W.nsIn K mainGlobals "sorted" = some none)
    (y_abs : PySem.W.nsIn K mainGlobals "abs" = some none)
    (y_int : PySem.W.nsIn K mainGlobals "int" = some none)
    (y_set : PySem.W.nsIn K mainGlobals "set" = some none)
    (y_min : PySem.W.nsIn K mainGlobals "min" = some none)
    (y_bool : PySem.W.nsIn K mainGlobals "bool" = some none)
    (y_str : PySem.W.nsIn K mainGlobals "str" = some none)
    (pg : PySem.W.plainGet K C Str.empty = true) (hd : PySem.W.hasDictIn K C = true) (po : PySem.W.plainOver K C = true) (sa : PySem.W.findIn K (.ref C) "__setattr__" = some (some (.builtin "object.__setattr__"))) (mk : PySem.W.makesIn K C = true) (kc : PySem.W.keepIn K (.ref C) = true)
    (nf_desks : PySem.W.findIn K (.ref C) "desks" = some none)
    (nf_works : PySem.W.findIn K (.ref C) "works" = some none)
    (nf_kept_own : PySem.W.findIn K (.ref C) "kept_own" = some none)
    (nf_kept_meets : PySem.W.findIn K (.ref C) "kept_meets" = some none) :
    ∃ fd : FuncData, (∀ (s : Shared) (v : Value), BindsTo s fd ⟨[v], []⟩ [("_law_script", v)]) ∧ ∀ base : Heap, K.In base → base.Ns mainGlobals mg → FnOk P w K mg base CX0 9 fa fd ["_law_script"] (spLaw K) := by
  have T := top_mk X G a0 l0 c0 k0 a1 l1 c1 k1 a2 l2 c2 k2 a3 l3 c3 k3 aC a4 i4 l4 c4 k4 a5 l5 c5 k5 a6 l6 c6 k6 a7 l7 c7 k7 a8 l8 c8 k8 a9 l9 c9 k9 a10 l10 c10 k10 a11 l11 c11 k11 a12 l12 c12 k12 a13 l13 c13 k13 a14 l14 c14 k14 a15 l15 c15 k15 a16 l16 c16 k16 a17 l17 c17 k17 a18 l18 c18 k18 a19 l19 c19 k19 a20 l20 c20 k20 a21 l21 c21 k21 a22 l22 c22 k22 a23 l23 c23 k23 a24 l24 c24 k24 a25 l25 c25 k25 a26 l26 c26 k26 a27 l27 c27 k27 a28 l28 c28 k28 a29 l29 c29 k29 a30 l30 c30 k30 a31 l31 c31 k31 a32 l32 c32 k32 a33 l33 c33 k33 a34 l34 c34 k34 a35 l35 c35 k35 a36 l36 c36 k36 z_MOST_DESKS z_MOST_WORKS y_isinstance y_all y_any y_len y_range y_tuple y_enumerate y_list y_sorted y_abs y_int y_set y_min y_bool y_str pg hd po sa mk kc nf_desks nf_works nf_kept_own nf_kept_meets
  have e := hfa.symm.trans (PySem.W.mg_of X G a36)
  cases e
  have F := fun_mk (st := t_law) l36 c36 k36
  exact ⟨PySem.W.fnOf "law" "law" (defArgs t_law) (defBody t_law) (defScope t_law) .none kV36 dc36 pm36 an36 cd36 ct36, fun s v => .of_eq rfl, fun base _ _ => ok_law T F⟩
end LW
open PySem PySem.W PyProof.Rows
set_option maxRecDepth 100000 in
set_option maxHeartbeats 0 in
theorem PySem.Challenge.cw_latestword_k12_whole_begins_and_goes_on_holds : PySem.Challenge.rw_latestword_k12_whole_begins_and_goes_on.Holds := by
  w_on; o_law; k_head; (case hw => w_witness2)
  k_fill
  refine L2.walk_of (l := PySem.Challenge.rw_latestword_k12_whole_begins_and_goes_on) (n := 63) (k := 9) (x := "_law_script") (CX := fun _ => L2.CX0) (sp := fun w => LW.spLaw _) rfl (by decide) rfl ⟨rfl, by decide, by decide⟩ (fun w h Y => PySem.W.kIn_of Y) ?F (fun _ _ a ns _ _ hS => ⟨a, ns, rfl, hS, fun _ => rfl⟩) (fun _ _ _ _ _ z => z)
  case F =>
    intro w mg fa h KX G hmg
    refine' LW.law_mk KX G hmg ?a0 ?l0 ?c0 ?k0 ?a1 ?l1 ?c1 ?k1 ?a2 ?l2 ?c2 ?k2 ?a3 ?l3 ?c3 ?k3 ?aC ?a4 ?i4 ?l4 ?c4 ?k4 ?a5 ?l5 ?c5 ?k5 ?a6 ?l6 ?c6 ?k6 ?a7 ?l7 ?c7 ?k7 ?a8 ?l8 ?c8 ?k8 ?a9 ?l9 ?c9 ?k9 ?a10 ?l10 ?c10 ?k10 ?a11 ?l11 ?c11 ?k11 ?a12 ?l12 ?c12 ?k12 ?a13 ?l13 ?c13 ?k13 ?a14 ?l14 ?c14 ?k14 ?a15 ?l15 ?c15 ?k15 ?a16 ?l16 ?c16 ?k16 ?a17 ?l17 ?c17 ?k17 ?a18 ?l18 ?c18 ?k18 ?a19 ?l19 ?c19 ?k19 ?a20 ?l20 ?c20 ?k20 ?a21 ?l21 ?c21 ?k21 ?a22 ?l22 ?c22 ?k22 ?a23 ?l23 ?c23 ?k23 ?a24 ?l24 ?c24 ?k24 ?a25 ?l25 ?c25 ?k25 ?a26 ?l26 ?c26 ?k26 ?a27 ?l27 ?c27 ?k27 ?a28 ?l28 ?c28 ?k28 ?a29 ?l29 ?c29 ?k29 ?a30 ?l30 ?c30 ?k30 ?a31 ?l31 ?c31 ?k31 ?a32 ?l32 ?c32 ?k32 ?a33 ?l33 ?c33 ?k33 ?a34 ?l34 ?c34 ?k34 ?a35 ?l35 ?c35 ?k35 ?a36 ?l36 ?c36 ?k36 ?z_MOST_DESKS ?z_MOST_WORKS ?y_isinstance ?y_all ?y_any ?y_len ?y_range ?y_tuple ?y_enumerate ?y_list ?y_sorted ?y_abs ?y_int ?y_set ?y_min ?y_bool ?y_str ?pg ?hd ?po ?sa ?mk ?kc ?nf_desks ?nf_works ?nf_kept_own ?nf_kept_meets
    (case a0 => k_is)
    (case l0 => k_is)
    (case c0 => k_is)
    (case k0 => k_is)
    (case a1 => k_is)
    (case l1 => k_is)
    (case c1 => k_is)
    (case k1 => k_is)
    (case a2 => k_is)
    (case l2 => k_is)
    (case c2 => k_is)
    (case k2 => k_is)
    (case a3 => k_is)
    (case l3 => k_is)
    (case c3 => k_is)
    (case k3 => k_is)
    (case aC => k_is)
    (case a4 => k_is)
    (case i4 => k_is)
    (case l4 => k_is)
    (case c4 => k_is)
    (case k4 => k_is)
    (case a5 => k_is)
    (case l5 => k_is)
    (case c5 => k_is)
    (case k5 => k_is)
    (case a6 => k_is)
    (case l6 => k_is)
    (case c6 => k_is)
    (case k6 => k_is)
    (case a7 => k_is)
    (case l7 => k_is)
    (case c7 => k_is)
    (case k7 => k_is)
    (case a8 => k_is)
    (case l8 => k_is)
    (case c8 => k_is)
    (case k8 => k_is)
    (case a9 => k_is)
    (case l9 => k_is)
    (case c9 => k_is)
    (case k9 => k_is)
    (case a10 => k_is)
    (case l10 => k_is)
    (case c10 => k_is)
    (case k10 => k_is)
    (case a11 => k_is)
    (case l11 => k_is)
    (case c11 => k_is)
    (case k11 => k_is)
    (case a12 => k_is)
    (case l12 => k_is)
    (case c12 => k_is)
    (case k12 => k_is)
    (case a13 => k_is)
    (case l13 => k_is)
    (case c13 => k_is)
    (case k13 => k_is)
    (case a14 => k_is)
    (case l14 => k_is)
    (case c14 => k_is)
    (case k14 => k_is)
    (case a15 => k_is)
    (case l15 => k_is)
    (case c15 => k_is)
    (case k15 => k_is)
    (case a16 => k_is)
    (case l16 => k_is)
    (case c16 => k_is)
    (case k16 => k_is)
    (case a17 => k_is)
    (case l17 => k_is)
    (case c17 => k_is)
    (case k17 => k_is)
    (case a18 => k_is)
    (case l18 => k_is)
    (case c18 => k_is)
    (case k18 => k_is)
    (case a19 => k_is)
    (case l19 => k_is)
    (case c19 => k_is)
    (case k19 => k_is)
    (case a20 => k_is)
    (case l20 => k_is)
    (case c20 => k_is)
    (case k20 => k_is)
    (case a21 => k_is)
    (case l21 => k_is)
    (case c21 => k_is)
    (case k21 => k_is)
    (case a22 => k_is)
    (case l22 => k_is)
    (case c22 => k_is)
    (case k22 => k_is)
    (case a23 => k_is)
    (case l23 => k_is)
    (case c23 => k_is)
    (case k23 => k_is)
    (case a24 => k_is)
    (case l24 => k_is)
    (case c24 => k_is)
    (case k24 => k_is)
    (case a25 => k_is)
    (case l25 => k_is)
    (case c25 => k_is)
    (case k25 => k_is)
    (case a26 => k_is)
    (case l26 => k_is)
    (case c26 => k_is)
    (case k26 => k_is)
    (case a27 => k_is)
    (case l27 => k_is)
    (case c27 => k_is)
    (case k27 => k_is)
    (case a28 => k_is)
    (case l28 => k_is)
    (case c28 => k_is)
    (case k28 => k_is)
    (case a29 => k_is)
    (case l29 => k_is)
    (case c29 => k_is)
    (case k29 => k_is)
    (case a30 => k_is)
    (case l30 => k_is)
    (case c30 => k_is)
    (case k30 => k_is)
    (case a31 => k_is)
    (case l31 => k_is)
    (case c31 => k_is)
    (case k31 => k_is)
    (case a32 => k_is)
    (case l32 => k_is)
    (case c32 => k_is)
    (case k32 => k_is)
    (case a33 => k_is)
    (case l33 => k_is)
    (case c33 => k_is)
    (case k33 => k_is)
    (case a34 => k_is)
    (case l34 => k_is)
    (case c34 => k_is)
    (case k34 => k_is)
    (case a35 => k_is)
    (case l35 => k_is)
    (case c35 => k_is)
    (case k35 => k_is)
    (case a36 => k_is)
    (case l36 => k_is)
    (case c36 => k_is)
    (case k36 => k_is)
    (case z_MOST_DESKS => k_is)
    (case z_MOST_WORKS => k_is)
    (case y_isinstance => k_is)
    (case y_all => k_is)
    (case y_any => k_is)
    (case y_len => k_is)
    (case y_range => k_is)
    (case y_tuple => k_is)
    (case y_enumerate => k_is)
    (case y_list => k_is)
    (case y_sorted => k_is)
    (case y_abs => k_is)
    (case y_int => k_is)
    (case y_set => k_is)
    (case y_min => k_is)
    (case y_bool => k_is)
    (case y_str => k_is)
    (case pg => k_is)
    (case hd => k_is)
    (case po => k_is)
    (case sa => k_is)
    (case mk => k_is)
    (case kc => k_is)
    (case nf_desks => k_is)
    (case nf_works => k_is)
    (case nf_kept_own => k_is)
    (case nf_kept_meets => k_is)
