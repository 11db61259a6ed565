import PyProof.Rows.All
import Wide.All
import OpenK.AllK
import Wide.FinOn
import PySem.Challenge.RW_roundpost_k43_whole_swapped_neighbours
import PyProof.ReprRoads
import KE.GoesEnum
import HandS.ForMost
import HandS.Exc
import HandS.TryOnly
import HandS.ExcOwn
import HandS.WordsExc
import HandS.ExcIs
import HandS.IsInst
import HandS.DictComp
import HandS.TupAny
import HandS.TupLe
import HandS.TupMul
import HandS.Style
import HandS.Strs
import HandS.Zip
import HandS.Wide
import HandS.Walk
import HandS.CallSlots
import HandS.Evl
import PyProof.ReprBulk
set_option Elab.async false
set_option linter.all false
section
/-! plain mathematics, part A: assoc lists, the walk of news day by day, closed states -/
namespace RP
section
variable {α : Type} [DecidableEq α] {β : Type}

/-- the value of a key -/
def look : List (α × β) → α → Option β
  | [], _ => none
  | (k, v) :: t, q => if k = q then some v else look t q
def has (F : List (α × β)) (q : α) : Bool := (look F q).isSome
def keys (F : List (α × β)) : List α := F.map (·.1)

theorem look_nil (q : α) : look ([] : List (α × β)) q = none := rfl
theorem look_append (F G : List (α × β)) (q : α) : look (F ++ G) q = (look F q).or (look G q) := by
  induction F with
  | nil => simp [look]
  | cons a t ih =>
    obtain ⟨k, v⟩ := a
    simp only [List.cons_append, look]
    split
    · simp
    · exact ih
theorem look_one (k q : α) (v : β) : look [(k, v)] q = if k = q then some v else none := rfl
theorem look_mem {F : List (α × β)} {q : α} {v : β} (h : look F q = some v) : (q, v) ∈ F := by
  induction F with
  | nil => simp [look] at h
  | cons a t ih =>
    obtain ⟨k, w⟩ := a
    simp only [look] at h
    split at h
    · rename_i e
      cases h
      subst e
      exact List.mem_cons_self
    · exact List.mem_cons_of_mem _ (ih h)
theorem has_iff {F : List (α × β)} {q : α} : has F q = true ↔ q ∈ keys F := by
  unfold has keys
  induction F with
  | nil => simp [look]
  | cons a t ih =>
    obtain ⟨k, w⟩ := a
    simp only [look, List.map_cons, List.mem_cons]
    split
    · rename_i e
      simp [e]
    · rename_i e
      rw [ih]
      constructor
      · exact .inr
      · rintro (h | h)
        · exact absurd h.symm e
        · exact h
theorem look_none_iff {F : List (α × β)} {q : α} : look F q = none ↔ q ∉ keys F := by
  rw [← has_iff, has]
  cases look F q <;> simp
theorem look_of_mem {F : List (α × β)} (hN : (keys F).Nodup) {q : α} {v : β} (h : (q, v) ∈ F) : look F q = some v := by
  induction F with
  | nil => cases h
  | cons a t ih =>
    obtain ⟨k, w⟩ := a
    have hN' : k ∉ keys t ∧ (keys t).Nodup := List.nodup_cons.mp hN
    rcases List.mem_cons.mp h with e | e
    · cases e
      simp [look]
    · have : k ≠ q := by
        rintro rfl
        exact hN'.1 (List.mem_map.mpr ⟨_, e, rfl⟩)
      simp only [look, if_neg this]
      exact ih hN'.2 e
theorem has_append (F G : List (α × β)) (q : α) : has (F ++ G) q = (has F q || has G q) := by
  unfold has
  rw [look_append]
  cases look F q <;> simp
theorem has_false_iff {F : List (α × β)} {q : α} : has F q = false ↔ look F q = none := by
  unfold has
  cases look F q <;> simp
theorem has_of_look {F : List (α × β)} {q : α} {v : β} (h : look F q = some v) : has F q = true := by
  unfold has
  rw [h]
  rfl

/-! ### pigeons -/
theorem sub_len {A B : List α} (hA : A.Nodup) (h : ∀ x ∈ A, x ∈ B) : A.length ≤ B.length := by
  induction A generalizing B with
  | nil => exact Nat.zero_le _
  | cons a t ih =>
    have hA' := List.nodup_cons.mp hA
    have hb : a ∈ B := h a List.mem_cons_self
    have := ih (B := B.erase a) hA'.2 fun x hx => by
      have hne : x ≠ a := by
        rintro rfl
        exact hA'.1 hx
      exact (List.mem_erase_of_ne hne).mpr (h x (List.mem_cons_of_mem _ hx))
    have hl := List.length_erase_of_mem hb
    have hp : 0 < B.length := List.length_pos_of_mem hb
    simp only [List.length_cons]
    omega
theorem sub_all {A B : List α} (hA : A.Nodup) (h : ∀ x ∈ A, x ∈ B) (hl : B.length ≤ A.length) : ∀ x ∈ B, x ∈ A := by
  intro x hx
  refine Classical.byContradiction fun hn => ?_
  have := sub_len (A := x :: A) (B := B) (List.nodup_cons.mpr ⟨hn, hA⟩) fun y hy => by
    rcases List.mem_cons.mp hy with e | e
    · subst e
      exact hx
    · exact h y e
  simp only [List.length_cons] at this
  omega

/-! ### news, walk by walk -/
abbrev Rd (α : Type) := α × α × α
abbrev Fd (α : Type) := List (α × Nat × Nat)

def wstep (R : List (Rd α)) (d : Nat) (F : Fd α) (k : Nat) (r : α) : Fd α :=
  match look R r with
  | none => F
  | some (x, y) => if has F x = has F y then F else if has F x = true then F ++ [(y, d, k + 1)] else F ++ [(x, d, k + 1)]
/-- behind k walks of the day d -/
def part (R : List (Rd α)) (ρ : List α) (d : Nat) (F : Fd α) : Nat → Fd α
  | 0 => F
  | k + 1 => match ρ[k]? with
    | none => part R ρ d F k
    | some r => wstep R d (part R ρ d F k) k r
/-- behind n days -/
def dayS (R : List (Rd α)) (ρ : List α) (p : α) : Nat → Fd α
  | 0 => [(p, 1, 0)]
  | n + 1 => part R ρ (n + 1) (dayS R ρ p n) ρ.length

/-- a set of places that no road leaves -/
def Shut (R : List (Rd α)) (C : α → Prop) : Prop := ∀ r x y, (r, x, y) ∈ R → (C x ↔ C y)

variable {R : List (Rd α)} {ρ : List α} {p : α} {F : Fd α} {d k : Nat}

theorem wstep_pre (R : List (Rd α)) (d : Nat) (F : Fd α) (k : Nat) (r : α) : ∃ G, wstep R d F k r = F ++ G ∧ (∀ e ∈ G, e.2 = (d, k + 1)) := by
  unfold wstep
  split
  · exact ⟨[], by simp, by simp⟩
  · split
    · exact ⟨[], by simp, by simp⟩
    · split
      · exact ⟨_, rfl, by simp⟩
      · exact ⟨_, rfl, by simp⟩
theorem part_pre (R : List (Rd α)) (ρ : List α) (d : Nat) (F : Fd α) : ∀ k, ∃ G, part R ρ d F k = F ++ G ∧ (∀ e ∈ G, e.2.1 = d ∧ 1 ≤ e.2.2 ∧ e.2.2 ≤ k)
  | 0 => ⟨[], by simp [part], by simp⟩
  | k + 1 => by
    obtain ⟨G, e, h⟩ := part_pre R ρ d F k
    simp only [part]
    split
    · exact ⟨G, e, fun x hx => by have := h x hx; omega⟩
    · obtain ⟨G2, e2, h2⟩ := wstep_pre R d (part R ρ d F k) k (by assumption)
      refine ⟨G ++ G2, by rw [e2, e, List.append_assoc], fun x hx => ?_⟩
      rcases List.mem_append.mp hx with q | q
      · have := h x q; omega
      · have := h2 x q
        rw [this]
        exact ⟨rfl, by simp, Nat.le_refl _⟩
theorem wstep_len (R : List (Rd α)) (d : Nat) (F : Fd α) (k : Nat) (r : α) : F.length ≤ (wstep R d F k r).length := by
  obtain ⟨G, e, _⟩ := wstep_pre R d F k r
  rw [e]
  simp
theorem part_len_mono (R : List (Rd α)) (ρ : List α) (d : Nat) (F : Fd α) (k : Nat) : (part R ρ d F k).length ≤ (part R ρ d F (k + 1)).length := by
  simp only [part]
  split
  · exact Nat.le_refl _
  · exact wstep_len _ _ _ _ _
theorem part_len (R : List (Rd α)) (ρ : List α) (d : Nat) (F : Fd α) : ∀ k, F.length ≤ (part R ρ d F k).length := fun k => by
  obtain ⟨G, e, _⟩ := part_pre R ρ d F k
  rw [e]
  simp
theorem part_len_le (R : List (Rd α)) (ρ : List α) (d : Nat) (F : Fd α) (k : Nat) : ∀ j, (part R ρ d F k).length ≤ (part R ρ d F (k + j)).length
  | 0 => Nat.le_refl _
  | j + 1 => Nat.le_trans (part_len_le R ρ d F k j) (part_len_mono R ρ d F (k + j))

theorem look_pre {F G : List (α × β)} {q : α} {v : β} (h : look F q = some v) : look (F ++ G) q = some v := by
  rw [look_append, h]
  rfl
theorem part_look {q : α} {v : Nat × Nat} (h : look F q = some v) : look (part R ρ d F k) q = some v := by
  obtain ⟨G, e, _⟩ := part_pre R ρ d F k
  rw [e]
  exact look_pre h
theorem dayS_look {q : α} {v : Nat × Nat} {n : Nat} (h : look (dayS R ρ p n) q = some v) : ∀ j, look (dayS R ρ p (n + j)) q = some v
  | 0 => h
  | j + 1 => part_look (dayS_look h j)

/-- a state behind some walks: what stays true -/
structure Sound (R : List (Rd α)) (p : α) (F : Fd α) : Prop where
  nd : (keys F).Nodup
  src : look F p = some (1, 0)
  least : ∀ C : α → Prop, Shut R C → C p → ∀ q ∈ keys F, C q
theorem Sound.wstep (h : Sound R p F) (d k : Nat) (r : α) : Sound R p (wstep R d F k r) := by
  unfold RP.wstep
  split
  · exact h
  · rename_i x y e
    have hm := look_mem e
    split
    · exact h
    · rename_i hne
      split
      · rename_i hx
        have hy : has F y = false := by
          rw [hx] at hne
          cases hh : has F y
          · rfl
          · rw [hh] at hne; exact absurd rfl hne
        refine ⟨?_, look_pre h.src, fun C hC hp q hq => ?_⟩
        · have : y ∉ keys F := fun z => by rw [has_iff.mpr z] at hy; cases hy
          unfold keys at this ⊢
          rw [List.map_append]
          refine List.nodup_append.mpr ⟨h.nd, by simp, ?_⟩
          simp only [List.map_cons, List.map_nil, List.mem_singleton]
          intro a ha b hb e
          subst e hb
          exact this ha
        · unfold keys at hq
          rw [List.map_append, List.mem_append] at hq
          rcases hq with q1 | q1
          · exact h.least C hC hp q q1
          · simp only [List.map_cons, List.map_nil, List.mem_singleton] at q1
            subst q1
            exact (hC _ _ _ hm).mp (h.least C hC hp x (has_iff.mp hx))
      · rename_i hx
        have hx' : has F x = false := by
          cases hh : has F x
          · rfl
          · rw [hh] at hx; exact absurd rfl hx
        have hy : has F y = true := by
          rw [hx'] at hne
          cases hh : has F y
          · rw [hh] at hne; exact absurd rfl hne
          · rfl
        refine ⟨?_, look_pre h.src, fun C hC hp q hq => ?_⟩
        · have : x ∉ keys F := fun z => by rw [has_iff.mpr z] at hx'; cases hx'
          unfold keys at this ⊢
          rw [List.map_append]
          refine List.nodup_append.mpr ⟨h.nd, by simp, ?_⟩
          simp only [List.map_cons, List.map_nil, List.mem_singleton]
          intro a ha b hb e
          subst e hb
          exact this ha
        · unfold keys at hq
          rw [List.map_append, List.mem_append] at hq
          rcases hq with q1 | q1
          · exact h.least C hC hp q q1
          · simp only [List.map_cons, List.map_nil, List.mem_singleton] at q1
            subst q1
            exact (hC _ _ _ hm).mpr (h.least C hC hp y (has_iff.mp hy))
theorem Sound.part (h : Sound R p F) (ρ : List α) (d : Nat) : ∀ k, Sound R p (part R ρ d F k)
  | 0 => h
  | k + 1 => by
    simp only [RP.part]
    split
    · exact h.part ρ d k
    · exact (h.part ρ d k).wstep d k _
theorem sound_dayS (R : List (Rd α)) (ρ : List α) (p : α) : ∀ n, Sound R p (dayS R ρ p n)
  | 0 => ⟨by simp [dayS, keys], by simp [dayS, look], fun C _ hp q hq => by
      have : q = p := by simpa [dayS, keys] using hq
      subst this
      exact hp⟩
  | n + 1 => (sound_dayS R ρ p n).part ρ (n + 1) _

/-- no road leads out of what is found -/
def Closed (R : List (Rd α)) (F : Fd α) : Prop := Shut R fun q => has F q = true
/-- all roads are walked: ρ holds each road's name, and the names tell the roads -/
structure Whole (R : List (Rd α)) (ρ : List α) : Prop where
  nd : (keys R).Nodup
  all : ∀ r ∈ keys R, r ∈ ρ
  sub : ∀ r ∈ ρ, r ∈ keys R
  ndr : ρ.Nodup

theorem wstep_closed (h : Closed R F) (r : α) : wstep R d F k r = F := by
  unfold wstep
  split
  · rfl
  · rename_i x y e
    have := h r x y (look_mem e)
    rw [if_pos]
    cases hx : has F x <;> cases hy : has F y <;> simp_all
theorem part_closed (h : Closed R F) : ∀ k, part R ρ d F k = F
  | 0 => rfl
  | k + 1 => by
    simp only [part]
    rw [part_closed h k]
    split
    · rfl
    · exact wstep_closed h _
theorem dayS_closed {n : Nat} (h : Closed R (dayS R ρ p n)) : ∀ j, dayS R ρ p (n + j) = dayS R ρ p n
  | 0 => rfl
  | j + 1 => by
    show part R ρ _ (dayS R ρ p (n + j)) ρ.length = _
    rw [dayS_closed h j]
    exact part_closed h _
/-- two closed ends are the same end -/
theorem closed_same {n m : Nat} (h : Closed R (dayS R ρ p n)) (h' : Closed R (dayS R ρ p m)) : dayS R ρ p n = dayS R ρ p m := by
  rcases Nat.le_total n m with e | e
  · obtain ⟨j, rfl⟩ := Nat.exists_eq_add_of_le e
    exact (dayS_closed h j).symm
  · obtain ⟨j, rfl⟩ := Nat.exists_eq_add_of_le e
    exact dayS_closed h' j
/-- a day on which nothing comes: it was closed -/
theorem idle_closed (hw : Whole R ρ) (hl : (part R ρ d F ρ.length).length = F.length) : Closed R F := by
  have same : ∀ k, k ≤ ρ.length → part R ρ d F k = F := fun k hk => by
    obtain ⟨G, e, _⟩ := part_pre R ρ d F k
    have h1 := part_len_le R ρ d F k (ρ.length - k)
    rw [show k + (ρ.length - k) = ρ.length by omega, hl, e, List.length_append] at h1
    have : G = [] := List.length_eq_zero_iff.mp (by omega)
    rw [e, this, List.append_nil]
  intro r x y hm
  have hr : r ∈ ρ := hw.all r (List.mem_map.mpr ⟨_, hm, rfl⟩)
  obtain ⟨k, hk, e⟩ := List.mem_iff_getElem.mp hr
  have h1 := same (k + 1) hk
  simp only [part] at h1
  rw [same k (Nat.le_of_lt hk), List.getElem?_eq_getElem hk] at h1
  simp only [e] at h1
  have hl2 : look R r = some (x, y) := look_of_mem hw.nd hm
  unfold wstep at h1
  rw [hl2] at h1
  simp only at h1
  split at h1
  · rename_i e2
    show has F x = true ↔ has F y = true
    rw [e2]
  · split at h1
    · exact absurd (congrArg List.length h1) (by simp)
    · exact absurd (congrArg List.length h1) (by simp)
theorem grows (hw : Whole R ρ) (h : ¬ Closed R F) : F.length < (part R ρ d F ρ.length).length := by
  have h1 := part_len R ρ d F ρ.length
  rcases Nat.lt_or_ge F.length (part R ρ d F ρ.length).length with q | q
  · exact q
  · exact absurd (idle_closed hw (Nat.le_antisymm q h1)) h

/-- the places are P -/
structure InP (R : List (Rd α)) (P : List α) : Prop where
  nd : P.Nodup
  ends : ∀ r x y, (r, x, y) ∈ R → x ∈ P ∧ y ∈ P
theorem Sound.sub {P : List α} (h : Sound R p F) (hP : InP R P) (hp : p ∈ P) : ∀ q ∈ keys F, q ∈ P :=
  h.least (fun q => q ∈ P) (fun r x y hm => ⟨fun _ => (hP.ends r x y hm).2, fun _ => (hP.ends r x y hm).1⟩) hp
theorem Sound.len {P : List α} (h : Sound R p F) (hP : InP R P) (hp : p ∈ P) : F.length ≤ P.length := by
  have := sub_len h.nd (h.sub hP hp)
  simpa [keys] using this
/-- behind as many days as there are places all is closed -/
theorem closed_end {P : List α} (hw : Whole R ρ) (hP : InP R P) (hp : p ∈ P) : Closed R (dayS R ρ p P.length) := by
  have core : ∀ n, Closed R (dayS R ρ p n) ∨ n < (dayS R ρ p n).length := fun n => by
    induction n with
    | zero => exact .inr (by simp [dayS])
    | succ n ih =>
      by_cases h : Closed R (dayS R ρ p n)
      · left
        show Closed R (part R ρ _ (dayS R ρ p n) ρ.length)
        rw [part_closed h]
        exact h
      · right
        rcases ih with q | q
        · exact absurd q h
        · have := grows (d := n + 1) hw h
          show n + 1 < (part R ρ (n + 1) (dayS R ρ p n) ρ.length).length
          omega
  rcases core P.length with q | q
  · exact q
  · have := (sound_dayS R ρ p P.length).len hP hp
    omega
/-- where all news has come -/
def fin (R : List (Rd α)) (ρ P : List α) (p : α) : Fd α := dayS R ρ p P.length
theorem fin_of {P : List α} {n : Nat} (hw : Whole R ρ) (hP : InP R P) (hp : p ∈ P) (h : Closed R (dayS R ρ p n)) : dayS R ρ p n = fin R ρ P p :=
  closed_same h (closed_end hw hP hp)
theorem fin_closed {P : List α} (hw : Whole R ρ) (hP : InP R P) (hp : p ∈ P) : Closed R (fin R ρ P p) := closed_end hw hP hp
theorem fin_sound {P : List α} : Sound R p (fin R ρ P p) := sound_dayS R ρ p _
/-- whatever the rota, the same places are found -/
theorem fin_has {P ρ' : List α} (hw : Whole R ρ) (hw' : Whole R ρ') (hP : InP R P) (hp : p ∈ P) (q : α) : has (fin R ρ P p) q = has (fin R ρ' P p) q := by
  have one : ∀ {ρ ρ' : List α}, Whole R ρ' → has (fin R ρ P p) q = true → has (fin R ρ' P p) q = true := fun {ρ ρ'} hw' h =>
    fin_sound.least (fun q => has (fin R ρ' P p) q = true) (fin_closed hw' hP hp) (has_of_look fin_sound.src) q (has_iff.mp h)
  cases h : has (fin R ρ P p) q with
  | true => exact (one hw' h).symm
  | false =>
    cases h' : has (fin R ρ' P p) q with
    | false => rfl
    | true => rw [one hw h'] at h; cases h
/-- the day of news from p to q -/
def dayOf (R : List (Rd α)) (ρ P : List α) (p q : α) : Option Nat := if q = p then some 0 else (look (fin R ρ P p) q).map (·.1)
theorem dayOf_some {P ρ' : List α} (hw : Whole R ρ) (hw' : Whole R ρ') (hP : InP R P) (hp : p ∈ P) (q : α) : (dayOf R ρ P p q).isSome = (dayOf R ρ' P p q).isSome := by
  unfold dayOf
  split
  · rfl
  · have := fin_has hw hw' hP hp q
    unfold has at this
    simpa using this

/-! ### stamps -/
def leT (a b : Nat × Nat) : Prop := a.1 < b.1 ∨ (a.1 = b.1 ∧ a.2 ≤ b.2)
theorem part_stamp (h : ∀ e ∈ F, leT e.2 (d, 0)) : ∀ e ∈ part R ρ d F k, leT e.2 (d, k) := by
  obtain ⟨G, e, hG⟩ := part_pre R ρ d F k
  intro x hx
  rw [e] at hx
  rcases List.mem_append.mp hx with q | q
  · rcases h x q with z | ⟨z, z2⟩
    · exact .inl z
    · exact .inr ⟨z, Nat.le_trans z2 (Nat.zero_le _)⟩
  · have := hG x q
    exact .inr ⟨this.1, this.2.2⟩
theorem dayS_stamp : ∀ n, ∀ e ∈ dayS R ρ p n, leT e.2 (n + 1, 0)
  | 0 => by
    intro e he
    have : e = (p, 1, 0) := by simpa [dayS] using he
    rw [this]
    exact .inr ⟨rfl, Nat.le_refl _⟩
  | n + 1 => fun e he => by
    rcases part_stamp (k := ρ.length) (dayS_stamp n) e he with z | ⟨z, _⟩
    · exact .inl (by have z : e.2.1 < n + 1 := z; show e.2.1 < n + 1 + 1; omega)
    · exact .inl (by have z : e.2.1 = n + 1 := z; show e.2.1 < n + 1 + 1; omega)
end
end RP
end

section
/-! plain mathematics, part B: how many places are reached; the law's own loop; exchanged neighbours; the list of changed days -/
namespace RP
section
variable {α : Type} [DecidableEq α] {β : Type}
variable {R : List (Rd α)} {ρ P : List α} {p : α} {F : Fd α} {d k : Nat}

/-! ### the set of places that news reaches, as news_places makes it: the keys of its dict in turn -/
def addK (L : List α) (q : α) : List α := if q ∈ L then L else L ++ [q]
def nstep (L : List α) (x y : α) : List α := if x ∈ L ∨ y ∈ L then addK (addK L x) y else L
/-- behind k of the walked roads (their ends) -/
def npart (Es : List (α × α)) (L : List α) : Nat → List α
  | 0 => L
  | k + 1 => match Es[k]? with
    | none => npart Es L k
    | some e => nstep (npart Es L k) e.1 e.2
theorem addK_sub (L : List α) (q : α) : ∀ x ∈ L, x ∈ addK L q := fun x hx => by
  unfold addK
  split
  · exact hx
  · exact List.mem_append_left _ hx
theorem addK_self (L : List α) (q : α) : q ∈ addK L q := by
  unfold addK
  split
  · assumption
  · simp
theorem addK_mem {L : List α} {q x : α} (h : x ∈ addK L q) : x ∈ L ∨ x = q := by
  unfold addK at h
  split at h
  · exact .inl h
  · rcases List.mem_append.mp h with z | z
    · exact .inl z
    · exact .inr (by simpa using z)
theorem addK_nd {L : List α} (h : L.Nodup) (q : α) : (addK L q).Nodup := by
  unfold addK
  split
  · exact h
  · rename_i hq
    refine List.nodup_append.mpr ⟨h, by simp, ?_⟩
    intro a ha b hb e
    have : b = q := by simpa using hb
    subst e this
    exact hq ha
theorem addK_len (L : List α) (q : α) : L.length ≤ (addK L q).length := by
  unfold addK
  split <;> simp
theorem addK_same {L : List α} {q : α} (h : q ∈ L) : addK L q = L := if_pos h
theorem nstep_len (L : List α) (x y : α) : L.length ≤ (nstep L x y).length := by
  unfold nstep
  split
  · exact Nat.le_trans (addK_len _ _) (addK_len _ _)
  · exact Nat.le_refl _
theorem nstep_sub (L : List α) (x y : α) : ∀ q ∈ L, q ∈ nstep L x y := fun q hq => by
  unfold nstep
  split
  · exact addK_sub _ _ _ (addK_sub _ _ _ hq)
  · exact hq
theorem npart_len_mono (Es : List (α × α)) (L : List α) (k : Nat) : (npart Es L k).length ≤ (npart Es L (k + 1)).length := by
  simp only [npart]
  split
  · exact Nat.le_refl _
  · exact nstep_len _ _ _
theorem npart_len (Es : List (α × α)) (L : List α) (k : Nat) : ∀ j, (npart Es L k).length ≤ (npart Es L (k + j)).length
  | 0 => Nat.le_refl _
  | j + 1 => Nat.le_trans (npart_len Es L k j) (npart_len_mono Es L (k + j))
/-- what stays true of the keys -/
structure NS (R : List (Rd α)) (p : α) (L : List α) : Prop where
  nd : L.Nodup
  src : p ∈ L
  least : ∀ C : α → Prop, Shut R C → C p → ∀ q ∈ L, C q
/-- the walked ends are the roads' -/
structure EndsOf (R : List (Rd α)) (Es : List (α × α)) : Prop where
  sub : ∀ e ∈ Es, ∃ r, (r, e.1, e.2) ∈ R
  all : ∀ r x y, (r, x, y) ∈ R → (x, y) ∈ Es
theorem NS.start : NS R p [p] := ⟨by simp, by simp, fun C _ hp q hq => by
  have : q = p := by simpa using hq
  subst this
  exact hp⟩
theorem NS.step {L : List α} (h : NS R p L) {r x y : α} (hm : (r, x, y) ∈ R) : NS R p (nstep L x y) := by
  unfold nstep
  split
  · rename_i hxy
    refine ⟨addK_nd (addK_nd h.nd _) _, addK_sub _ _ _ (addK_sub _ _ _ h.src), fun C hC hp q hq => ?_⟩
    have hc := hC _ _ _ hm
    have hx : C x ∧ C y := by
      rcases hxy with z | z
      · have := h.least C hC hp x z
        exact ⟨this, hc.mp this⟩
      · have := h.least C hC hp y z
        exact ⟨hc.mpr this, this⟩
    rcases addK_mem hq with z | z
    · rcases addK_mem z with z | z
      · exact h.least C hC hp q z
      · subst z; exact hx.1
    · subst z; exact hx.2
  · exact h
theorem NS.part {Es : List (α × α)} (hE : EndsOf R Es) {L : List α} (h : NS R p L) : ∀ k, NS R p (npart Es L k)
  | 0 => h
  | k + 1 => by
    simp only [npart]
    split
    · exact h.part hE k
    · rename_i e he
      obtain ⟨r, hr⟩ := hE.sub e (List.mem_of_getElem? he)
      exact (h.part hE k).step hr
theorem addK_idle {L : List α} {q : α} (h : (addK L q).length = L.length) : q ∈ L := by
  unfold addK at h
  split at h
  · assumption
  · simp at h
/-- a pass without a new key: no road leaves -/
theorem nidle {Es : List (α × α)} (hE : EndsOf R Es) {L : List α} (hl : (npart Es L Es.length).length = L.length) : Shut R fun q => q ∈ L := by
  have same : ∀ k, k ≤ Es.length → npart Es L k = L := fun k => by
    induction k with
    | zero => exact fun _ => rfl
    | succ k ih =>
      intro hk
      have ihk := ih (by omega)
      have h1 := npart_len Es L (k + 1) (Es.length - (k + 1))
      rw [show k + 1 + (Es.length - (k + 1)) = Es.length by omega, hl] at h1
      have hlt : k < Es.length := hk
      simp only [npart, ihk, List.getElem?_eq_getElem hlt] at h1 ⊢
      unfold nstep at h1 ⊢
      split
      · rename_i hxy
        rw [if_pos hxy] at h1
        have a1 := addK_len L (Es[k]).1
        have a2 := addK_len (addK L (Es[k]).1) (Es[k]).2
        have e1 : (addK L (Es[k]).1).length = L.length := by omega
        have m1 := addK_idle e1
        rw [addK_same m1] at h1 a2 ⊢
        have m2 := addK_idle (Nat.le_antisymm h1 a2)
        exact addK_same m2
      · rfl
  intro r x y hm
  obtain ⟨k, hk, e⟩ := List.mem_iff_getElem.mp (hE.all r x y hm)
  have h1 := same (k + 1) hk
  simp only [npart, same k (Nat.le_of_lt hk), List.getElem?_eq_getElem hk, e] at h1
  unfold nstep at h1
  show x ∈ L ↔ y ∈ L
  split at h1
  · have m1 : x ∈ L := by
      have := addK_sub (addK L x) y x (addK_self L x)
      rw [h1] at this
      exact this
    have m2 : y ∈ L := by
      have := addK_self (addK L x) y
      rw [h1] at this
      exact this
    exact ⟨fun _ => m2, fun _ => m1⟩
  · rename_i hn
    exact ⟨fun z => absurd (.inl z) hn, fun z => absurd (.inr z) hn⟩
theorem NS.sub {L : List α} (h : NS R p L) (hP : InP R P) (hp : p ∈ P) : ∀ q ∈ L, q ∈ P :=
  h.least (fun q => q ∈ P) (fun r x y hm => ⟨fun _ => (hP.ends r x y hm).2, fun _ => (hP.ends r x y hm).1⟩) hp
theorem NS.len {L : List α} (h : NS R p L) (hP : InP R P) (hp : p ∈ P) : L.length ≤ P.length := sub_len h.nd (h.sub hP hp)
/-- as long as fewer are found than are reached, the day brings something -/
theorem not_closed {L : List α} (hL : NS R p L) (hS : Sound R p F) (hl : F.length < L.length) : ¬ Closed R F := fun hc => by
  have := sub_len hL.nd (B := keys F) fun q hq => by
    have := hL.least (fun q => has F q = true) hc (has_of_look hS.src) q hq
    exact has_iff.mp this
  simp only [keys, List.length_map] at this
  omega
theorem closed_of_len {L : List α} (hL : NS R p L) (hsh : Shut R fun q => q ∈ L) (hS : Sound R p F) (hl : L.length ≤ F.length) : Closed R F := by
  have s1 : ∀ q ∈ keys F, q ∈ L := hS.least _ hsh hL.src
  have s2 := sub_all hS.nd s1 (by simpa [keys] using hl)
  intro r x y hm
  show has F x = true ↔ has F y = true
  rw [has_iff, has_iff]
  have := hsh r x y hm
  exact ⟨fun z => s2 _ (this.mp (s1 _ z)), fun z => s2 _ (this.mpr (s1 _ z))⟩

/-! ### exchanged neighbours -/
def swp (ρ : List α) (at_ : Nat) (r s : α) : List α := ρ.take at_ ++ [s, r] ++ ρ.drop (at_ + 2)
theorem cut_at {ρ : List α} {i : Nat} {r s : α} (hr : ρ[i]? = some r) (hs : ρ[i + 1]? = some s) : ρ = ρ.take i ++ [r, s] ++ ρ.drop (i + 2) := by
  obtain ⟨h1, e1⟩ := List.getElem?_eq_some_iff.mp hr
  obtain ⟨h2, e2⟩ := List.getElem?_eq_some_iff.mp hs
  have a1 : ρ.drop i = r :: ρ.drop (i + 1) := by rw [← e1]; exact List.drop_eq_getElem_cons h1
  have a2 : ρ.drop (i + 1) = s :: ρ.drop (i + 2) := by rw [← e2]; exact List.drop_eq_getElem_cons h2
  calc ρ = ρ.take i ++ ρ.drop i := (List.take_append_drop i ρ).symm
    _ = _ := by rw [a1, a2]; simp
theorem swp_len {ρ : List α} {i : Nat} {r s : α} (hs : i + 1 < ρ.length) : (swp ρ i r s).length = ρ.length := by
  unfold swp
  simp
  omega
theorem swp_perm {ρ : List α} {i : Nat} {r s : α} (hr : ρ[i]? = some r) (hs : ρ[i + 1]? = some s) : (swp ρ i r s).Perm ρ := by
  have h := cut_at hr hs
  have : (swp ρ i r s).Perm (ρ.take i ++ [r, s] ++ ρ.drop (i + 2)) := by
    unfold swp
    refine List.Perm.append_right _ (List.Perm.append_left _ ?_)
    exact List.Perm.swap r s []
  rw [← h] at this
  exact this
theorem swp_get0 {ρ : List α} {i : Nat} {r s : α} (hs : i + 1 < ρ.length) : (swp ρ i r s)[i]? = some s := by
  unfold swp
  rw [List.append_assoc, List.getElem?_append_right (by rw [List.length_take]; omega)]
  rw [List.length_take, Nat.min_eq_left (by omega), Nat.sub_self]
  rfl
theorem swp_get1 {ρ : List α} {i : Nat} {r s : α} (hs : i + 1 < ρ.length) : (swp ρ i r s)[i + 1]? = some r := by
  unfold swp
  rw [List.append_assoc, List.getElem?_append_right (by simp; omega)]
  rw [List.length_take, Nat.min_eq_left (by omega), show i + 1 - i = 1 by omega]
  rfl
theorem swp_get {ρ : List α} {i j : Nat} {r s : α} (hs : i + 1 < ρ.length) (h0 : j ≠ i) (h1 : j ≠ i + 1) : (swp ρ i r s)[j]? = ρ[j]? := by
  unfold swp
  rcases Nat.lt_or_ge j i with q | q
  · rw [List.append_assoc, List.getElem?_append_left (by simp; omega), List.getElem?_take_of_lt q]
  · rw [List.getElem?_append_right (by simp; omega), List.getElem?_drop]
    congr 1
    simp
    omega
theorem swp_swp {ρ : List α} {i : Nat} {r s : α} (hr : ρ[i]? = some r) (hs : ρ[i + 1]? = some s) : swp (swp ρ i r s) i s r = ρ := by
  have hl : i + 1 < ρ.length := (List.getElem?_eq_some_iff.mp hs).1
  refine List.ext_getElem? fun j => ?_
  by_cases h0 : j = i
  · subst h0
    rw [swp_get0 (by rw [swp_len hl]; exact hl), hr]
  · by_cases h1 : j = i + 1
    · subst h1
      rw [swp_get1 (by rw [swp_len hl]; exact hl), hs]
    · rw [swp_get (by rw [swp_len hl]; exact hl) h0 h1, swp_get hl h0 h1]
theorem Whole.perm {ρ' : List α} (h : Whole R ρ) (e : ρ'.Perm ρ) : Whole R ρ' :=
  ⟨h.nd, fun r hr => e.mem_iff.mpr (h.all r hr), fun r hr => h.sub r (e.mem_iff.mp hr), e.symm.nodup h.ndr⟩

/-! ### the changed days -/
def dif (a b : Option Nat) : Int := ((b.getD 0 : Nat) : Int) - ((a.getD 0 : Nat) : Int)
def cell (R : List (Rd α)) (P ρ ρ' : List α) (p q : α) : Option (α × α × Int) :=
  if dayOf R ρ P p q = dayOf R ρ' P p q then none else some (p, q, dif (dayOf R ρ P p q) (dayOf R ρ' P p q))
def due (R : List (Rd α)) (P ρ ρ' : List α) : List (α × α × Int) := P.flatMap fun p => P.filterMap fun q => cell R P ρ ρ' p q
def turned (l : List (α × α × Int)) : List (α × α × Int) := l.map fun e => (e.1, e.2.1, -e.2.2)
theorem map_flatMap' {γ δ ε : Type} (g : δ → ε) (f : γ → List δ) (l : List γ) : (l.flatMap f).map g = l.flatMap fun a => (f a).map g := by
  induction l with
  | nil => rfl
  | cons a t ih => simp [List.flatMap_cons, ih]
theorem due_back (R : List (Rd α)) (P ρ ρ' : List α) : due R P ρ' ρ = turned (due R P ρ ρ') := by
  unfold due turned
  rw [map_flatMap']
  congr 1
  funext p
  rw [List.map_filterMap]
  congr 1
  funext q
  unfold cell
  by_cases h : dayOf R ρ P p q = dayOf R ρ' P p q
  · rw [if_pos h, if_pos h.symm]
    rfl
  · rw [if_neg h, if_neg (fun z => h z.symm)]
    simp only [Option.map_some, dif]
    congr 3
    omega
theorem due_nil (h : ∀ p ∈ P, ∀ q ∈ P, dayOf R ρ P p q = dayOf R ρ' P p q) : due R P ρ ρ' = [] := by
  unfold due
  refine List.flatMap_eq_nil_iff.mpr fun p hp => List.filterMap_eq_nil_iff.mpr fun q hq => ?_
  unfold cell
  rw [if_pos (h p hp q hq)]

/-! ### roads without a common place: the days stay -/
def stepF (d : Nat) (f : α → Option Nat) (e : α × α) : α → Option Nat := fun q =>
  if (f e.1).isSome = (f e.2).isSome then f q
  else if (f e.1).isSome = true then (if q = e.2 then some d else f q) else (if q = e.1 then some d else f q)
def dayF (F : Fd α) : α → Option Nat := fun q => (look F q).map (·.1)
theorem dayF_some (F : Fd α) (q : α) : (dayF F q).isSome = has F q := by
  unfold dayF has
  simp
theorem dayF_wstep (R : List (Rd α)) (d : Nat) (F : Fd α) (k : Nat) (r x y : α) (hl : look R r = some (x, y)) : dayF (wstep R d F k r) = stepF d (dayF F) (x, y) := by
  funext q
  unfold wstep stepF
  rw [hl]
  simp only [dayF_some]
  by_cases h : has F x = has F y
  · rw [if_pos h, if_pos h]
  · rw [if_neg h, if_neg h]
    by_cases hx : has F x = true
    · rw [if_pos hx, if_pos hx]
      have hy : look F y = none := has_false_iff.mp (by
        cases hh : has F y
        · rfl
        · rw [hx, hh] at h; exact absurd rfl h)
      unfold dayF
      rw [look_append, look_one]
      by_cases e : q = y
      · subst e
        rw [hy]
        simp
      · rw [if_neg (fun z => e z.symm), if_neg e]
        simp
    · rw [if_neg hx, if_neg hx]
      have hx' : look F x = none := has_false_iff.mp (by simpa using hx)
      unfold dayF
      rw [look_append, look_one]
      by_cases e : q = x
      · subst e
        rw [hx']
        simp
      · rw [if_neg (fun z => e z.symm), if_neg e]
        simp
theorem stepF_of {d : Nat} {g f : α → Option Nat} {x y q : α} (k1 : g x = f x) (k2 : g y = f y) :
    stepF d g (x, y) q = if (f x).isSome = (f y).isSome then g q else if (f x).isSome = true then (if q = y then some d else g q) else (if q = x then some d else g q) := by
  unfold stepF
  simp only [k1, k2]
theorem stepF_comm (d : Nat) (f : α → Option Nat) {a b x y : α} (h1 : a ≠ x) (h2 : a ≠ y) (h3 : b ≠ x) (h4 : b ≠ y) : stepF d (stepF d f (a, b)) (x, y) = stepF d (stepF d f (x, y)) (a, b) := by
  have k1 : stepF d f (a, b) x = f x := by
    unfold stepF
    simp only [h1.symm, h3.symm, if_false]
    split
    · rfl
    · split <;> rfl
  have k2 : stepF d f (a, b) y = f y := by
    unfold stepF
    simp only [h2.symm, h4.symm, if_false]
    split
    · rfl
    · split <;> rfl
  have k3 : stepF d f (x, y) a = f a := by
    unfold stepF
    simp only [h1, h2, if_false]
    split
    · rfl
    · split <;> rfl
  have k4 : stepF d f (x, y) b = f b := by
    unfold stepF
    simp only [h3, h4, if_false]
    split
    · rfl
    · split <;> rfl
  funext q
  have l : stepF d (stepF d f (a, b)) (x, y) q = if (f x).isSome = (f y).isSome then stepF d f (a, b) q else if (f x).isSome = true then (if q = y then some d else stepF d f (a, b) q) else (if q = x then some d else stepF d f (a, b) q) := by
    exact stepF_of k1 k2
  have r : stepF d (stepF d f (x, y)) (a, b) q = if (f a).isSome = (f b).isSome then stepF d f (x, y) q else if (f a).isSome = true then (if q = b then some d else stepF d f (x, y) q) else (if q = a then some d else stepF d f (x, y) q) := by
    exact stepF_of k3 k4
  rw [l, r]
  unfold stepF
  simp only
  by_cases ha : q = a
  · subst ha
    simp only [h1, h2, if_false, if_true]
    split <;> split <;> (try split) <;> (try split) <;> simp_all
  · by_cases hb : q = b
    · subst hb
      simp only [h3, h4, ha, if_false, if_true]
      split <;> split <;> (try split) <;> (try split) <;> simp_all
    · simp only [ha, hb, if_false]
      split <;> split <;> (try split) <;> (try split) <;> simp_all

/-- the walks' ends in turn -/
def endsL (R : List (Rd α)) (ρ : List α) : List (α × α) := ρ.filterMap fun r => look R r
theorem part_foldl (hs : ∀ r ∈ ρ, r ∈ keys R) : ∀ k, k ≤ ρ.length → dayF (part R ρ d F k) = (endsL R (ρ.take k)).foldl (stepF d) (dayF F)
  | 0, _ => by simp [part, endsL]
  | k + 1, hk => by
    have hlt : k < ρ.length := hk
    have ih := part_foldl hs k (Nat.le_of_lt hlt)
    simp only [part, List.getElem?_eq_getElem hlt]
    have hm : ρ[k] ∈ keys R := hs _ (List.getElem_mem hlt)
    have : has R ρ[k] = true := has_iff.mpr hm
    unfold has at this
    obtain ⟨⟨x, y⟩, e⟩ := Option.isSome_iff_exists.mp this
    rw [dayF_wstep R d _ k ρ[k] x y e, ih]
    unfold endsL
    rw [List.take_add_one, List.getElem?_eq_getElem hlt]
    simp only [Option.toList_some, List.filterMap_append, List.foldl_append]
    simp [e]
theorem apart_days {ρ : List α} {i : Nat} {r s a b x y : α} (hw : Whole R ρ) (hr : ρ[i]? = some r) (hs : ρ[i + 1]? = some s) (lr : look R r = some (a, b)) (ls : look R s = some (x, y))
    (h1 : a ≠ x) (h2 : a ≠ y) (h3 : b ≠ x) (h4 : b ≠ y) (p q : α) : dayOf R ρ P p q = dayOf R (swp ρ i r s) P p q := by
  have hw' : Whole R (swp ρ i r s) := hw.perm (swp_perm hr hs)
  have key : ∀ (d : Nat) (f : α → Option Nat), (endsL R ρ).foldl (stepF d) f = (endsL R (swp ρ i r s)).foldl (stepF d) f := fun d f => by
    conv => lhs; rw [cut_at hr hs]
    unfold swp endsL
    simp only [List.filterMap_append, List.foldl_append]
    congr 1
    simp only [List.filterMap_cons, lr, ls, List.filterMap_nil, List.foldl_cons, List.foldl_nil]
    exact stepF_comm d _ h1 h2 h3 h4
  have days : ∀ n, dayF (dayS R ρ p n) = dayF (dayS R (swp ρ i r s) p n) := fun n => by
    induction n with
    | zero => rfl
    | succ n ih =>
      show dayF (part R ρ (n + 1) (dayS R ρ p n) ρ.length) = dayF (part R (swp ρ i r s) (n + 1) (dayS R (swp ρ i r s) p n) (swp ρ i r s).length)
      rw [part_foldl hw.sub _ (Nat.le_refl _), part_foldl hw'.sub _ (Nat.le_refl _), List.take_length, List.take_length, ih]
      exact key _ _
  unfold dayOf
  split
  · rfl
  · exact congrFun (days P.length) q
end
end RP
end

section
/-! plain mathematics, part C: trees. Ways as the law's own loop makes them; the stamps of news along a way; what an exchange changes -/
namespace RP
section
variable {α : Type} [DecidableEq α] {β : Type}
variable {R : List (Rd α)} {ρ P : List α} {p : α}

abbrev Wy (α : Type) := List (α × List α)
/-- one road of the law's loop over the roads -/
def pstep (W : Wy α) (e : Rd α) : Wy α :=
  match look W e.2.1, look W e.2.2 with
  | some w, none => W ++ [(e.2.2, w ++ [e.1])]
  | none, some w => W ++ [(e.2.1, w ++ [e.1])]
  | _, _ => W
def ppart (R : List (Rd α)) (W : Wy α) : Nat → Wy α
  | 0 => W
  | k + 1 => match R[k]? with
    | none => ppart R W k
    | some e => pstep (ppart R W k) e
def turns (R : List (Rd α)) (p : α) : Nat → Wy α
  | 0 => [(p, [])]
  | n + 1 => ppart R (turns R p n) R.length
/-- what stays true of the ways -/
structure WS (R : List (Rd α)) (p : α) (W : Wy α) : Prop where
  nd : (keys W).Nodup
  src : look W p = some []
  least : ∀ C : α → Prop, Shut R C → C p → ∀ q ∈ keys W, C q
  /-- each other entry has its road and its parent -/
  par : ∀ q w, look W q = some w → q = p ∨ ∃ x w' f, w = w' ++ [f] ∧ look W x = some w' ∧ ((f, x, q) ∈ R ∨ (f, q, x) ∈ R)
  /-- the last roads: unlike, and gone at both ends -/
  lnd : (W.filterMap fun e => e.2.getLast?).Nodup
  lend : ∀ f ∈ W.filterMap (fun e => e.2.getLast?), ∃ x y, (f, x, y) ∈ R ∧ has W x = true ∧ has W y = true
  llen : (W.filterMap fun e => e.2.getLast?).length + 1 = W.length
theorem WS.start : WS R p [(p, [])] where
  nd := by simp [keys]
  src := by simp [look]
  least := fun C _ hp q hq => by
    have : q = p := by simpa [keys] using hq
    subst this
    exact hp
  par := fun q w h => by
    simp only [look] at h
    split at h
    · rename_i e
      exact .inl e.symm
    · cases h
  lnd := List.nodup_nil
  lend := fun f hf => by cases hf
  llen := rfl
theorem WS.add {W : Wy α} (hN : (keys R).Nodup) (h : WS R p W) {f x y : α} {w : List α} (hm : (f, x, y) ∈ R ∨ (f, y, x) ∈ R) (hx : look W x = some w) (hy : look W y = none) : WS R p (W ++ [(y, w ++ [f])]) where
  nd := by
    have := look_none_iff.mp hy
    unfold keys at this ⊢
    rw [List.map_append]
    refine List.nodup_append.mpr ⟨h.nd, by simp, ?_⟩
    intro a ha b hb e
    have : b = y := by simpa using hb
    subst e this
    exact absurd ha (look_none_iff.mp hy)
  src := look_pre h.src
  least := fun C hC hp q hq => by
    unfold keys at hq
    rw [List.map_append, List.mem_append] at hq
    rcases hq with q1 | q1
    · exact h.least C hC hp q q1
    · have e : q = y := by simpa using q1
      subst e
      have cx : C x := h.least C hC hp x (has_iff.mp (has_of_look hx))
      rcases hm with z | z
      · exact (hC _ _ _ z).mp cx
      · exact (hC _ _ _ z).mpr cx
  par := fun q v hq => by
    rw [look_append, look_one] at hq
    cases e : look W q with
    | some v' =>
      rw [e] at hq
      have : v' = v := by simpa using hq
      subst this
      rcases h.par q v' e with z | ⟨x', w', f', e1, e2, e3⟩
      · exact .inl z
      · exact .inr ⟨x', w', f', e1, look_pre e2, e3⟩
    | none =>
      rw [e] at hq
      simp only [Option.none_or] at hq
      split at hq
      · rename_i e2
        subst e2
        cases hq
        exact .inr ⟨x, w, f, rfl, look_pre hx, hm⟩
      · cases hq
  lnd := by
    rw [List.filterMap_append]
    refine List.nodup_append.mpr ⟨h.lnd, by simp, ?_⟩
    intro a ha b hb e
    have hb' : b = f := by simpa using hb
    subst e hb'
    obtain ⟨x', y', m', h1, h2⟩ := h.lend a ha
    have hy' : has W y = false := has_false_iff.mpr hy
    have same : ∀ {u v : α × α}, (a, u) ∈ R → (a, v) ∈ R → u = v := fun {u v} m1 m2 => by
      have l1 := look_of_mem hN m1
      have l2 := look_of_mem hN m2
      rw [l1] at l2
      exact Option.some.inj l2
    rcases hm with z | z
    · have := same m' z
      cases this
      rw [hy'] at h2
      cases h2
    · have := same m' z
      cases this
      rw [hy'] at h1
      cases h1
  lend := fun g hg => by
    rw [List.filterMap_append, List.mem_append] at hg
    rcases hg with hg | hg
    · obtain ⟨x', y', m', h1, h2⟩ := h.lend g hg
      exact ⟨x', y', m', by rw [has_append, h1]; rfl, by rw [has_append, h2]; rfl⟩
    · have e : g = f := by simpa using hg
      subst e
      have hx1 : has (W ++ [(y, w ++ [g])]) x = true := by rw [has_append, has_of_look hx]; rfl
      have hy1 : has (W ++ [(y, w ++ [g])]) y = true := by rw [has_append]; simp [has, look]
      rcases hm with z | z
      · exact ⟨x, y, z, hx1, hy1⟩
      · exact ⟨y, x, z, hy1, hx1⟩
  llen := by
    rw [List.filterMap_append, List.length_append, List.length_append]
    have := h.llen
    simp
    omega
theorem WS.step {W : Wy α} (hN : (keys R).Nodup) (h : WS R p W) {e : Rd α} (hm : e ∈ R) : WS R p (pstep W e) := by
  obtain ⟨f, x, y⟩ := e
  unfold pstep
  cases hx : look W x with
  | none =>
    cases hy : look W y with
    | none => exact h
    | some w => exact h.add hN (.inr hm) hy hx
  | some w =>
    cases hy : look W y with
    | none => exact h.add hN (.inl hm) hx hy
    | some w2 => exact h
theorem WS.part {W : Wy α} (hN : (keys R).Nodup) (h : WS R p W) : ∀ k, WS R p (ppart R W k)
  | 0 => h
  | k + 1 => by
    simp only [ppart]
    split
    · exact h.part hN k
    · rename_i e he
      exact (h.part hN k).step hN (List.mem_of_getElem? he)
theorem ws_turns (hN : (keys R).Nodup) (p : α) : ∀ n, WS R p (turns R p n)
  | 0 => WS.start
  | n + 1 => (ws_turns hN p n).part hN _
theorem pstep_len (W : Wy α) (e : Rd α) : W.length ≤ (pstep W e).length := by
  unfold pstep
  split <;> simp
theorem ppart_mono (R : List (Rd α)) (W : Wy α) (k : Nat) : (ppart R W k).length ≤ (ppart R W (k + 1)).length := by
  simp only [ppart]
  split
  · exact Nat.le_refl _
  · exact pstep_len _ _
theorem ppart_len (R : List (Rd α)) (W : Wy α) (k : Nat) : ∀ j, (ppart R W k).length ≤ (ppart R W (k + j)).length
  | 0 => Nat.le_refl _
  | j + 1 => Nat.le_trans (ppart_len R W k j) (ppart_mono R W (k + j))
theorem pstep_idle {W : Wy α} {e : Rd α} (h : (pstep W e).length = W.length) : pstep W e = W ∧ has W e.2.1 = has W e.2.2 := by
  unfold pstep at h ⊢
  unfold has
  cases hx : look W e.2.1 <;> cases hy : look W e.2.2 <;> simp [hx, hy] at h ⊢
theorem pidle {W : Wy α} (hl : (ppart R W R.length).length = W.length) : Shut R fun q => has W q = true := by
  have same : ∀ k, k ≤ R.length → ppart R W k = W := fun k => by
    induction k with
    | zero => exact fun _ => rfl
    | succ k ih =>
      intro hk
      have ihk := ih (by omega)
      have h1 := ppart_len R W (k + 1) (R.length - (k + 1))
      rw [show k + 1 + (R.length - (k + 1)) = R.length by omega, hl] at h1
      have hlt : k < R.length := hk
      simp only [ppart, ihk, List.getElem?_eq_getElem hlt] at h1 ⊢
      exact (pstep_idle (Nat.le_antisymm h1 (pstep_len W R[k]))).1
  intro r x y hm
  obtain ⟨k, hk, e⟩ := List.mem_iff_getElem.mp hm
  have h1 := same (k + 1) hk
  simp only [ppart, same k (Nat.le_of_lt hk), List.getElem?_eq_getElem hk, e] at h1
  have := (pstep_idle (e := (r, x, y)) (congrArg List.length h1)).2
  show has W x = true ↔ has W y = true
  rw [this]
theorem WS.len {W : Wy α} (h : WS R p W) (hP : InP R P) (hp : p ∈ P) : W.length ≤ P.length := by
  have := sub_len h.nd (B := P) (h.least (fun q => q ∈ P) (fun r x y hm => ⟨fun _ => (hP.ends r x y hm).2, fun _ => (hP.ends r x y hm).1⟩) hp)
  simpa [keys] using this
theorem pstep_shut {W : Wy α} (hs : Shut R fun q => has W q = true) {e : Rd α} (he : e ∈ R) : pstep W e = W := by
  obtain ⟨f, x, y⟩ := e
  have := hs f x y he
  unfold pstep has at *
  cases hx : look W x <;> cases hy : look W y <;> simp [hx, hy] at this ⊢
theorem ppart_shut {W : Wy α} (hs : Shut R fun q => has W q = true) : ∀ k, ppart R W k = W
  | 0 => rfl
  | k + 1 => by
    simp only [ppart]
    rw [ppart_shut hs k]
    split
    · rfl
    · rename_i e he
      exact pstep_shut hs (List.mem_of_getElem? he)
theorem turns_shut (hN : (keys R).Nodup) (hP : InP R P) (hp : p ∈ P) : Shut R fun q => has (turns R p P.length) q = true := by
  have core : ∀ n, (Shut R fun q => has (turns R p n) q = true) ∨ n < (turns R p n).length := fun n => by
    induction n with
    | zero => exact .inr (by simp [turns])
    | succ n ih =>
      by_cases h : Shut R fun q => has (turns R p n) q = true
      · left
        have : turns R p (n + 1) = turns R p n := ppart_shut h _
        rw [this]
        exact h
      · right
        have h1 := ppart_len R (turns R p n) 0 R.length
        rw [Nat.zero_add] at h1
        have h1 : (turns R p n).length ≤ (turns R p (n + 1)).length := h1
        rcases Nat.lt_or_ge (turns R p n).length (turns R p (n + 1)).length with z | z
        · rcases ih with q | q
          · exact absurd q h
          · omega
        · exact absurd (pidle (W := turns R p n) (Nat.le_antisymm z h1)) h
  rcases core P.length with q | q
  · exact q
  · have := (ws_turns hN p P.length).len hP hp
    omega

/-- a tree: one road fewer than places, and one piece -/
structure Tree (R : List (Rd α)) (P : List α) : Prop where
  one : R.length + 1 = P.length
  piece : ∀ C : α → Prop, Shut R C → ∀ p ∈ P, C p → ∀ q ∈ P, C q
/-- the way from p to q, as the law has it -/
def way (R : List (Rd α)) (P : List α) (p q : α) : List α := (look (turns R p P.length) q).getD []

/-- a tree hung up at p -/
structure Hung (R : List (Rd α)) (P : List α) (p : α) (w : α → List α) : Prop where
  root : w p = []
  road : ∀ f x y, (f, x, y) ∈ R → w y = w x ++ [f] ∨ w x = w y ++ [f]
  par : ∀ q ∈ P, q = p ∨ ∃ x f, x ∈ P ∧ w q = w x ++ [f] ∧ ((f, x, q) ∈ R ∨ (f, q, x) ∈ R)
theorem look_way {q : α} (hN : (keys R).Nodup) (hP : InP R P) (hT : Tree R P) (hp : p ∈ P) (hq : q ∈ P) : look (turns R p P.length) q = some (way R P p q) := by
  have h := ws_turns hN p P.length
  have := hT.piece _ (turns_shut hN hP hp) p hp (has_of_look h.src) q hq
  unfold has at this
  unfold way
  cases e : look (turns R p P.length) q with
  | none => rw [e] at this; cases this
  | some w => rfl
theorem hung (hN : (keys R).Nodup) (hP : InP R P) (hT : Tree R P) (hp : p ∈ P) : Hung R P p (way R P p) := by
  have h := ws_turns hN p P.length
  have lw : ∀ q ∈ P, look (turns R p P.length) q = some (way R P p q) := fun q hq => look_way hN hP hT hp hq
  have inP : ∀ q w, look (turns R p P.length) q = some w → q ∈ P := fun q w e =>
    h.least (fun q => q ∈ P) (fun r x y hm => ⟨fun _ => (hP.ends r x y hm).2, fun _ => (hP.ends r x y hm).1⟩) hp q (has_iff.mp (has_of_look e))
  have par : ∀ q ∈ P, q = p ∨ ∃ x f, x ∈ P ∧ way R P p q = way R P p x ++ [f] ∧ ((f, x, q) ∈ R ∨ (f, q, x) ∈ R) := fun q hq => by
    rcases h.par q _ (lw q hq) with z | ⟨x, w', f, e1, e2, e3⟩
    · exact .inl z
    · refine .inr ⟨x, f, inP x _ e2, ?_, e3⟩
      rw [e1]
      have : way R P p x = w' := by
        unfold way
        rw [e2]
        rfl
      rw [this]
  refine ⟨?_, fun f x y hm => ?_, par⟩
  · unfold way
    rw [h.src]
    rfl
  · -- every road is some place's last one
    have l1 : (turns R p P.length).length = P.length := by
      refine Nat.le_antisymm (h.len hP hp) ?_
      have := sub_len hP.nd (B := keys (turns R p P.length)) fun q hq => has_iff.mp (has_of_look (lw q hq))
      simpa [keys] using this
    have all := sub_all h.lnd (B := keys R) (fun g hg => by
      obtain ⟨x', y', m', _⟩ := h.lend g hg
      exact List.mem_map.mpr ⟨_, m', rfl⟩) (by
        have := h.llen
        have := hT.one
        unfold keys
        rw [List.length_map]
        omega) f (List.mem_map.mpr ⟨_, hm, rfl⟩)
    obtain ⟨⟨q, w⟩, hq, e⟩ := List.mem_filterMap.mp all
    have lq := look_of_mem h.nd hq
    have wq : way R P p q = w := by
      unfold way
      rw [lq]
      rfl
    have e : w.getLast? = some f := e
    have hf := look_of_mem hN hm
    rcases par q (inP q w lq) with z | ⟨x', f', hx', e1, e2⟩
    · subst z
      rw [h.src] at lq
      cases lq
      cases e
    · rw [← wq, e1] at e
      have ef : f' = f := by simpa using e
      subst ef
      rcases e2 with z | z
      · have := look_of_mem hN z
        rw [hf] at this
        cases this
        exact .inl e1
      · have := look_of_mem hN z
        rw [hf] at this
        cases this
        exact .inr e1
/-! ### what a hung tree tells -/
section
variable {w : α → List α}
theorem Hung.pre (h : Hung R P p w) : ∀ (n : Nat) (q : α), q ∈ P → (w q).length = n → ∀ f ∈ w q, ∃ u ∈ P, ∃ x, (∃ t, w q = w u ++ t) ∧ w u = w x ++ [f] ∧ ((f, x, u) ∈ R ∨ (f, u, x) ∈ R)
  | 0, q, hq, hn, f, hf => by
    rw [List.length_eq_zero_iff.mp hn] at hf
    cases hf
  | n + 1, q, hq, hn, f, hf => by
    rcases h.par q hq with z | ⟨x, g, hx, e1, e2⟩
    · subst z
      rw [h.root] at hn
      cases hn
    · rw [e1] at hf
      rcases List.mem_append.mp hf with hf | hf
      · obtain ⟨u, hu, y, ⟨t, et⟩, e3, e4⟩ := Hung.pre h n x hx (by rw [e1] at hn; simpa using hn) f hf
        exact ⟨u, hu, y, ⟨t ++ [g], by rw [e1, et, List.append_assoc]⟩, e3, e4⟩
      · have : f = g := by simpa using hf
        subst this
        exact ⟨q, hq, x, ⟨[], by simp⟩, e1, e2⟩
/-- a road is the last one of one place alone -/
theorem Hung.child (h : Hung R P p w) (hN : (keys R).Nodup) {f u x v y : α} (hu : w u = w x ++ [f]) (ru : (f, x, u) ∈ R ∨ (f, u, x) ∈ R) (hv : w v = w y ++ [f]) (rv : (f, y, v) ∈ R ∨ (f, v, y) ∈ R) : u = v ∧ x = y := by
  have same : ∀ {a b : α × α}, (f, a) ∈ R → (f, b) ∈ R → a = b := fun {a b} m1 m2 => by
    have l1 := look_of_mem hN m1
    have l2 := look_of_mem hN m2
    rw [l1] at l2
    exact Option.some.inj l2
  have no : ¬ (u = y ∧ x = v) := fun ⟨e1, e2⟩ => by
    subst e1 e2
    rw [hv] at hu
    have := congrArg List.length hu
    simp at this
  rcases ru with ru | ru <;> rcases rv with rv | rv <;> have := same ru rv <;> cases this
  · exact ⟨rfl, rfl⟩
  · exact absurd ⟨rfl, rfl⟩ no
  · exact absurd ⟨rfl, rfl⟩ no
  · exact ⟨rfl, rfl⟩
theorem Hung.nodup (h : Hung R P p w) (hN : (keys R).Nodup) : ∀ (n : Nat) (q : α), q ∈ P → (w q).length = n → (w q).Nodup
  | 0, q, hq, hn => by
    rw [List.length_eq_zero_iff.mp hn]
    exact List.nodup_nil
  | n + 1, q, hq, hn => by
    rcases h.par q hq with z | ⟨x, g, hx, e1, e2⟩
    · subst z
      rw [h.root]
      exact List.nodup_nil
    · have hl : (w x).length = n := by rw [e1] at hn; simpa using hn
      rw [e1]
      refine List.nodup_append.mpr ⟨h.nodup hN n x hx hl, by simp, ?_⟩
      intro a ha b hb e
      have hb' : b = g := by simpa using hb
      subst e hb'
      obtain ⟨u, hu, y, ⟨t, et⟩, e3, e4⟩ := h.pre n x hx hl a ha
      have := (h.child hN e1 e2 e3 e4).1
      subst this
      have := congrArg List.length et
      rw [e1] at this
      simp at this
theorem Hung.nd (h : Hung R P p w) (hN : (keys R).Nodup) {q : α} (hq : q ∈ P) : (w q).Nodup := h.nodup hN _ q hq rfl
end

/-! ### walks -/
inductive Wk (R : List (Rd α)) (p : α) : List α → α → Prop
  | nil : Wk R p [] p
  | snoc {v : List α} {x f y : α} : Wk R p v x → ((f, x, y) ∈ R ∨ (f, y, x) ∈ R) → Wk R p (v ++ [f]) y
theorem Wk.cons {p x f : α} (h0 : (f, x, p) ∈ R ∨ (f, p, x) ∈ R) : ∀ {v : List α} {q : α}, Wk R p v q → Wk R x (f :: v) q
  | _, _, .nil => Wk.snoc (v := []) .nil h0
  | _, _, .snoc hw hr => Wk.snoc (v := f :: _) (Wk.cons h0 hw) hr
theorem Wk.rev {p : α} : ∀ {v : List α} {q : α}, Wk R p v q → Wk R q v.reverse p
  | _, _, .nil => .nil
  | _, _, .snoc hw hr => by
    rw [List.reverse_append]
    exact Wk.cons hr.symm (Wk.rev hw)
theorem Wk.inP (hP : InP R P) (hp : p ∈ P) : ∀ {v : List α} {q : α}, Wk R p v q → q ∈ P
  | _, _, .nil => hp
  | _, _, .snoc _ hr => by
    rcases hr with z | z
    · exact (hP.ends _ _ _ z).2
    · exact (hP.ends _ _ _ z).1
theorem Hung.wk {w : α → List α} (h : Hung R P p w) : ∀ (n : Nat) (q : α), q ∈ P → (w q).length = n → Wk R p (w q) q
  | 0, q, hq, hn => by
    rcases h.par q hq with z | ⟨x, g, hx, e1, e2⟩
    · subst z
      rw [h.root]
      exact .nil
    · rw [e1] at hn
      simp at hn
  | n + 1, q, hq, hn => by
    rcases h.par q hq with z | ⟨x, g, hx, e1, e2⟩
    · subst z
      rw [h.root]
      exact .nil
    · rw [e1]
      exact .snoc (Hung.wk h n x hx (by rw [e1] at hn; simpa using hn)) e2
/-- a walk on which no road comes twice is the way -/
theorem Hung.only {w : α → List α} (h : Hung R P p w) : ∀ {v : List α} {q : α}, Wk R p v q → v.Nodup → v = w q
  | _, _, .nil, _ => h.root.symm
  | _, _, .snoc (v := v) (x := x) (f := f) (y := y) hw hr, hn => by
    have hn' := List.nodup_append.mp hn
    have ih := Hung.only h hw hn'.1
    have hf : f ∉ v := fun z => hn'.2.2 f z f (by simp) rfl
    have hr2 : w y = w x ++ [f] ∨ w x = w y ++ [f] := by
      rcases hr with z | z
      · exact h.road _ _ _ z
      · exact (h.road _ _ _ z).symm
    rcases hr2 with z | z
    · rw [z, ih]
    · rw [← ih] at z
      exact absurd (by rw [z]; simp) hf
theorem way_rev (hN : (keys R).Nodup) (hP : InP R P) (hT : Tree R P) {q : α} (hp : p ∈ P) (hq : q ∈ P) : way R P q p = (way R P p q).reverse := by
  have h := hung hN hP hT hp
  have h2 := hung hN hP hT hq
  have := (h.wk _ q hq rfl).rev
  exact (h2.only this ((List.reverse_perm _).symm.nodup (h.nd hN hq))).symm
end
end RP
end

section
/-! plain mathematics, part D: in a tree the news keeps to the ways; an exchange of neighbours changes just what lies beyond both; the sum is nought -/
namespace RP
section
variable {α : Type} [DecidableEq α] {β : Type}
variable {R : List (Rd α)} {ρ P : List α} {p : α}

def pos : List α → α → Nat
  | [], _ => 0
  | y :: t, x => if y = x then 0 else pos t x + 1
theorem pos_get {l : List α} (hN : l.Nodup) : ∀ {k : Nat} {f : α}, l[k]? = some f → pos l f = k := by
  induction l with
  | nil => intro k f h; simp at h
  | cons a t ih =>
    intro k f h
    have hN' := List.nodup_cons.mp hN
    cases k with
    | zero =>
      have : a = f := by simpa using h
      simp [pos, this]
    | succ k =>
      have h : t[k]? = some f := by simpa using h
      have : a ≠ f := by
        rintro rfl
        exact hN'.1 (List.mem_of_getElem? h)
      simp only [pos, if_neg this, ih hN'.2 h]
theorem get_pos {l : List α} {f : α} (h : f ∈ l) : l[pos l f]? = some f := by
  induction l with
  | nil => cases h
  | cons a t ih =>
    by_cases e : a = f
    · simp [pos, e]
    · simp only [pos, if_neg e, List.getElem?_cons_succ]
      rcases List.mem_cons.mp h with z | z
      · exact absurd z.symm e
      · exact ih z
theorem pos_lt {l : List α} {f : α} (h : f ∈ l) : pos l f < l.length := (List.getElem?_eq_some_iff.mp (get_pos h)).1
theorem pos_inj {l : List α} {f g : α} (hf : f ∈ l) (hg : g ∈ l) (e : pos l f = pos l g) : f = g := by
  have h1 := get_pos hf
  have h2 := get_pos hg
  rw [e, h2] at h1
  exact (Option.some.inj h1).symm

instance (a b : Nat × Nat) : Decidable (leT a b) := by unfold leT; infer_instance
/-- the stamp behind the next walk of a road -/
def nt (t : Nat × Nat) (r : Nat) : Nat × Nat := (if t.2 ≤ r then t.1 else t.1 + 1, r + 1)
def stampA (ρ : List α) (w : List α) : Nat × Nat := w.foldl (fun t f => nt t (pos ρ f)) (1, 0)
theorem stampA_snoc (ρ w : List α) (f : α) : stampA ρ (w ++ [f]) = nt (stampA ρ w) (pos ρ f) := by
  unfold stampA
  rw [List.foldl_append]
  rfl
theorem look_wstep {F : Fd α} {d k : Nat} {f x y u c : α} (hl : look R f = some (x, y)) (huc : (x = u ∧ y = c) ∨ (x = c ∧ y = u)) (q : α) :
    look (wstep R d F k f) q = if has F u = has F c then look F q else if has F u = true then (if q = c then some (d, k + 1) else look F q) else (if q = u then some (d, k + 1) else look F q) := by
  unfold wstep
  rw [hl]
  have ap : ∀ {z : α}, has F z = false → look (F ++ [(z, d, k + 1)]) q = if q = z then some (d, k + 1) else look F q := fun {z} hz => by
    rw [look_append, look_one]
    by_cases e : q = z
    · subst e
      rw [has_false_iff.mp hz]
      simp
    · rw [if_neg (fun h => e h.symm), if_neg e]
      simp
  rcases huc with ⟨e1, e2⟩ | ⟨e1, e2⟩ <;> subst e1 e2
  · simp only
    cases hx : has F x <;> cases hy : has F y
    · simp
    · simp [ap hx]
    · simp [ap hy]
    · simp
  · simp only
    cases hx : has F x <;> cases hy : has F y
    · simp
    · simp [ap hx]
    · simp [ap hy]
    · simp

section
variable {w : α → List α}
theorem Hung.stamp1 (h : Hung R P p w) {q : α} (hq : q ∈ P) : q = p ∨ ∃ x f, x ∈ P ∧ w q = w x ++ [f] ∧ ((f, x, q) ∈ R ∨ (f, q, x) ∈ R) ∧ stampA ρ (w q) = nt (stampA ρ (w x)) (pos ρ f) := by
  rcases h.par q hq with z | ⟨x, f, hx, e1, e2⟩
  · exact .inl z
  · exact .inr ⟨x, f, hx, e1, e2, by rw [e1, stampA_snoc]⟩
theorem Hung.stamps (h : Hung R P p w) (hw : Whole R ρ) (hP : InP R P) (hp : p ∈ P) :
    ∀ n k, k ≤ ρ.length → ∀ q ∈ P, look (part R ρ (n + 1) (dayS R ρ p n) k) q = if leT (stampA ρ (w q)) (n + 1, k) then some (stampA ρ (w q)) else none := by
  have rt : stampA ρ (w p) = (1, 0) := by rw [h.root]; rfl
  -- from the day's dawn to each walk
  have day : ∀ n, (∀ q ∈ P, look (dayS R ρ p n) q = if leT (stampA ρ (w q)) (n + 1, 0) then some (stampA ρ (w q)) else none) →
      ∀ k, k ≤ ρ.length → ∀ q ∈ P, look (part R ρ (n + 1) (dayS R ρ p n) k) q = if leT (stampA ρ (w q)) (n + 1, k) then some (stampA ρ (w q)) else none := by
    intro n h0 k
    induction k with
    | zero => exact fun _ q hq => h0 q hq
    | succ k ih =>
      intro hk q hq
      have hlt : k < ρ.length := hk
      have ih := ih (Nat.le_of_lt hlt)
      generalize hF : part R ρ (n + 1) (dayS R ρ p n) k = F at ih
      simp only [part, List.getElem?_eq_getElem hlt, hF]
      generalize hd : n + 1 = d at *
      have hf : ρ[k] ∈ ρ := List.getElem_mem hlt
      have pk : pos ρ ρ[k] = k := pos_get hw.ndr (List.getElem?_eq_getElem hlt)
      generalize hfe : ρ[k] = f at hf pk
      obtain ⟨⟨f', x, y⟩, hm, ef⟩ := List.mem_map.mp (hw.sub f hf)
      have ef : f' = f := ef
      subst ef
      have hl : look R f' = some (x, y) := look_of_mem hw.nd hm
      obtain ⟨hxP, hyP⟩ := hP.ends _ _ _ hm
      -- parent u, child c
      obtain ⟨u, c, huc, hcw, huP, hcP, hr⟩ : ∃ u c, ((x = u ∧ y = c) ∨ (x = c ∧ y = u)) ∧ w c = w u ++ [f'] ∧ u ∈ P ∧ c ∈ P ∧ ((f', u, c) ∈ R ∨ (f', c, u) ∈ R) := by
        rcases h.road _ _ _ hm with z | z
        · exact ⟨x, y, .inl ⟨rfl, rfl⟩, z, hxP, hyP, .inl hm⟩
        · exact ⟨y, x, .inr ⟨rfl, rfl⟩, z, hyP, hxP, .inr hm⟩
      have tc : stampA ρ (w c) = nt (stampA ρ (w u)) k := by rw [hcw, stampA_snoc, pk]
      have hasF : ∀ z ∈ P, has F z = decide (leT (stampA ρ (w z)) (d, k)) := fun z hz => by
        unfold has
        rw [ih z hz]
        by_cases e : leT (stampA ρ (w z)) (d, k)
        · rw [if_pos e, decide_eq_true e]; rfl
        · rw [if_neg e, decide_eq_false e]; rfl
      rw [look_wstep hl huc, hasF u huP, hasF c hcP]
      obtain ⟨ud, ui⟩ : ∃ a b, stampA ρ (w u) = (a, b) := ⟨_, _, rfl⟩
      obtain ⟨ub, ui⟩ := ui
      have l1 : leT (stampA ρ (w c)) (d, k) → leT (stampA ρ (w u)) (d, k) := by
        rw [tc, ui]
        unfold leT nt
        dsimp only
        split <;> omega
      have l2 : leT (stampA ρ (w u)) (d, k) → ¬ leT (stampA ρ (w c)) (d, k) → stampA ρ (w c) = (d, k + 1) := by
        rw [tc, ui]
        unfold leT nt
        dsimp only
        intro a1 a2
        have : (if ub ≤ k then ud else ud + 1) = d := by split at a2 <;> split <;> omega
        rw [this]
      have l3 : leT (stampA ρ (w c)) (d, k) → leT (stampA ρ (w c)) (d, k + 1) := by
        unfold leT
        dsimp only
        omega
      have l4 : ¬ leT (stampA ρ (w u)) (d, k) → ¬ leT (stampA ρ (w c)) (d, k + 1) := by
        rw [tc, ui]
        unfold leT nt
        dsimp only
        split <;> omega
      by_cases hqc : q = c
      · subst hqc
        by_cases hu : leT (stampA ρ (w u)) (d, k)
        · by_cases hc : leT (stampA ρ (w q)) (d, k)
          · rw [decide_eq_true hu, decide_eq_true hc, if_pos rfl, ih q hq, if_pos hc, if_pos (l3 hc)]
          · rw [decide_eq_true hu, decide_eq_false hc, if_neg (by decide), if_pos rfl, if_pos rfl, l2 hu hc, if_pos (.inr ⟨rfl, Nat.le_refl _⟩)]
        · have hc : ¬ leT (stampA ρ (w q)) (d, k) := fun z => hu (l1 z)
          rw [decide_eq_false hu, decide_eq_false hc, if_pos rfl, ih q hq, if_neg hc, if_neg (l4 hu)]
      · -- another place: nothing comes now
        have stay : leT (stampA ρ (w q)) (d, k + 1) ↔ leT (stampA ρ (w q)) (d, k) := by
          rcases h.stamp1 (ρ := ρ) hq with z | ⟨z, g, hz, e1, e2, e3⟩
          · subst z
            rw [rt]
            unfold leT
            dsimp only
            omega
          · have hg : g ∈ ρ := by
              rcases e2 with e2 | e2
              · exact hw.all g (List.mem_map.mpr ⟨_, e2, rfl⟩)
              · exact hw.all g (List.mem_map.mpr ⟨_, e2, rfl⟩)
            have hne : pos ρ g ≠ k := fun e => by
              have : g = f' := pos_inj hg hf (e.trans pk.symm)
              subst this
              exact hqc (h.child hw.nd e1 e2 hcw hr).1
            rw [e3]
            unfold leT nt
            dsimp only
            omega
        have same : (if leT (stampA ρ (w q)) (d, k + 1) then some (stampA ρ (w q)) else none) = look F q := by
          rw [ih q hq]
          by_cases z : leT (stampA ρ (w q)) (d, k)
          · rw [if_pos z, if_pos (stay.mpr z)]
          · rw [if_neg z, if_neg fun z2 => z (stay.mp z2)]
        rw [same, if_neg hqc]
        by_cases hu : leT (stampA ρ (w u)) (d, k)
        · rw [decide_eq_true hu]
          split <;> rfl
        · have hc : ¬ leT (stampA ρ (w c)) (d, k) := fun z => hu (l1 z)
          rw [decide_eq_false hu, decide_eq_false hc, if_pos rfl]
  have start : ∀ n, ∀ q ∈ P, look (dayS R ρ p n) q = if leT (stampA ρ (w q)) (n + 1, 0) then some (stampA ρ (w q)) else none := by
    intro n
    induction n with
    | zero =>
      intro q hq
      rcases h.stamp1 (ρ := ρ) hq with z | ⟨z, g, hz, e1, e2, e3⟩
      · subst z
        rw [rt]
        simp [dayS, look, leT]
      · have hqp : p ≠ q := fun z => by
          subst z
          rw [h.root] at e1
          have := congrArg List.length e1
          simp at this
        have ge : ∀ v : List α, 1 ≤ (stampA ρ v).1 := by
          have aux : ∀ (v : List α) (t : Nat × Nat), 1 ≤ t.1 → 1 ≤ (v.foldl (fun t f => nt t (pos ρ f)) t).1 := by
            intro v
            induction v with
            | nil => exact fun t ht => ht
            | cons a v ih =>
              intro t ht
              refine ih _ ?_
              unfold nt
              dsimp only
              split <;> omega
          exact fun v => aux v (1, 0) (Nat.le_refl _)
        have g1 := ge (w z)
        have : ¬ leT (stampA ρ (w q)) (0 + 1, 0) := by
          rw [e3]
          unfold leT nt
          dsimp only
          split <;> omega
        rw [if_neg this]
        simp [dayS, look, hqp]
    | succ n ih =>
      intro q hq
      have h1 := day n ih ρ.length (Nat.le_refl _) q hq
      show look (part R ρ (n + 1) (dayS R ρ p n) ρ.length) q = _
      rw [h1]
      have : leT (stampA ρ (w q)) (n + 1, ρ.length) ↔ leT (stampA ρ (w q)) (n + 1 + 1, 0) := by
        rcases h.stamp1 (ρ := ρ) hq with z | ⟨z, g, hz, e1, e2, e3⟩
        · subst z
          rw [rt]
          unfold leT
          dsimp only
          omega
        · have hg : g ∈ ρ := by
            rcases e2 with e2 | e2
            · exact hw.all g (List.mem_map.mpr ⟨_, e2, rfl⟩)
            · exact hw.all g (List.mem_map.mpr ⟨_, e2, rfl⟩)
          have := pos_lt hg
          rw [e3]
          unfold leT nt
          dsimp only
          omega
      by_cases z : leT (stampA ρ (w q)) (n + 1, ρ.length)
      · rw [if_pos z, if_pos (this.mp z)]
      · rw [if_neg z, if_neg fun z2 => z (this.mpr z2)]
  exact fun n k hk => day n (start n) k hk
end
theorem tree_days (hw : Whole R ρ) (hP : InP R P) (hT : Tree R P) {q : α} (hp : p ∈ P) (hq : q ∈ P) : dayOf R ρ P p q = if q = p then some 0 else some (stampA ρ (way R P p q)).1 := by
  have h := hung hw.nd hP hT hp
  have h1 : look (fin R ρ P p) q = _ := h.stamps hw hP hp P.length 0 (Nat.zero_le _) q hq
  have h2 := hT.piece _ (fin_closed hw hP hp) p hp (has_of_look fin_sound.src) q hq
  unfold dayOf
  by_cases e : q = p
  · rw [if_pos e, if_pos e]
  · rw [if_neg e, if_neg e]
    unfold has at h2
    rw [h1] at h2 ⊢
    by_cases z : leT (stampA ρ (way R P p q)) (P.length + 1, 0)
    · rw [if_pos z]
      rfl
    · rw [if_neg z] at h2
      cases h2

/-! ### what an exchange adds along a way -/
def dl (r s g f : α) : Int := if g = r ∧ f = s then 1 else if g = s ∧ f = r then -1 else 0
def cnt (r s : α) : List α → Int
  | [] => 0
  | [_] => 0
  | g :: f :: t => dl r s g f + cnt r s (f :: t)
section
variable {r s : α} {i : Nat}
theorem swp_pos (hN : ρ.Nodup) (hr : ρ[i]? = some r) (hs : ρ[i + 1]? = some s) :
    pos ρ r = i ∧ pos ρ s = i + 1 ∧ pos (swp ρ i r s) s = i ∧ pos (swp ρ i r s) r = i + 1 ∧ ∀ f ∈ ρ, f ≠ r → f ≠ s → pos (swp ρ i r s) f = pos ρ f := by
  have hl : i + 1 < ρ.length := (List.getElem?_eq_some_iff.mp hs).1
  have hN' : (swp ρ i r s).Nodup := (swp_perm hr hs).symm.nodup hN
  refine ⟨pos_get hN hr, pos_get hN hs, pos_get hN' (swp_get0 hl), pos_get hN' (swp_get1 hl), fun f hf h1 h2 => ?_⟩
  have hg := get_pos hf
  refine pos_get hN' ?_
  rw [swp_get hl (fun e => ?_) (fun e => ?_)]
  · exact hg
  · rw [e, hr] at hg
    exact h1 (Option.some.inj hg).symm
  · rw [e, hs] at hg
    exact h2 (Option.some.inj hg).symm
theorem cnt_fold (hN : ρ.Nodup) (hr : ρ[i]? = some r) (hs : ρ[i + 1]? = some s) :
    ∀ (t : List α) (g : α) (D D' : Nat), (g :: t).Nodup → (∀ f ∈ g :: t, f ∈ ρ) →
      (((t.foldl (fun t f => nt t (pos (swp ρ i r s) f)) (D', pos (swp ρ i r s) g + 1)).1 : Nat) : Int) - ((t.foldl (fun t f => nt t (pos ρ f)) (D, pos ρ g + 1)).1 : Nat) = D' - D + cnt r s (g :: t) := by
  obtain ⟨p1, p2, p3, p4, p5⟩ := swp_pos hN hr hs
  have hrm : r ∈ ρ := List.mem_of_getElem? hr
  have hsm : s ∈ ρ := List.mem_of_getElem? hs
  have hrs : r ≠ s := fun e => by
    subst e
    omega
  intro t
  induction t with
  | nil =>
    intro g D D' _ _
    simp [cnt]
  | cons f t ih =>
    intro g D D' hnd hin
    have hnd' := List.nodup_cons.mp hnd
    have hgf : g ≠ f := fun e => hnd'.1 (by rw [e]; exact List.mem_cons_self)
    have hg : g ∈ ρ := hin g List.mem_cons_self
    have hf : f ∈ ρ := hin f (List.mem_cons_of_mem _ List.mem_cons_self)
    have := ih f (if pos ρ g + 1 ≤ pos ρ f then D else D + 1) (if pos (swp ρ i r s) g + 1 ≤ pos (swp ρ i r s) f then D' else D' + 1) hnd'.2 fun z hz => hin z (List.mem_cons_of_mem _ hz)
    simp only [List.foldl_cons]
    show (((t.foldl (fun t f => nt t (pos (swp ρ i r s) f)) (nt (D', pos (swp ρ i r s) g + 1) (pos (swp ρ i r s) f))).1 : Nat) : Int) - ((t.foldl (fun t f => nt t (pos ρ f)) (nt (D, pos ρ g + 1) (pos ρ f))).1 : Nat) = _
    unfold nt at this ⊢
    dsimp only at this ⊢
    rw [this]
    show _ = (D' : Int) - D + (dl r s g f + cnt r s (f :: t))
    have key : ((if pos (swp ρ i r s) g + 1 ≤ pos (swp ρ i r s) f then D' else D' + 1 : Nat) : Int) - ((if pos ρ g + 1 ≤ pos ρ f then D else D + 1 : Nat) : Int) = D' - D + dl r s g f := by
      have inj : ∀ {a b : α}, a ∈ ρ → b ∈ ρ → a ≠ b → pos ρ a ≠ pos ρ b := fun ha hb hne e => hne (pos_inj ha hb e)
      by_cases g1 : g = r
      · subst g1
        by_cases f1 : f = s
        · subst f1
          have hd : dl g f g f = 1 := if_pos ⟨rfl, rfl⟩
          rw [hd, p1, p2, p3, p4]
          split <;> split <;> omega
        · have h5 := p5 f hf (fun e => hgf e.symm) f1
          have n1 := inj hf hsm f1
          have hd : dl g s g f = 0 := (if_neg (fun z => f1 z.2)).trans (if_neg (fun z => hrs z.1))
          rw [hd, p1, p4, h5]
          rw [p2] at n1
          split <;> split <;> omega
      · by_cases g2 : g = s
        · subst g2
          by_cases f1 : f = r
          · subst f1
            have hd : dl f g g f = -1 := (if_neg (fun z => g1 z.1)).trans (if_pos ⟨rfl, rfl⟩)
            rw [hd, p1, p2, p3, p4]
            split <;> split <;> omega
          · have h5 := p5 f hf f1 (fun e => hgf e.symm)
            have n1 := inj hf hrm f1
            have n2 := inj hf hg (fun e => hgf e.symm)
            have hd : dl r g g f = 0 := (if_neg (fun z => g1 z.1)).trans (if_neg (fun z => f1 z.2))
            rw [hd, p2, p3, h5]
            rw [p1] at n1
            rw [p2] at n2
            split <;> split <;> omega
        · have h6 := p5 g hg g1 g2
          have m1 := inj hg hrm g1
          have m2 := inj hg hsm g2
          rw [p1] at m1
          rw [p2] at m2
          have hd : dl r s g f = 0 := (if_neg (fun z => g1 z.1)).trans (if_neg (fun z => g2 z.1))
          rw [hd, h6]
          by_cases f1 : f = r
          · subst f1
            rw [p1, p4]
            split <;> split <;> omega
          · by_cases f2 : f = s
            · subst f2
              rw [p2, p3]
              split <;> split <;> omega
            · rw [p5 f hf f1 f2]
              split <;> omega
    omega
theorem cnt_stamp (hN : ρ.Nodup) (hr : ρ[i]? = some r) (hs : ρ[i + 1]? = some s) {w : List α} (hw : w.Nodup) (hin : ∀ f ∈ w, f ∈ ρ) :
    (((stampA (swp ρ i r s) w).1 : Nat) : Int) - ((stampA ρ w).1 : Nat) = cnt r s w := by
  cases w with
  | nil => simp [stampA, cnt]
  | cons g t =>
    have := cnt_fold hN hr hs t g 1 1 hw hin
    unfold stampA
    simp only [List.foldl_cons]
    show (((t.foldl (fun t f => nt t (pos (swp ρ i r s) f)) (nt (1, 0) (pos (swp ρ i r s) g))).1 : Nat) : Int) - ((t.foldl (fun t f => nt t (pos ρ f)) (nt (1, 0) (pos ρ g))).1 : Nat) = _
    have e : ∀ n : Nat, nt (1, 0) n = (1, n + 1) := fun n => by simp [nt]
    rw [e, e, this]
    omega

/-! ### counting -/
theorem cnt_other {h : α} {l : List α} (h1 : h ≠ r) (h2 : h ≠ s) : cnt r s (h :: l) = cnt r s l := by
  cases l with
  | nil => rfl
  | cons a t => simp [cnt, dl, h1, h2]
theorem cnt_zero : ∀ {l : List α}, (r ∉ l ∨ s ∉ l) → cnt r s l = 0
  | [], _ => rfl
  | [_], _ => rfl
  | g :: f :: t, h => by
    have ih : cnt r s (f :: t) = 0 := cnt_zero (h.imp (fun z q => z (List.mem_cons_of_mem _ q)) (fun z q => z (List.mem_cons_of_mem _ q)))
    have : dl r s g f = 0 := by
      unfold dl
      rw [if_neg, if_neg]
      · rintro ⟨rfl, rfl⟩
        rcases h with h | h
        · exact h (List.mem_cons_of_mem _ List.mem_cons_self)
        · exact h List.mem_cons_self
      · rintro ⟨rfl, rfl⟩
        rcases h with h | h
        · exact h List.mem_cons_self
        · exact h (List.mem_cons_of_mem _ List.mem_cons_self)
    simp [cnt, this, ih]
theorem cnt_rs (hrs : r ≠ s) : ∀ {w1 w2 : List α}, (w1 ++ r :: s :: w2).Nodup → cnt r s (w1 ++ r :: s :: w2) = 1 ∧ pos (w1 ++ r :: s :: w2) r < pos (w1 ++ r :: s :: w2) s
  | [], w2, h => by
    have h' := List.nodup_cons.mp h
    have : cnt r s (s :: w2) = 0 := cnt_zero (.inl h'.1)
    simp only [List.nil_append]
    refine ⟨by simp [cnt, dl, this], by simp [pos, hrs]⟩
  | a :: w1, w2, h => by
    have h' := List.nodup_cons.mp (show (a :: (w1 ++ r :: s :: w2)).Nodup from h)
    have a1 : a ≠ r := fun e => h'.1 (by rw [e]; simp)
    have a2 : a ≠ s := fun e => h'.1 (by rw [e]; simp)
    obtain ⟨i1, i2⟩ := cnt_rs hrs h'.2
    refine ⟨by rw [List.cons_append, cnt_other a1 a2, i1], ?_⟩
    simp only [List.cons_append, pos, if_neg a1, if_neg a2]
    omega
theorem cnt_sr (hrs : r ≠ s) : ∀ {w1 w2 : List α}, (w1 ++ s :: r :: w2).Nodup → cnt r s (w1 ++ s :: r :: w2) = -1 ∧ ¬ pos (w1 ++ s :: r :: w2) r < pos (w1 ++ s :: r :: w2) s
  | [], w2, h => by
    have h' := List.nodup_cons.mp h
    have : cnt r s (r :: w2) = 0 := cnt_zero (.inr h'.1)
    simp only [List.nil_append]
    refine ⟨by simp [cnt, dl, this, hrs.symm], by simp [pos, hrs.symm]⟩
  | a :: w1, w2, h => by
    have h' := List.nodup_cons.mp (show (a :: (w1 ++ s :: r :: w2)).Nodup from h)
    have a1 : a ≠ r := fun e => h'.1 (by rw [e]; simp)
    have a2 : a ≠ s := fun e => h'.1 (by rw [e]; simp)
    obtain ⟨i1, i2⟩ := cnt_sr hrs h'.2
    refine ⟨by rw [List.cons_append, cnt_other a1 a2, i1], ?_⟩
    simp only [List.cons_append, pos, if_neg a1, if_neg a2]
    omega
theorem cnt_adj : ∀ {l : List α}, cnt r s l ≠ 0 → ∃ w1 w2, l = w1 ++ r :: s :: w2 ∨ l = w1 ++ s :: r :: w2
  | [], h => absurd rfl h
  | [_], h => absurd rfl h
  | g :: f :: t, h => by
    by_cases e : dl r s g f = 0
    · have h2 : cnt r s (f :: t) ≠ 0 := fun z => h (by simp [cnt, e, z])
      obtain ⟨w1, w2, q⟩ := cnt_adj h2
      exact ⟨g :: w1, w2, by rcases q with q | q <;> simp [q]⟩
    · unfold dl at e
      split at e
      · rename_i z
        exact ⟨[], t, .inl (by simp [z.1, z.2])⟩
      · split at e
        · rename_i z
          exact ⟨[], t, .inr (by simp [z.1, z.2])⟩
        · exact absurd rfl e
theorem dl_neg (hrs : r ≠ s) (g f : α) : dl r s f g = - dl r s g f := by
  unfold dl
  by_cases h1 : g = r ∧ f = s
  · rw [if_pos h1, if_neg (fun z => hrs (h1.1.symm.trans z.2)), if_pos ⟨h1.2, h1.1⟩]
  · by_cases h2 : g = s ∧ f = r
    · rw [if_pos ⟨h2.2, h2.1⟩, if_neg h1, if_pos h2]
      rfl
    · rw [if_neg (fun z => h2 ⟨z.2, z.1⟩), if_neg (fun z => h1 ⟨z.2, z.1⟩), if_neg h1, if_neg h2]
      rfl
theorem cnt_snoc (r s : α) (g f : α) : ∀ w : List α, cnt r s (w ++ [g] ++ [f]) = cnt r s (w ++ [g]) + dl r s g f
  | [] => by simp [cnt]
  | [a] => by simp [cnt]
  | a :: b :: t => by
    have := cnt_snoc r s g f (b :: t)
    simp only [List.cons_append, cnt] at this ⊢
    omega
theorem cnt_rev (hrs : r ≠ s) : ∀ w : List α, cnt r s w.reverse = - cnt r s w
  | [] => rfl
  | [a] => rfl
  | g :: f :: t => by
    have ih := cnt_rev hrs (f :: t)
    have e : (g :: f :: t).reverse = t.reverse ++ [f] ++ [g] := by simp
    have e2 : (f :: t).reverse = t.reverse ++ [f] := by simp
    rw [e, cnt_snoc, ← e2, ih, dl_neg hrs]
    simp only [cnt]
    omega
end

/-! ### roads that follow one another on a walk have a place in common -/
def Apart (a b x y : α) : Prop := a ≠ x ∧ a ≠ y ∧ b ≠ x ∧ b ≠ y
theorem Wk.last {v : List α} {q g : α} (h : Wk R p (v ++ [g]) q) : ∃ x, Wk R p v x ∧ ((g, x, q) ∈ R ∨ (g, q, x) ∈ R) := by
  generalize e : v ++ [g] = v' at h
  cases h with
  | nil => simp at e
  | snoc hw hr =>
    obtain ⟨e1, e2⟩ := List.append_inj' e rfl
    have e2 := (List.cons.inj e2).1
    subst e1 e2
    exact ⟨_, hw, hr⟩
theorem Wk.share : ∀ {v : List α} {q : α}, Wk R p v q → ∀ {w1 w2 : List α} {g f : α}, v = w1 ++ g :: f :: w2 → ∃ z, (∃ x, (g, x, z) ∈ R ∨ (g, z, x) ∈ R) ∧ (∃ x, (f, x, z) ∈ R ∨ (f, z, x) ∈ R)
  | _, _, .nil, w1, w2, g, f, e => by simp at e
  | _, _, .snoc (v := v) (x := x) (f := f') (y := y) hw hr, w1, w2, g, f, e => by
    rcases List.eq_nil_or_concat w2 with z | ⟨w3, f3, z⟩
    · subst z
      have e : v ++ [f'] = (w1 ++ [g]) ++ [f] := by rw [e]; simp
      obtain ⟨e1, e2⟩ := List.append_inj' e rfl
      have e2 : f' = f := by simpa using e2
      subst e1 e2
      obtain ⟨x', _, hx'⟩ := hw.last
      exact ⟨x, ⟨x', hx'⟩, ⟨y, hr.symm⟩⟩
    · subst z
      have e : v ++ [f'] = (w1 ++ g :: f :: w3) ++ [f3] := by rw [e]; simp
      obtain ⟨e1, _⟩ := List.append_inj' e rfl
      exact Wk.share hw e1

/-- the law's own cell in a tree -/
def treeCell (R : List (Rd α)) (P : List α) (r s : α) (ap : Bool) (p q : α) : Option (α × α × Int) :=
  if (r ∈ way R P p q ∧ s ∈ way R P p q) ∧ ap = false then some (p, q, if pos (way R P p q) r < pos (way R P p q) s then 1 else -1) else none
def treeDue (R : List (Rd α)) (P : List α) (r s : α) (ap : Bool) : List (α × α × Int) := P.flatMap fun p => P.filterMap fun q => treeCell R P r s ap p q

theorem pre_cmp {l a b t t' : List α} (h1 : l = a ++ t) (h2 : l = b ++ t') (hl : a.length < b.length) : ∃ u, b = a ++ u ∧ u ≠ [] := by
  have : a = b.take a.length := by
    have e1 : l.take a.length = a := by rw [h1]; simp
    have e2 : l.take a.length = b.take a.length := by rw [h2, List.take_append_of_le_length (Nat.le_of_lt hl)]
    rw [← e2, e1]
  refine ⟨b.drop a.length, ?_, fun z => ?_⟩
  · have h3 := (List.take_append_drop a.length b).symm
    rw [← this] at h3
    exact h3
  · have := congrArg List.length z
    simp at this
    omega
/-- both on a way, with a common place: one behind the other -/
theorem Hung.next {w : α → List α} (h : Hung R P p w) (hN : (keys R).Nodup) {r s a b x y q : α} (hq : q ∈ P) (hrs : r ≠ s) (lr : look R r = some (a, b)) (ls : look R s = some (x, y)) (hr : r ∈ w q) (hs : s ∈ w q) (hap : ¬ Apart a b x y) :
    ∃ w1 w2, w q = w1 ++ r :: s :: w2 ∨ w q = w1 ++ s :: r :: w2 := by
  obtain ⟨u, hu, x1, ⟨t1, et1⟩, eu, ru⟩ := h.pre _ q hq rfl r hr
  obtain ⟨v, hv, y1, ⟨t2, et2⟩, ev, rv⟩ := h.pre _ q hq rfl s hs
  have er : (a = x1 ∧ b = u) ∨ (a = u ∧ b = x1) := by
    rcases ru with z | z
    · have := look_of_mem hN z; rw [lr] at this; cases this; exact .inl ⟨rfl, rfl⟩
    · have := look_of_mem hN z; rw [lr] at this; cases this; exact .inr ⟨rfl, rfl⟩
  have es : (x = y1 ∧ y = v) ∨ (x = v ∧ y = y1) := by
    rcases rv with z | z
    · have := look_of_mem hN z; rw [ls] at this; cases this; exact .inl ⟨rfl, rfl⟩
    · have := look_of_mem hN z; rw [ls] at this; cases this; exact .inr ⟨rfl, rfl⟩
  have lu : (w u).length = (w x1).length + 1 := by rw [eu]; simp
  have lv : (w v).length = (w y1).length + 1 := by rw [ev]; simp
  -- the common place
  have common : x1 = y1 ∨ x1 = v ∨ u = y1 ∨ u = v := by
    refine Classical.byContradiction fun hn => hap ?_
    have n1 : x1 ≠ y1 := fun z => hn (.inl z)
    have n2 : x1 ≠ v := fun z => hn (.inr (.inl z))
    have n3 : u ≠ y1 := fun z => hn (.inr (.inr (.inl z)))
    have n4 : u ≠ v := fun z => hn (.inr (.inr (.inr z)))
    rcases er with ⟨rfl, rfl⟩ | ⟨rfl, rfl⟩ <;> rcases es with ⟨rfl, rfl⟩ | ⟨rfl, rfl⟩
    · exact ⟨n1, n2, n3, n4⟩
    · exact ⟨n2, n1, n4, n3⟩
    · exact ⟨n3, n4, n1, n2⟩
    · exact ⟨n4, n3, n2, n1⟩
  have eqlen : (w u).length ≠ (w v).length := fun z => by
    have := List.append_inj (et1.symm.trans et2) z
    rw [eu, ev] at this
    have := (List.append_inj' this.1 rfl).2
    exact hrs (by simpa using this)
  rcases Nat.lt_or_gt_of_ne eqlen with hl | hl
  · have uy : u = y1 := by
      rcases common with z | z | z | z
      · rw [z] at lu; omega
      · rw [z] at lu; omega
      · exact z
      · rw [z] at hl; exact absurd hl (Nat.lt_irrefl _)
    subst uy
    refine ⟨w x1, t2, .inl ?_⟩
    rw [et2, ev, eu]
    simp
  · have vx : v = x1 := by
      rcases common with z | z | z | z
      · rw [← z] at lv; omega
      · exact z.symm
      · rw [← z] at lv; omega
      · rw [z] at hl; exact absurd hl (Nat.lt_irrefl _)
    subst vx
    refine ⟨w y1, t1, .inr ?_⟩
    rw [et1, eu, ev]
    simp
section
variable {r s a b x y : α} {i : Nat} {ap : Bool}
theorem cnt_way (hw : Whole R ρ) (hP : InP R P) (hT : Tree R P) (hrs : r ≠ s) (lr : look R r = some (a, b)) (ls : look R s = some (x, y)) (hap : ap = true ↔ Apart a b x y) {q : α} (hp : p ∈ P) (hq : q ∈ P) :
    cnt r s (way R P p q) = if (r ∈ way R P p q ∧ s ∈ way R P p q) ∧ ap = false then (if pos (way R P p q) r < pos (way R P p q) s then 1 else -1) else 0 := by
  have h := hung hw.nd hP hT hp
  have nd := h.nd hw.nd hq
  by_cases hc : (r ∈ way R P p q ∧ s ∈ way R P p q) ∧ ap = false
  · rw [if_pos hc]
    have nap : ¬ Apart a b x y := fun z => by rw [hap.mpr z] at hc; cases hc.2
    obtain ⟨w1, w2, e | e⟩ := h.next hw.nd hq hrs lr ls hc.1.1 hc.1.2 nap
    · rw [e] at nd ⊢
      obtain ⟨c1, c2⟩ := cnt_rs hrs nd
      rw [c1, if_pos c2]
    · rw [e] at nd ⊢
      obtain ⟨c1, c2⟩ := cnt_sr hrs nd
      rw [c1, if_neg c2]
  · rw [if_neg hc]
    by_cases hm : r ∈ way R P p q ∧ s ∈ way R P p q
    · have hap' : Apart a b x y := hap.mp (by
        cases e : ap
        · exact absurd ⟨hm, e⟩ hc
        · rfl)
      refine Classical.byContradiction fun hz => ?_
      obtain ⟨w1, w2, e⟩ := cnt_adj hz
      have wk := h.wk _ q hq rfl
      have ends : ∀ {g z : α} {u v : α}, look R g = some (u, v) → (∃ x, (g, x, z) ∈ R ∨ (g, z, x) ∈ R) → z = u ∨ z = v := fun {g z u v} lg ⟨x', hx'⟩ => by
        rcases hx' with k | k
        · have := look_of_mem hw.nd k; rw [lg] at this; cases this; exact .inr rfl
        · have := look_of_mem hw.nd k; rw [lg] at this; cases this; exact .inl rfl
      obtain ⟨z, z1, z2⟩ : ∃ z, (z = a ∨ z = b) ∧ (z = x ∨ z = y) := by
        rcases e with e | e
        · obtain ⟨z, k1, k2⟩ := wk.share e
          exact ⟨z, ends lr k1, ends ls k2⟩
        · obtain ⟨z, k1, k2⟩ := wk.share e
          exact ⟨z, ends lr k2, ends ls k1⟩
      obtain ⟨n1, n2, n3, n4⟩ := hap'
      rcases z1 with rfl | rfl <;> rcases z2 with rfl | rfl
      · exact n1 rfl
      · exact n2 rfl
      · exact n3 rfl
      · exact n4 rfl
    · refine cnt_zero ?_
      by_cases h1 : r ∈ way R P p q
      · exact .inr fun h2 => hm ⟨h1, h2⟩
      · exact .inl h1
theorem way_in (hw : Whole R ρ) (hP : InP R P) (hT : Tree R P) {q : α} (hp : p ∈ P) (hq : q ∈ P) : ∀ f ∈ way R P p q, f ∈ ρ := fun f hf => by
  obtain ⟨u, _, x, _, _, ru⟩ := (hung hw.nd hP hT hp).pre _ q hq rfl f hf
  rcases ru with z | z
  · exact hw.all f (List.mem_map.mpr ⟨_, z, rfl⟩)
  · exact hw.all f (List.mem_map.mpr ⟨_, z, rfl⟩)
theorem cell_tree (hw : Whole R ρ) (hP : InP R P) (hT : Tree R P) (hr : ρ[i]? = some r) (hs : ρ[i + 1]? = some s) {q : α} (hp : p ∈ P) (hq : q ∈ P) :
    cell R P ρ (swp ρ i r s) p q = if cnt r s (way R P p q) = 0 then none else some (p, q, cnt r s (way R P p q)) := by
  have hw' : Whole R (swp ρ i r s) := hw.perm (swp_perm hr hs)
  have e := cnt_stamp hw.ndr hr hs ((hung hw.nd hP hT hp).nd hw.nd hq) (way_in hw hP hT hp hq)
  unfold cell
  rw [tree_days hw hP hT hp hq, tree_days hw' hP hT hp hq]
  by_cases hqp : q = p
  · subst hqp
    rw [(hung hw.nd hP hT hp).root]
    simp [cnt]
  · rw [if_neg hqp, if_neg hqp, ← e]
    by_cases h0 : (stampA ρ (way R P p q)).1 = (stampA (swp ρ i r s) (way R P p q)).1
    · rw [if_pos (by rw [h0]), if_pos (by rw [h0]; omega)]
    · rw [if_neg (fun z => h0 (Option.some.inj z)), if_neg (fun z => h0 (by omega))]
      rfl
theorem due_tree (hw : Whole R ρ) (hP : InP R P) (hT : Tree R P) (hr : ρ[i]? = some r) (hs : ρ[i + 1]? = some s) (lr : look R r = some (a, b)) (ls : look R s = some (x, y)) (hap : ap = true ↔ Apart a b x y) :
    due R P ρ (swp ρ i r s) = treeDue R P r s ap := by
  have hrs : r ≠ s := fun e => by
    subst e
    have h1 := pos_get hw.ndr hr
    have h2 := pos_get hw.ndr hs
    omega
  have fm : ∀ {l : List α} {f g : α → Option (α × α × Int)}, (∀ q ∈ l, f q = g q) → l.filterMap f = l.filterMap g := fun {l f g} h => by
    induction l with
    | nil => rfl
    | cons c t ih =>
      simp only [List.filterMap_cons, h c List.mem_cons_self]
      rw [ih fun q hq => h q (List.mem_cons_of_mem _ hq)]
  have fl : ∀ {l : List α} {f g : α → List (α × α × Int)}, (∀ q ∈ l, f q = g q) → l.flatMap f = l.flatMap g := fun {l f g} h => by
    induction l with
    | nil => rfl
    | cons c t ih =>
      simp only [List.flatMap_cons, h c List.mem_cons_self]
      rw [ih fun q hq => h q (List.mem_cons_of_mem _ hq)]
  unfold due treeDue
  refine fl fun p hp => fm fun q hq => ?_
  rw [cell_tree hw hP hT hr hs hp hq, cnt_way hw hP hT hrs lr ls hap hp hq]
  unfold treeCell
  by_cases hc : (r ∈ way R P p q ∧ s ∈ way R P p q) ∧ ap = false
  · rw [if_pos hc, if_pos hc, if_neg]
    split <;> decide
  · rw [if_neg hc, if_neg hc, if_pos rfl]

/-! ### the sum -/
theorem sum_map_add (l : List α) (f g : α → Int) : (l.map fun q => f q + g q).sum = (l.map f).sum + (l.map g).sum := by
  induction l with
  | nil => rfl
  | cons c t ih =>
    simp only [List.map_cons, List.sum_cons, ih]
    omega
theorem sum_zero (l : List α) : (l.map fun _ => (0 : Int)).sum = 0 := by
  induction l with
  | nil => rfl
  | cons c t ih =>
    simp only [List.map_cons, List.sum_cons, ih]
    rfl
theorem sum_swap (l m : List α) (d : α → α → Int) : (l.map fun p => (m.map fun q => d p q).sum).sum = (m.map fun q => (l.map fun p => d p q).sum).sum := by
  induction l with
  | nil =>
    simp only [List.map_nil, List.sum_nil]
    exact (sum_zero m).symm
  | cons c t ih =>
    simp only [List.map_cons, List.sum_cons]
    rw [ih, sum_map_add]
theorem sum_neg (l : List α) (f : α → Int) : (l.map fun q => - f q).sum = - (l.map f).sum := by
  induction l with
  | nil => rfl
  | cons c t ih =>
    simp only [List.map_cons, List.sum_cons, ih]
    omega
theorem sum_congr {l : List α} {f g : α → Int} (h : ∀ q ∈ l, f q = g q) : (l.map f).sum = (l.map g).sum := by
  rw [List.map_congr_left h]
theorem sum_anti {l : List α} {d : α → α → Int} (h : ∀ p ∈ l, ∀ q ∈ l, d q p = - d p q) : (l.map fun p => (l.map fun q => d p q).sum).sum = 0 := by
  have e1 := sum_swap l l d
  have e2 : (l.map fun q => (l.map fun p => d p q).sum).sum = (l.map fun q => - (l.map fun p => d q p).sum).sum :=
    sum_congr fun q hq => by
      rw [← sum_neg]
      exact sum_congr fun p hp => h q hq p hp
  rw [sum_neg] at e2
  rw [e2] at e1
  omega
theorem sum_flatMap (l : List α) (f : α → List (α × α × Int)) : ((l.flatMap f).map (·.2.2)).sum = (l.map fun p => ((f p).map (·.2.2)).sum).sum := by
  induction l with
  | nil => rfl
  | cons c t ih =>
    simp only [List.flatMap_cons, List.map_append, List.sum_append, List.map_cons, List.sum_cons, ih]
theorem sum_filterMap (l : List α) (f : α → Option (α × α × Int)) : ((l.filterMap f).map (·.2.2)).sum = (l.map fun q => match f q with | some e => e.2.2 | none => 0).sum := by
  induction l with
  | nil => rfl
  | cons c t ih =>
    simp only [List.filterMap_cons, List.map_cons, List.sum_cons]
    cases f c with
    | none => simp [ih]
    | some e => simp [ih]
theorem due_sum (hw : Whole R ρ) (hP : InP R P) (hT : Tree R P) (hr : ρ[i]? = some r) (hs : ρ[i + 1]? = some s) : ((due R P ρ (swp ρ i r s)).map (·.2.2)).sum = 0 := by
  have hrs : r ≠ s := fun e => by
    subst e
    have h1 := pos_get hw.ndr hr
    have h2 := pos_get hw.ndr hs
    omega
  unfold due
  rw [sum_flatMap]
  have e : (P.map fun p => ((P.filterMap fun q => cell R P ρ (swp ρ i r s) p q).map (·.2.2)).sum).sum = (P.map fun p => (P.map fun q => cnt r s (way R P p q)).sum).sum :=
    sum_congr fun p hp => by
      rw [sum_filterMap]
      refine sum_congr fun q hq => ?_
      rw [cell_tree hw hP hT hr hs hp hq]
      by_cases h0 : cnt r s (way R P p q) = 0
      · rw [if_pos h0, h0]
      · rw [if_neg h0]
  rw [e]
  refine sum_anti fun p hp q hq => ?_
  rw [way_rev hw.nd hP hT hp hq, cnt_rev hrs]
end
end
end RP
end

section
set_option maxRecDepth 100000
set_option maxHeartbeats 4000000
/-! the text: each def by its place in the row, its names by slot -/
namespace RW
open PySem PySem.Spec PyProof.Rows L2
def topS (i : Nat) : Stmt := PySem.Challenge.pw_roundpost_k43_whole_swapped_neighbours.main.body.getD i (.Pass ⟨0, 0, 0, 0⟩)
abbrev sIsInteger : Stmt := topS 9
abbrev nIsInteger : List Str := ["thing"]
theorem scIsInteger : FnScope nIsInteger ["thing"] (defScope sIsInteger) := ⟨rfl, rfl, rfl, by decide +kernel, rfl, by decide +kernel, by decide +kernel⟩
abbrev sIsName : Stmt := topS 10
abbrev nIsName : List Str := ["thing", "sign"]
theorem scIsName : FnScope nIsName ["thing"] (defScope sIsName) := ⟨rfl, rfl, rfl, by decide +kernel, rfl, by decide +kernel, by decide +kernel⟩
abbrev sIsRowOf : Stmt := topS 11
abbrev nIsRowOf : List Str := ["thing", "least", "most"]
theorem scIsRowOf : FnScope nIsRowOf ["thing", "least", "most"] (defScope sIsRowOf) := ⟨rfl, rfl, rfl, by decide +kernel, rfl, by decide +kernel, by decide +kernel⟩
abbrev sAreOf : Stmt := topS 12
abbrev nAreOf : List Str := ["thing", "names", "part"]
theorem scAreOf : FnScope nAreOf ["thing", "names"] (defScope sAreOf) := ⟨rfl, rfl, rfl, by decide +kernel, rfl, by decide +kernel, by decide +kernel⟩
abbrev sNamesOfRoads : Stmt := topS 14
abbrev nNamesOfRoads : List Str := ["web", "road"]
theorem scNamesOfRoads : FnScope nNamesOfRoads ["web"] (defScope sNamesOfRoads) := ⟨rfl, rfl, rfl, by decide +kernel, rfl, by decide +kernel, by decide +kernel⟩
abbrev sAreNames : Stmt := topS 18
abbrev nAreNames : List Str := ["thing", "name"]
theorem scAreNames : FnScope nAreNames ["thing"] (defScope sAreNames) := ⟨rfl, rfl, rfl, by decide +kernel, rfl, by decide +kernel, by decide +kernel⟩
abbrev sIsRoad : Stmt := topS 19
abbrev nIsRoad : List Str := ["thing", "places"]
theorem scIsRoad : FnScope nIsRoad ["thing", "places"] (defScope sIsRoad) := ⟨rfl, rfl, rfl, by decide +kernel, rfl, by decide +kernel, by decide +kernel⟩
abbrev sIsWebForm : Stmt := topS 20
abbrev nIsWebForm : List Str := ["thing", "road"]
theorem scIsWebForm : FnScope nIsWebForm ["thing"] (defScope sIsWebForm) := ⟨rfl, rfl, rfl, by decide +kernel, rfl, by decide +kernel, by decide +kernel⟩
abbrev sNeedWeb : Stmt := topS 21
abbrev nNeedWeb : List Str := ["web"]
theorem scNeedWeb : FnScope nNeedWeb ["web"] (defScope sNeedWeb) := ⟨rfl, rfl, rfl, by decide +kernel, rfl, by decide +kernel, by decide +kernel⟩
abbrev sIsRota : Stmt := topS 22
abbrev nIsRota : List Str := ["web", "thing"]
theorem scIsRota : FnScope nIsRota ["web", "thing"] (defScope sIsRota) := ⟨rfl, rfl, rfl, by decide +kernel, rfl, by decide +kernel, by decide +kernel⟩
abbrev sNeedRota : Stmt := topS 23
abbrev nNeedRota : List Str := ["web", "rota"]
theorem scNeedRota : FnScope nNeedRota ["web", "rota"] (defScope sNeedRota) := ⟨rfl, rfl, rfl, by decide +kernel, rfl, by decide +kernel, by decide +kernel⟩
abbrev sRoundOf : Stmt := topS 24
abbrev nRoundOf : List Str := ["week", "day"]
theorem scRoundOf : FnScope nRoundOf ["week", "day"] (defScope sRoundOf) := ⟨rfl, rfl, rfl, by decide +kernel, rfl, by decide +kernel, by decide +kernel⟩
abbrev sEndsByRoad : Stmt := topS 26
abbrev nEndsByRoad : List Str := ["web", "name", "one", "other"]
theorem scEndsByRoad : FnScope nEndsByRoad ["web"] (defScope sEndsByRoad) := ⟨rfl, rfl, rfl, by decide +kernel, rfl, by decide +kernel, by decide +kernel⟩
abbrev sNewsPlaces : Stmt := topS 27
abbrev nNewsPlaces : List Str := ["web", "week", "place", "ends", "walked", "row", "road", "found", "before", "one", "other"]
theorem scNewsPlaces : FnScope nNewsPlaces ["web", "week", "place"] (defScope sNewsPlaces) := ⟨rfl, rfl, rfl, by decide +kernel, rfl, by decide +kernel, by decide +kernel⟩
abbrev sArrivalsFrom : Stmt := topS 28
abbrev nArrivalsFrom : List Str := ["web", "week", "place", "moment", "missed", "ends", "many", "found", "day", "first", "index", "road", "one", "other", "name"]
theorem scArrivalsFrom : FnScope nArrivalsFrom ["web", "week", "place", "moment", "missed"] (defScope sArrivalsFrom) := ⟨rfl, rfl, rfl, by decide +kernel, rfl, by decide +kernel, by decide +kernel⟩
abbrev sDaysFrom : Stmt := topS 29
abbrev nDaysFrom : List Str := ["web", "week", "place", "arrivals", "found", "moment"]
theorem scDaysFrom : FnScope nDaysFrom ["web", "week", "place"] (defScope sDaysFrom) := ⟨rfl, rfl, rfl, by decide +kernel, rfl, by decide +kernel, by decide +kernel⟩
abbrev sDayRows : Stmt := topS 30
abbrev nDayRows : List Str := ["web", "week", "place"]
theorem scDayRows : FnScope nDayRows ["web", "week"] (defScope sDayRows) := ⟨rfl, rfl, rfl, by decide +kernel, rfl, by decide +kernel, by decide +kernel⟩
abbrev sExchanged : Stmt := topS 32
abbrev nExchanged : List Str := ["rota", "index"]
theorem scExchanged : FnScope nExchanged ["rota", "index"] (defScope sExchanged) := ⟨rfl, rfl, rfl, by decide +kernel, rfl, by decide +kernel, by decide +kernel⟩
abbrev sNeedIndex : Stmt := topS 34
abbrev nNeedIndex : List Str := ["rota", "index"]
theorem scNeedIndex : FnScope nNeedIndex ["rota", "index"] (defScope sNeedIndex) := ⟨rfl, rfl, rfl, by decide +kernel, rfl, by decide +kernel, by decide +kernel⟩
abbrev sSwapDays : Stmt := topS 35
abbrev nSwapDays : List Str := ["web", "rota", "index", "before", "behind", "found", "one", "place", "two", "other"]
theorem scSwapDays : FnScope nSwapDays ["web", "rota", "index"] (defScope sSwapDays) := ⟨rfl, rfl, rfl, by decide +kernel, rfl, by decide +kernel, by decide +kernel⟩
abbrev sWFeed : Stmt := topS 37
abbrev nWFeed : List Str := ["_law_script", "_law_k", "_law_cell"]
theorem scWFeed : FnScope nWFeed ["_law_script", "_law_k"] (defScope sWFeed) := ⟨rfl, rfl, rfl, by decide +kernel, rfl, by decide +kernel, by decide +kernel⟩
abbrev sWDraw : Stmt := topS 38
abbrev nWDraw : List Str := ["_law_feed_here", "_law_many", "_law_rest", "_law_got", "_law_stir"]
theorem scWDraw : FnScope nWDraw ["_law_feed_here", "_law_many"] (defScope sWDraw) := ⟨rfl, rfl, rfl, by decide +kernel, rfl, by decide +kernel, by decide +kernel⟩
abbrev sWOne : Stmt := topS 39
abbrev nWOne : List Str := ["_law_feed_here", "_law_things"]
theorem scWOne : FnScope nWOne ["_law_feed_here", "_law_things"] (defScope sWOne) := ⟨rfl, rfl, rfl, by decide +kernel, rfl, by decide +kernel, by decide +kernel⟩
abbrev sWMixed : Stmt := topS 40
abbrev nWMixed : List Str := ["_law_feed_here", "_law_things", "_law_pool", "_law_got", "_law_turn"]
theorem scWMixed : FnScope nWMixed ["_law_feed_here", "_law_things"] (defScope sWMixed) := ⟨rfl, rfl, rfl, by decide +kernel, rfl, by decide +kernel, by decide +kernel⟩
abbrev sWNames : Stmt := topS 41
abbrev nWNames : List Str := ["_law_feed_here", "_law_many"]
theorem scWNames : FnScope nWNames ["_law_feed_here", "_law_many"] (defScope sWNames) := ⟨rfl, rfl, rfl, by decide +kernel, rfl, by decide +kernel, by decide +kernel⟩
abbrev sWRota : Stmt := topS 43
abbrev nWRota : List Str := ["_law_feed_here", "_law_web_here", "_law_road"]
theorem scWRota : FnScope nWRota ["_law_feed_here", "_law_web_here"] (defScope sWRota) := ⟨rfl, rfl, rfl, by decide +kernel, rfl, by decide +kernel, by decide +kernel⟩
abbrev sWRound : Stmt := topS 44
abbrev nWRound : List Str := ["_law_week", "_law_day"]
theorem scWRound : FnScope nWRound ["_law_week", "_law_day"] (defScope sWRound) := ⟨rfl, rfl, rfl, by decide +kernel, rfl, by decide +kernel, by decide +kernel⟩
abbrev sWArrivals : Stmt := topS 45
abbrev nWArrivals : List Str := ["_law_web_here", "_law_week", "_law_place", "_law_moment", "_law_ends", "_law_road", "_law_got", "_law_day", "_law_still", "_law_new", "_law_k", "_law_one_here", "_law_other", "_law_here", "_law_there"]
theorem scWArrivals : FnScope nWArrivals ["_law_web_here", "_law_week", "_law_place", "_law_moment"] (defScope sWArrivals) := ⟨rfl, rfl, rfl, by decide +kernel, rfl, by decide +kernel, by decide +kernel⟩
abbrev sWPath : Stmt := topS 46
abbrev nWPath : List Str := ["_law_web_here", "_law_place", "_law_other", "_law_ways", "_law_turn", "_law_road", "_law_one_here", "_law_two"]
theorem scWPath : FnScope nWPath ["_law_web_here", "_law_place", "_law_other"] (defScope sWPath) := ⟨rfl, rfl, rfl, by decide +kernel, rfl, by decide +kernel, by decide +kernel⟩
abbrev sWSizedWeb : Stmt := topS 47
abbrev nWSizedWeb : List Str := ["_law_feed_here", "_law_many", "_law_more", "_law_names_here", "_law_shape", "_law_ties", "_law_at", "_law_turn", "_law_one_here", "_law_tie", "_law_roads", "_law_road"]
theorem scWSizedWeb : FnScope nWSizedWeb ["_law_feed_here", "_law_many", "_law_more"] (defScope sWSizedWeb) := ⟨rfl, rfl, rfl, by decide +kernel, rfl, by decide +kernel, by decide +kernel⟩
abbrev sWApart : Stmt := topS 48
abbrev nWApart : List Str := ["_law_web_here", "_law_one_here", "_law_other", "_law_ends", "_law_road", "_law_place"]
theorem scWApart : FnScope nWApart ["_law_web_here", "_law_one_here", "_law_other"] (defScope sWApart) := ⟨rfl, rfl, rfl, by decide +kernel, rfl, by decide +kernel, by decide +kernel⟩
abbrev sWSwapped : Stmt := topS 49
abbrev nWSwapped : List Str := ["_law_rota_here", "_law_at"]
theorem scWSwapped : FnScope nWSwapped ["_law_rota_here", "_law_at"] (defScope sWSwapped) := ⟨rfl, rfl, rfl, by decide +kernel, rfl, by decide +kernel, by decide +kernel⟩
abbrev sWTable : Stmt := topS 50
abbrev nWTable : List Str := ["_law_web_here", "_law_rota_here", "_law_got", "_law_place", "_law_row", "_law_other"]
theorem scWTable : FnScope nWTable ["_law_web_here", "_law_rota_here"] (defScope sWTable) := ⟨rfl, rfl, rfl, by decide +kernel, rfl, by decide +kernel, by decide +kernel⟩
abbrev sWBadWebs : Stmt := topS 51
abbrev nWBadWebs : List Str := ["_law_web_here", "_law_places", "_law_roads", "_law_bad", "_law_at"]
theorem scWBadWebs : FnScope nWBadWebs ["_law_web_here"] (defScope sWBadWebs) := ⟨rfl, rfl, rfl, by decide +kernel, rfl, by decide +kernel, by decide +kernel⟩
abbrev sWBadRotas : Stmt := topS 52
abbrev nWBadRotas : List Str := ["_law_web_here", "_law_rota_here", "_law_bad", "_law_place"]
theorem scWBadRotas : FnScope nWBadRotas ["_law_web_here", "_law_rota_here"] (defScope sWBadRotas) := ⟨rfl, rfl, rfl, by decide +kernel, rfl, by decide +kernel, by decide +kernel⟩
abbrev sWDue : Stmt := topS 53
abbrev nWDue : List Str := ["_law_web_here", "_law_rota_here", "_law_at", "_law_got", "_law_one_here", "_law_two", "_law_here", "_law_place", "_law_there", "_law_other"]
theorem scWDue : FnScope nWDue ["_law_web_here", "_law_rota_here", "_law_at"] (defScope sWDue) := ⟨rfl, rfl, rfl, by decide +kernel, rfl, by decide +kernel, by decide +kernel⟩
abbrev sWTreeDue : Stmt := topS 54
abbrev nWTreeDue : List Str := ["_law_web_here", "_law_rota_here", "_law_at", "_law_got", "_law_place", "_law_other", "_law_way"]
theorem scWTreeDue : FnScope nWTreeDue ["_law_web_here", "_law_rota_here", "_law_at"] (defScope sWTreeDue) := ⟨rfl, rfl, rfl, by decide +kernel, rfl, by decide +kernel, by decide +kernel⟩
abbrev sWWord : Stmt := topS 55
abbrev nWWord : List Str := ["_law_web_here", "_law_rota_here", "_law_index", "_law_found", "e"]
theorem scWWord : FnScope nWWord ["_law_web_here", "_law_rota_here", "_law_index"] (defScope sWWord) := ⟨rfl, rfl, rfl, by decide +kernel, rfl, by decide +kernel, by decide +kernel⟩
abbrev sWRefusedRight : Stmt := topS 56
abbrev nWRefusedRight : List Str := ["_law_feed_here", "_law_web_here", "_law_rota_here", "_law_some", "_law_bad", "_law_wrong", "_law_index", "_law_told"]
theorem scWRefusedRight : FnScope nWRefusedRight ["_law_feed_here", "_law_web_here", "_law_rota_here"] (defScope sWRefusedRight) := ⟨rfl, rfl, rfl, by decide +kernel, rfl, by decide +kernel, by decide +kernel⟩
abbrev sWRight : Stmt := topS 57
abbrev nWRight : List Str := ["_law_web_here", "_law_rota_here", "_law_at", "_law_is_tree", "_law_due_here", "_law_told", "_law_back", "_law_turned", "_law_place", "_law_other", "_law_more", "_law_row"]
theorem scWRight : FnScope nWRight ["_law_web_here", "_law_rota_here", "_law_at", "_law_is_tree"] (defScope sWRight) := ⟨rfl, rfl, rfl, by decide +kernel, rfl, by decide +kernel, by decide +kernel⟩
abbrev sLaw : Stmt := topS 58
abbrev nLaw : List Str := ["_law_script", "_law_k", "_law_feed_here", "_law_is_tree", "_law_web_here", "_law_road", "_law_rota_here", "_law_at"]
theorem scLaw : FnScope nLaw ["_law_script"] (defScope sLaw) := ⟨rfl, rfl, rfl, by decide +kernel, rfl, by decide +kernel, by decide +kernel⟩
end RW
end

section
set_option maxRecDepth 100000
set_option maxHeartbeats 4000000
/-! rules that the layer lacks: enumerate of a tuple, len(set(texts)), repr of data, keyword calls in a try -/
namespace RW
open PySem PySem.Spec PyProof.Rows L2

/-! ### enumerate(t), t a tuple -/
set_option maxHeartbeats 8000000 in
theorem enumNewT (t : Addr) (items : Array Value) :
    Meets (Builtin.«enumerate.__new__» ⟨[.type "enumerate", .ref t], []⟩) (fun _ R s => s.heap.IsTuple t items ∧
      R (.ok (.ret (.ref (s.heap.push { cls := .type "tuple_iterator", data := .fields #[.ref t, .int 0 0] }).objs.size)))
        { s with heap := (s.heap.push { cls := .type "tuple_iterator", data := .fields #[.ref t, .int 0 0] }).push { cls := .type "enumerate", data := .fields #[.none, .bool false, .ref s.heap.objs.size, rawInt 0, .none, .none] } }) := by
  refine .of_wp fun prog w A R s h => ?_
  obtain ⟨hp, gs, dr, tk, os⟩ := s
  obtain ⟨ht, hq⟩ := h
  have notSub := sub_enumerate
  have iter0 : ∀ {A' : Around} {E : Value → Shared → Prop} {Q : Value → Shared → Prop}, Q (.ref hp.objs.size) ⟨hp.push { cls := .type "tuple_iterator", data := .fields #[.ref t, .int 0 0] }, gs, dr, tk, os⟩ →
      wpAny (model prog w) A' (pyIter (.ref t)) Q E ⟨hp, gs, dr, tk, os⟩ := fun q => (begins_tuple t items).iter prog w _ _ ⟨hp, gs, dr, tk, os⟩ _ ht q
  wp_walk using iter0
  refine wpAny_stack_any fun st => wpAny_pure ?_
  split
  · rename_i cl _ _ _ _ _
    cases (cl == Value.type "enumerate") <;> (wp_walk using iter0; exact ⟨_, rfl, hq⟩)
  · wp_walk using iter0
    exact ⟨_, rfl, hq⟩
section
variable {prog : Program} {w : World} {A : Around} {E : Value → Shared → Prop} {s : Shared}
theorem enumCallT {t : Addr} {items : Array Value} {Q : Value → Shared → Prop} (ht : s.heap.IsTuple t items)
    (h : ∀ h', IsEnum h' (s.heap.objs.size + 1) s.heap.objs.size 0 .none → h'.IsTupleIter s.heap.objs.size t 0 → (∀ b o, s.heap.get? b = some o → h'.get? b = some o) → Q (.ref (s.heap.objs.size + 1)) { s with heap := h' }) :
    wpAny (model prog w) A (call (.type "enumerate") [.ref t]) Q E s := by
  refine callType_new F.called_enumerate (by decide) (F.typeCall_enumerate_1 _) (F.newCall_enumerate_1 _) (fun obj => F.args_object_init_2 obj _) F.entry_enumerate_new (enumNewT t items) ⟨ht, ?_⟩
  generalize hi : ({ cls := .type "tuple_iterator", data := .fields #[.ref t, .int 0 0] } : Obj) = oi
  have fi : oi.isFreed = false := by rw [← hi]; rfl
  generalize ho : ({ cls := .type "enumerate", data := .fields #[.none, .bool false, .ref s.heap.objs.size, rawInt 0, .none, .none] } : Obj) = oe
  have fo : oe.isFreed = false := by rw [← ho]; rfl
  have z1 : (s.heap.push oi).objs.size = s.heap.objs.size + 1 := Heap.size_push ..
  have e1 : ((s.heap.push oi).push oe).get? (s.heap.objs.size + 1) = some oe := by
    rw [← z1]
    exact Heap.get?_push_size _ fo
  have e2 : ((s.heap.push oi).push oe).get? s.heap.objs.size = some oi := Heap.get?_push_of_some _ (Heap.get?_push_size _ fi)
  show _ ∧ _
  rw [z1]
  subst hi ho
  exact ⟨⟨_, e1, rfl⟩, h _ e1 ⟨_, e2, rfl, rfl⟩ fun b o x => Heap.get?_push_of_some _ (Heap.get?_push_of_some _ x)⟩
end
def IteT (K : PySem.W.Frag) (a : Addr) : It where
  go := fun i H => ∃ (xs : List V) (x : V), SqT K H a xs ∧ xs[i]? = some x
  yld := fun i H v H' => ∃ (T : Addr) (x : V), v = .ref T ∧ H T = none ∧ H' = upd H T (.tup [.int (i : Nat), x]) ∧ ∀ xs, SqT K H a xs → xs[i]? = some x
  stop := fun i H => ∃ xs : List V, SqT K H a xs ∧ xs.length = i
theorem turn_enumT {P : Program} {w : World} {K : PySem.W.Frag} {elts : List Expr} {kk : Nat} {tpos : Pos} (a e it : Addr) :
    Turn P w K (.Tuple elts kk tpos) (IteT K a) [e, it] e (fun i h => (∃ old, IsEnum h e it ((i : Nat) : Int) old) ∧ h.IsTupleIter it a i ∧ e ≠ it) where
  mem := List.mem_cons_self
  obj := by
    rintro i h ⟨⟨old, he⟩, ⟨o, ho, _, hd⟩, _⟩ b hb
    rcases List.mem_cons.mp hb with z | z
    · subst z
      exact ⟨_, he, fun v q => nomatch q⟩
    · rw [List.mem_singleton.mp z]
      exact ⟨o, ho, fun v q => by rw [hd] at q; cases q⟩
  keep := fun i h h' ⟨⟨old, he⟩, hi, hne⟩ k => ⟨⟨old, k e List.mem_cons_self _ he⟩, hi.at fun o q => k it (by simp) o q, hne⟩
  item := by
    intro X hP hw hK hc i pins s σ H E I hf st hg
    subst hP hw hK
    obtain ⟨⟨old, he⟩, hit, hne⟩ := st
    obtain ⟨xs, x, hq, hx⟩ := hg
    obtain ⟨its, rv, p, _⟩ := I.tuple hq
    obtain ⟨u, hu, ru⟩ := rv.get hx
    have ht : s.heap.IsTuple a its.toArray := p
    have hat : a ≠ it := fun z => by
      subst z
      obtain ⟨o, ho, hc1, _⟩ := hit
      obtain ⟨o2, ho2, hc2, _⟩ := ht
      rw [ho] at ho2
      cases ho2
      rw [hc1] at hc2
      injection hc2 with hc3
      exact absurd hc3 (by decide)
    have hea : e ≠ a := fun z => by
      subst z
      obtain ⟨o2, ho2, hc2, _⟩ := ht
      have he' : s.heap.get? e = some _ := he
      rw [he'] at ho2
      cases ho2
      injection hc2 with hc3
      exact absurd hc3 (by decide)
    have hel : e < s.heap.objs.size := Heap.lt_size he
    have hil : it < s.heap.objs.size := by obtain ⟨_, q, _⟩ := hit; exact Heap.lt_size q
    have hlt : i < its.toArray.size := by
      rw [List.size_toArray]
      exact (List.getElem?_eq_some_iff.mp hu).1
    refine wpAny_pyNext_enum_itemC (Draws.tuple (show X.A.in1.handled = none from I.ok.hd hc) it a hat its.toArray) he ⟨hit, ht⟩ hlt hne (fun z => by rcases List.mem_cons.mp z with z | z; exact hne z; exact hea (List.mem_singleton.mp z)) fun y h' tk hy ho hst hT _ hk => ?_
    have ey : y = u := by
      have h2 : its[i]? = some y := by simpa using hy
      rw [hu] at h2
      exact (Option.some.inj h2).symm
    subst ey
    refine ⟨_, rfl, wpAny_letOwnedTupleGo_enum (s := { s with heap := h', toks := tk + 1 }) ho fun h'' he' sb => ?_⟩
    have k2 : ∀ b o, b ∉ [e, it] → s.heap.get? b = some o → h''.get? b = some o := fun b o hb q =>
      (sb.2 b fun z => hb (by simp [z])).trans (hk b o (fun z => hb (by simp [z])) (fun z => hb (by simp [z])) q)
    have hT2 : h''.get? s.heap.objs.size = some { cls := .type "tuple", data := .seq #[.int i tk, y] } := (sb.2 _ (Nat.ne_of_gt hel)).trans hT
    have new : ObjOk X.prog X.w (upd H s.heap.objs.size (.tup [.int (i : Nat), x])) h'' s.heap.objs.size (.tup [.int (i : Nat), x]) :=
      ⟨by show 2 ≤ sizeLine; decide, [.int i tk, y], .cons ⟨_, rfl⟩ (.cons ru .nil), ⟨_, hT2, rfl, _, rfl⟩⟩
    have I1 : Inv X pins σ (upd H s.heap.objs.size (.tup [.int (i : Nat), x])) { s with heap := h'', toks := tk + 1 } :=
      I.turnedNew (ch := [e, it]) k2 hf (Nat.le_refl _) new
    have below : ∀ b ∈ [e, it], b < s.heap.objs.size := fun b hb => by
      rcases List.mem_cons.mp hb with z | z
      · rw [z]; exact hel
      · rw [List.mem_singleton.mp z]; exact hil
    refine ⟨.ref s.heap.objs.size, _, I1, rfl, ⟨_, x, rfl, I.hok.fresh (Nat.le_refl _), rfl, fun ys hy => by rw [I.tuple_inj hy hq]; exact hx⟩, ⟨⟨y, ?_⟩, hst.1.at fun o q => (sb.2 it (Ne.symm hne)).trans q, hne⟩, fun b hb => ?_⟩
    · rw [show ((i + 1 : Nat) : Int) = (i : Int) + 1 by omega]
      exact he'
    · rw [upd_ne (Nat.ne_of_lt (below b hb))]
      exact (hf b hb).1
  done := by
    intro X hP hw hK hc i pins s σ H E I hf st hg
    subst hP hw hK
    obtain ⟨⟨old, he⟩, hit, hne⟩ := st
    obtain ⟨xs, hq, hx⟩ := hg
    obtain ⟨its, rv, p, _⟩ := I.tuple hq
    have ht : s.heap.IsTuple a its.toArray := p
    have hat : a ≠ it := fun z => by
      subst z
      obtain ⟨o, ho, hc1, _⟩ := hit
      obtain ⟨o2, ho2, hc2, _⟩ := ht
      rw [ho] at ho2
      cases ho2
      rw [hc1] at hc2
      injection hc2 with hc3
      exact absurd hc3 (by decide)
    have hn : i = its.toArray.size := by
      rw [List.size_toArray, ← rv.length]
      exact hx.symm
    subst hn
    obtain ⟨f0, f1, f2, f3, f4, f5⟩ := hf it (by simp)
    exact wpAny_pyNext_enum_endD (Draws.tuple (show X.A.in1.handled = none from I.ok.hd hc) it a hat its.toArray) he ⟨hit, ht⟩ fun h' eb => ⟨rfl, I.turned (t' := s.toks) (fun b o hb q => eb b o hb q) f0 f1 f3 f4 f5⟩
  self := fun A i s Q E ⟨⟨_, he⟩, _⟩ h => wpAny_pyIter_enum he h
def iEnumT (K : PySem.W.Frag) (ta : TA) : TI := fun σ H R => ta σ H fun vs H1 => ∃ (a : Addr) (xs : List V), vs = [.ref a] ∧ SqT K H1 a xs ∧ R (IteT K a) H1
theorem pi_enumT {X : Cx} {e : Expr} {ta : TA} {p pos tpos : Pos} {elts : List Expr} {kk : Nat} (hg : Gl X "enumerate") (hm : X.mg "enumerate" = none) (ha : PA X [e] ta) (hs : starEach [e] X.env = [(false, eval e X.env)] := by rfl) :
    PI X (.Tuple elts kk tpos) (.Call (.Name "enumerate" p) [e] [] pos) (iEnumT X.K ta) := by
  refine ⟨fun pins s σ H R I h => Call_ (ld_blt I hg hm boot_enumerate (PyProof.Rows.callWith_type1 (thn (ha.run pos pins s σ H _ I h) fun us s1 hq => ?_) hs rfl))⟩
  obtain ⟨vs, H1, I1, r1, a, xs, ex, hT, q⟩ := hq
  subst ex
  obtain ⟨u, rfl, ru⟩ := vals1 r1
  cases ru
  obtain ⟨its, _, p', _⟩ := I1.tuple hT
  refine enumCallT p' fun h' he hit hk => wpAny_pyIter_enum he ?_
  refine ⟨s1.heap.objs.size + 1, [s1.heap.objs.size + 1, s1.heap.objs.size], _, _, H1, rfl, I1.kept (t' := s1.toks) hk, turn_enumT a (s1.heap.objs.size + 1) s1.heap.objs.size, ⟨⟨.none, he⟩, hit, Nat.succ_ne_self _⟩, fun b hb => ?_, q⟩
  have hle : s1.heap.objs.size ≤ b := by
    rcases List.mem_cons.mp hb with z | z
    · rw [z]; exact Nat.le_succ _
    · rw [List.mem_singleton.mp z]; exact Nat.le_refl _
  exact I1.fpOk hle (I1.hok.fresh hle)
theorem walk_enumT {K : PySem.W.Frag} {a : Addr} {xs : List V} : Walk (IteT K a) xs.length (fun H => SqT K H a xs) (YPair (fun i => some (.int (i : Nat))) (fun i => xs[i]?)) :=
  ⟨fun i _ hi q => ⟨xs, xs[i], q, List.getElem?_eq_getElem hi⟩, fun _ q => ⟨xs, q, rfl⟩, fun i _ _ _ _ q ⟨T, x, h1, h2, h3, h4⟩ => ⟨T, .int (i : Nat), x, h1, h2, h3, rfl, h4 xs q⟩⟩
end RW
end

section
set_option maxRecDepth 100000
set_option maxHeartbeats 4000000
/-! len(set(t)), t a tuple of texts -/
namespace RW
open PySem PySem.Spec PyProof.Rows L2

/-- the unlike ones, in the sequence in which they come -/
def ddStep (acc : List Str) (x : Str) : List Str := if x ∈ acc then acc else acc ++ [x]
def dd (xs : List Str) : List Str := xs.foldl ddStep []
theorem dd_snoc (xs : List Str) (x : Str) : dd (xs ++ [x]) = ddStep (dd xs) x := by
  unfold dd
  rw [List.foldl_append]
  rfl
theorem dd_mem (xs : List Str) (y : Str) : y ∈ dd xs ↔ y ∈ xs := by
  have aux : ∀ (xs acc : List Str), y ∈ xs.foldl ddStep acc ↔ y ∈ acc ∨ y ∈ xs := by
    intro xs
    induction xs with
    | nil => simp
    | cons x t ih =>
      intro acc
      simp only [List.foldl_cons, ih, List.mem_cons]
      unfold ddStep
      by_cases h : x ∈ acc
      · rw [if_pos h]
        constructor
        · rintro (a | a)
          · exact .inl a
          · exact .inr (.inr a)
        · rintro (a | a | a)
          · exact .inl a
          · exact .inl (a ▸ h)
          · exact .inr a
      · rw [if_neg h, List.mem_append, List.mem_singleton]
        constructor
        · rintro ((a | a) | a)
          · exact .inl a
          · exact .inr (.inl a)
          · exact .inr (.inr a)
        · rintro (a | a | a)
          · exact .inl (.inl a)
          · exact .inl (.inr a)
          · exact .inr a
  have := aux xs []
  simp only [List.not_mem_nil, false_or] at this
  exact this
theorem dd_le (xs : List Str) : (dd xs).length ≤ xs.length ∧ ((dd xs).length = xs.length ↔ xs.Nodup) := by
  have aux : ∀ (n : Nat) (xs : List Str), xs.length = n → (dd xs).length ≤ xs.length ∧ ((dd xs).length = xs.length ↔ xs.Nodup) := by
    intro n
    induction n with
    | zero =>
      intro xs h
      rw [List.length_eq_zero_iff.mp h]
      simp [dd]
    | succ n ih =>
      intro xs h
      rcases List.eq_nil_or_concat xs with z | ⟨ys, y, z⟩
      · subst z; simp at h
      · rw [List.concat_eq_append] at z
        subst z
        have hy : ys.length = n := by simpa using h
        obtain ⟨i1, i2⟩ := ih ys hy
        rw [dd_snoc]
        have nd : (ys ++ [y]).Nodup ↔ ys.Nodup ∧ y ∉ ys := by
          rw [List.nodup_append]
          constructor
          · rintro ⟨a, _, c⟩
            exact ⟨a, fun z => c y z y (by simp) rfl⟩
          · rintro ⟨a, c⟩
            refine ⟨a, by simp, fun u hu v hv e => ?_⟩
            have : v = y := by simpa using hv
            subst e this
            exact c hu
        unfold ddStep
        by_cases hm : y ∈ dd ys
        · rw [if_pos hm]
          have hm' := (dd_mem ys y).mp hm
          simp only [List.length_append, List.length_singleton]
          refine ⟨by omega, ?_⟩
          constructor
          · intro e; omega
          · intro e
            exact absurd hm' (nd.mp e).2
        · rw [if_neg hm]
          have hm' : y ∉ ys := fun z => hm ((dd_mem ys y).mpr z)
          simp only [List.length_append, List.length_singleton]
          refine ⟨by omega, ?_⟩
          constructor
          · intro e
            exact nd.mpr ⟨i2.mp (by omega), hm'⟩
          · intro e
            have := i2.mpr (nd.mp e).1
            omega
  exact aux _ xs rfl

section
variable {prog : Program} {w : World} {A : Around} {R : Result → Shared → Prop} {I S : Addr} {fp wr : List Addr} {G : Array GenState → Array GenState → Prop} {Pv : Nat → Value → Prop} {St : Nat → Shared → Prop} {xs : List Str}
/-- the set S holds what is met so far -/
abbrev SetSo (prog : Program) (w : World) (h : Heap) (S : Addr) (ys : List Str) : Prop := h.SetOf (PySem.strKind prog w) S (fun k => decide (k ∈ dd ys)) (dd ys).length
theorem SetSo.move {h h' : Heap} {ys : List Str} (x : SetSo prog w h S ys) (k : ∀ o, h.get? S = some o → h'.get? S = some o) : SetSo prog w h' S ys := by
  obtain ⟨o, es, ep, t, ho, more⟩ := x
  exact ⟨o, es, ep, t, k o ho, more⟩
theorem SetSo.more {h : Heap} {ys : List Str} {y : Str} (x : h.SetOf (PySem.strKind prog w) S (fun k => decide (k ∈ dd ys) || decide (k = y)) (if decide (y ∈ dd ys) = true then (dd ys).length else (dd ys).length + 1)) : SetSo prog w h S (ys ++ [y]) := by
  refine SetOf_congr x (fun k => ?_) ?_
  · show (decide (k ∈ dd ys) || decide (k = y)) = decide (k ∈ dd (ys ++ [y]))
    rw [dd_snoc]
    unfold ddStep
    by_cases h : y ∈ dd ys
    · rw [if_pos h]
      by_cases e : k = y
      · subst e; simp [h]
      · simp [e]
    · rw [if_neg h]
      simp [List.mem_append]
  · rw [dd_snoc]
    unfold ddStep
    by_cases h : y ∈ dd ys
    · rw [if_pos h, if_pos (decide_eq_true h)]
    · rw [if_neg h, if_neg (by simp [h])]
      simp
theorem setLoop (W : WalksS prog w A.in1 I fp wr G xs.length Pv St) (hS : S ∉ fp) (hz : xs.length < 4000) (val : ∀ i v, Pv i v → ∃ z t, xs[i]? = some z ∧ v = .str z t) :
    ∀ (left i : Nat) (s : Shared), i + left = xs.length → St i s → SetSo prog w s.heap S (xs.take i) →
      (∀ s', Moved (S :: wr) G s s' → SetSo prog w s'.heap S xs → R (.ok (.ret .none)) s') → codeAny (model prog w) A (.builtin "set.update.loop" ⟨[.ref S, .ref I], []⟩) R s := by
  have nS : S ∉ wr := fun z => hS (W.sub _ z)
  have wide : ∀ b ∈ wr, b ∈ S :: wr := fun b hb => .tail _ hb
  intro left
  induction left with
  | zero =>
    intro i s hi st hs hR
    have e : i = xs.length := by omega
    subst e
    rw [List.take_length] at hs
    refine codeAny_builtin F.entry_set_update_loop ?_
    rw [Around.under_plainId F.plain_set_update_loop _]
    show wpAny _ A.in1 (pyNext (.ref I) >>= _) _ _ s
    refine wpAny_bind (W.done s _ _ st fun s' mv => ?_)
    show wpAny _ A.in1 (ret Value.none) _ _ s'
    exact wpAny_pure (hR s' (mv.mono wide) (hs.move fun o q => mv.heap S o nS q))
  | succ left ih =>
    intro i s hi st hs hR
    have hlt : i < xs.length := by omega
    refine codeAny_builtin F.entry_set_update_loop ?_
    rw [Around.under_plainId F.plain_set_update_loop _]
    show wpAny _ A.in1 (pyNext (.ref I) >>= _) _ _ s
    refine wpAny_bind (W.item i s _ _ hlt st fun v s' hv st' mv => ?_)
    obtain ⟨z, t, hz1, rfl⟩ := val i v hv
    have hs' : SetSo prog w s'.heap S (xs.take i) := hs.move fun o q => mv.heap S o nS q
    show wpAny _ A.in1 (holding [Value.str z t] (setAdd S (.str z t)) >>= _) _ _ s'
    unfold setAdd
    refine wpAny_bind (wpAny_holding (wpAny_holding (wpAny_bind ((PySem.strKind prog w).pyHash (k := z) (strKind_is _ _ _ _) ?_))))
    have room : (dd (xs.take i)).length + 1 < scanBound := by
      have h1 := (dd_le (xs.take i)).1
      rw [List.length_take] at h1
      unfold scanBound
      omega
    refine wpAny_setAddHashed_of (knd := PySem.strKind prog w) (s := { s' with toks := s'.toks + 1 }) (strKind_is _ _ _ _) rfl hs' room fun h' same hs2 => ?_
    have hs3 : SetSo prog w h' S (xs.take (i + 1)) := by
      rw [List.take_add_one, hz1]
      exact SetSo.more hs2
    have keepS : ∀ b, b ≠ S → ∀ o, s'.heap.get? b = some o → h'.get? b = some o := fun b hb o q => (same.2 b hb).trans q
    refine wpAny_pure ⟨plainId_quiet F.plain_set_update_loop _, ih (i + 1) _ (by omega) (W.frame _ s' _ _ st' (Nat.le_succ _) fun b hb o q => keepS b (fun e => hS (e ▸ hb)) o q) hs3 fun s'' mv2 hs4 => ?_⟩
    exact hR s'' (Moved.trans W.gtrans ((mv.mono wide).then_heap (Nat.le_succ _) fun b o hb q => keepS b (fun e => hb (by rw [e]; exact List.mem_cons_self)) o q) mv2) hs4
end
section
variable {prog : Program} {w : World} {A : Around} {E : Value → Shared → Prop} {s : Shared}
theorem callSetT {l : Addr} {its : List Value} {xs : List Str} {Q : Value → Shared → Prop} (hh : A.handled = none) (hl : s.heap.IsTuple l its.toArray) (hv : Vals (xs.map V.str) its) (hz : xs.length < 4000)
    (h : ∀ (h' : Heap) (tk : Nat), SetSo prog w h' s.heap.objs.size xs → (∀ b o, s.heap.get? b = some o → h'.get? b = some o) → Q (.ref s.heap.objs.size) { s with heap := h', toks := tk }) :
    wpAny (model prog w) A (call (.type "set") [.ref l]) Q E s := by
  have hlen : its.toArray.size = xs.length := by
    have := hv.length
    simp at this ⊢
    exact this.symm
  have vals : ∀ (i : Nat) (v : Value), its.toArray[i]? = some v → ∃ z t, xs[i]? = some z ∧ v = .str z t := fun i v q => by
    have q : its[i]? = some v := by simpa using q
    cases hx : xs[i]? with
    | none =>
      have : (xs.map V.str)[i]? = none := by rw [List.getElem?_map, hx]; rfl
      rw [hv.none_of this] at q
      cases q
    | some z =>
      have : (xs.map V.str)[i]? = some (.str z) := by rw [List.getElem?_map, hx]; rfl
      obtain ⟨u, e1, t, e2⟩ := hv.get this
      rw [q] at e1
      cases e1
      exact ⟨z, t, rfl, e2⟩
  generalize hN : s.heap.objs.size = N at h ⊢
  have cs := F.called_set
  obtain ⟨c0, tl0, mro0⟩ := cs.mro
  have made0 := cs.made
  have sub0 := cs.sub
  have nt0 := cs.notType
  have cc0 := cs.canCreate
  have chk0 := F.typeCall_set_1 (.ref l)
  refine wpAny_call (codeAny_of_tree ?_)
  show wpAny _ _ (callAny (.type "set") _) _ _ _
  refine wpAny_pure ⟨Code.quiet_builtin _ (by decide +kernel), codeAny_builtin F.entry_type_call ?_⟩
  rw [Around.under_plain (weight_type_call_type "set" [.ref l] []) rfl]
  repeat (any_goals (first | assumption | wp_step))
  refine codeAny_mono (code_set_new_1 (.ref l) (E := E) (Q₁ := fun obj s₁ => ∃ led : Bool, obj = .ref N ∧ s₁ = { s with heap := s.heap.push { cls := .type "set", dict := none, data := .set #[] 0 (.fresh 0 0 led) } }) fun led => ⟨led, by rw [hN], rfl⟩) fun r s₁ hr => ?_
  cases r with
  | error e => exact hr
  | ok fl =>
    cases fl with
    | next => exact hr.elim
    | brk => exact hr.elim
    | cont => exact hr.elim
    | ret obj =>
      obtain ⟨led, rfl, rfl⟩ := hr
      generalize hso : ({ cls := .type "set", dict := none, data := .set #[] 0 (.fresh 0 0 led) } : Obj) = so
      have fso : so.isFreed = false := by rw [← hso]; rfl
      have g1 : (s.heap.push so).get? N = some so := by
        rw [← hN]
        exact Heap.get?_push_size _ fso
      have z1 : (s.heap.push so).objs.size = N + 1 := by rw [Heap.size_push, hN]
      have hl1 : (s.heap.push so).IsTuple l its.toArray := hl.push _
      have hlN : l < N := by
        rw [← hN]
        obtain ⟨o, q, _⟩ := hl
        exact Heap.lt_size q
      have hT : Shared.TypeIs { s with heap := s.heap.push so } (.ref N) "set" := ⟨_, g1, by rw [← hso]⟩
      have li0 := cs.init.lookup
      have bi0 := cs.init.bind (.ref N)
      repeat (any_goals (first | assumption | wp_step))
      refine codeAny_mono (codeAny_call_builtin (R := wants (fun r s₂ => r = .none ∧ ∃ h' tk, s₂ = { s with heap := h', toks := tk } ∧ SetSo prog w h' N xs ∧ (∀ b o, s.heap.get? b = some o → h'.get? b = some o)) E) cs.init.plain F.entry_set_init (check_set_init_1 hT ?_)) fun r₂ s₂ hr₂ => ?_
      · subst hso
        obtain ⟨ol, hol, hcl, nl, hdl⟩ := hl1
        obtain ⟨oc, od, odt, osl⟩ := ol
        simp only at hcl hdl
        subst hcl hdl
        have sub1 := F.sub_tuple_set
        have sub2 := F.sub_tuple_frozenset
        have nd : (Value.type "tuple" == Value.type "dict") = false := by decide
        have hl2 : (s.heap.push { cls := .type "set", dict := none, data := .set #[] 0 (.fresh 0 0 led) }).IsTuple l its.toArray := ⟨_, hol, rfl, nl, rfl⟩
        unfold Builtin.«set.__init__» noKeywords Builtin.Frozenset.updateFrom
        generalize hPI : pyIter = PI
        wp_walk
        subst hPI
        refine wpAny_pyIter_tuple hl2 ?_
        refine wpAny_bind (wpAny_runValue ?_)
        generalize hto : ({ cls := .type "tuple_iterator", data := .fields #[.ref l, .int 0 0] } : Obj) = ti
        have fti : ti.isFreed = false := by rw [← hto]; rfl
        have g2 := Heap.get?_push_size (s.heap.push { cls := .type "set", dict := none, data := .set #[] 0 (.fresh 0 0 led) }) (o := ti) fti
        have g3 := Heap.get?_push_of_some ti g1
        rw [z1] at g2 ⊢
        have W := (Walks.tuple (prog := prog) (w := w) (A := A.in1.in1.in1) (show A.in1.in1.in1.handled = none from hh) (N + 1) l (Nat.ne_of_lt (Nat.lt_succ_of_lt hlN)) its.toArray).toS
        rw [hlen] at W
        refine setLoop W (S := N) ?_ hz vals xs.length 0 _ (Nat.zero_add _) ⟨⟨_, g2, by subst hto; rfl, by subst hto; rfl⟩, hl2.push _⟩ ?_ fun s' mv hs => ?_
        · intro z
          simp only [List.mem_cons, List.not_mem_nil, or_false] at z
          rcases z with z | z
          · exact absurd z (Nat.ne_of_lt (Nat.lt_succ_self N))
          · exact absurd z (Nat.ne_of_gt hlN)
        · refine SetOf_congr ((setObjOf_fresh (knd := PySem.strKind prog w) led).setOf g3 (by unfold scanBound; omega)) (fun k => ?_) rfl
          simp [dd]
        · obtain ⟨h', gs', dr', tk', os'⟩ := s'
          obtain rfl : gs' = s.gens := mv.gens
          obtain rfl : dr' = s.drawn := mv.drawn
          obtain rfl : os' = s.os := mv.os
          show wpAny _ _ _ _ _ _
          refine wpAny_pure ?_
          show wpAny _ _ (ret Value.none) _ _ _
          refine wpAny_pure ⟨rfl, h', tk', rfl, hs, fun b o q => ?_⟩
          have hb : b < N := by
            rw [← hN]
            exact Heap.lt_size q
          refine mv.heap b o (fun z => ?_) (Heap.get?_push_of_some _ (Heap.get?_push_of_some _ q))
          simp only [List.mem_cons, List.not_mem_nil, or_false] at z
          rcases z with z | z
          · exact absurd z (Nat.ne_of_lt hb)
          · exact absurd z (Nat.ne_of_lt (Nat.lt_succ_of_lt hb))
      · cases r₂ with
        | error e => exact hr₂
        | ok fl₂ =>
          cases fl₂ with
          | ret r =>
            obtain ⟨rfl, h', tk, rfl, hs, hk⟩ := hr₂
            repeat (any_goals (first | assumption | wp_step))
            exact h h' tk hs hk
          | next => exact hr₂.elim
          | brk => exact hr₂.elim
          | cont => exact hr₂.elim
end
section
variable {X : Cx}
def tLenSetS (K : PySem.W.Frag) (ta : TE) : TE := fun σ H Q => ta σ H fun x H1 => ∃ (l : Addr) (xs : List Str), x = .ref l ∧ SqT K H1 l (xs.map V.str) ∧ xs.length < 4000 ∧ Q (.int ((dd xs).length : Nat)) H1
theorem pe_lenSetS {a : Expr} {ta : TE} {p p2 q pos : Pos} (hg : Gl X "len") (hm : X.mg "len" = none) (hg2 : Gl X "set") (hm2 : X.mg "set" = none) (ha : PE X a ta) (hc : X.calm = true := by rfl)
    (na : starEach [a] X.env = (false, eval a X.env) :: starEach [] X.env := by rfl) : PE X (.Call (.Name "len" p) [.Call (.Name "set" p2) [a] [] q] [] pos) (tLenSetS X.K ta) := by
  refine ⟨fun pins s σ H Q I h => Call_ (ld_blt I hg hm boot_len (PyProof.Rows.callWith_builtin1 (PyProof.Rows.args_cons (Call_ (ld_blt I hg2 hm2 boot_set ?_)) rfl) rfl rfl))⟩
  refine PyProof.Rows.callWith_type1 (PyProof.Rows.args_cons (thn (ha.run pins s σ H _ I h) fun v s1 hq => PyProof.Rows.args_nil ?_) na) na rfl
  obtain ⟨x, H1, I1, r1, l, xs, rfl, hT, hz, q1⟩ := hq
  cases r1
  obtain ⟨its, rv, pl, _⟩ := I1.tuple hT
  refine callSetT (prog := X.prog) (w := X.w) (I1.ok.hd hc) pl rv hz fun h' tk hS hk => PyProof.Rows.args_nil ?_
  obtain ⟨o, es, ep, t, ho, hex, hd, _, _, _, hf, hn⟩ := hS
  have I2 : Inv X pins σ H1 { s1 with heap := h', toks := tk } := I1.kept hk
  have small : (es.size : Int) < 2 ^ 63 := by
    have := (dd_le xs).1
    rw [hn]
    omega
  exact call_len_set ho hex hd hf small ⟨.int ((dd xs).length : Nat), H1, I2.tok _, ⟨_, by rw [hn]⟩, q1⟩
end
end RW
end

section
set_option maxRecDepth 100000
set_option maxHeartbeats 4000000
/-! repr of data; defs that know that no repr is under way; keyword calls whose errors are wished for at the slots -/
namespace RW
open PySem PySem.Spec PyProof.Rows L2

/-! ### repr -/
section
variable {X : Cx}
def rReprD (K : PySem.W.Frag) : List V → Hp → VK → Prop := fun xs H Q => ∃ (a : Addr) (d : PyData), xs = [.ref a] ∧ Dp K H (.ref a) d ∧ d.showable = true ∧ d.hasDict = false ∧ d.depth ≤ 60 ∧ d.shown.length ≤ sizeLine ∧ Q (.str d.shown) H
theorem call_reprD (hg : X.A.guards = some []) (hu : X.A.units + 64 < cLine) : CallR X (.builtin "repr") (rReprD X.K) := by
  intro pins s σ H xs us Q I r h
  obtain ⟨a, d, rfl, hd, hs, hn, hdp, hz, q⟩ := h
  obtain ⟨u, rfl, ru⟩ := vals1 r
  obtain ⟨as, rd⟩ := Dp.reads I d _ u hd ru
  cases ru
  exact repr_of_reads' rd hs (fun z => by rw [hn] at z; cases z) hg (by omega) (fun _ _ e => e) (fun h' t tk hk => ⟨.str d.shown, H, I.kept (t' := tk) hk, ⟨t, rfl⟩, q⟩) hz
end

/-! ### a def called where no repr is under way -/
structure FnOkG (P : Program) (w : World) (K : PySem.W.Frag) (mg : Str → Option Value) (base : Heap) (CX : CXT) (k : Nat) (f : Addr) (fd : FuncData) (ps : List Str) (sp : Sp) : Prop where
  len : ∀ vs H Q E, sp vs H Q E → vs.length = ps.length
  run : ∀ (A : Around) (outer : List Env) (s : Shared) (H : Hp) (args : Args) (us : List Value) (vs : List V) (Q : VK) (E : XK), A.guards = some [] → Room k A → Env0 P w K mg base A outer s H → BindsTo s fd args (ps.zip us) → Vals vs us →
    sp vs H Q E → codeAny (model P w) A (.call (.ref f) args) (CR CX outer P w H s Q E) s
section
variable {P : Program} {w : World} {K : PySem.W.Frag} {mg : Str → Option Value} {base : Heap}
theorem deeper_guards {A : Around} {env : Env} (h : A.guards = some []) : (A.deeper env).guards = some [] := h
theorem okG {CX : CXT} {x qual : Str} {st : Stmt} {f : Addr} {fd : FuncData} {N ps : List Str} {k : Nat} {sp : Sp} (F : Fun K x qual st f fd) (S : FnScope N ps (defScope st)) (len : ∀ vs H Q E, sp vs H Q E → vs.length = ps.length)
    (body : ∀ (cdv : Value) (A : Around) (outer : List Env) (s : Shared) (H : Hp) (vs : List V) (Q : VK) (E : XK), (A.deeper (envOfC qual (defScope st) s.heap.objs.size f cdv)).guards = some [] → Room k (A.deeper (envOfC qual (defScope st) s.heap.objs.size f cdv)) → sp vs H Q E →
      ∃ t, PSs (cxOf CX P w K mg base N qual (defScope st) f cdv A outer s H E) (defBody st) t ∧ t { nx := fun _ H' => Q .non H', rt := Q } (start N vs) H) : FnOkG P w K mg base CX (k + 1) f fd ps sp := by
  obtain ⟨oc, od, kV, doc, pm, an, cdv, ct, osl, rfl, lk, hcd⟩ := F.ex
  refine ⟨len, fun A outer s H args us vs Q E hg hr e0 hb r hsp => ?_⟩
  have inK : K.In s.heap := e0.mod.kin.keeps fun b o e => (e0.bs b o e).1
  have nol : s.heap.NoLimit := e0.mod.nolimit.keeps fun b o e => (e0.bs b o e).1
  have kinds : ∀ y ∈ ps.zip us, (defScope st).names.lookup y.1 = some .local ∨ ((defScope st).names.lookup y.1 = some .cell ∧ ((cellsFrom (s.heap.objs.size + 1) (defScope st).names []).lookup y.1).isSome = true) := by
    rintro ⟨n, v⟩ hy
    exact (S.par n (List.of_mem_zip hy).1).imp id fun q => ⟨q, PySem.W.cellsFrom_some _ _ _ (.inl q)⟩
  refine codeAny_call_function hr.depth (inK _ _ lk) rfl S.co S.gen rfl (PySem.W.codeRec_of inK hcd) (hb _ _ _ _ (wpAny_newFunctionEnv_cells S.kind kinds fun env he s1 x => ?_))
  subst he
  refine ⟨nol.keeps x.toInCall.keep, codeAny_func ?_⟩
  obtain ⟨t, ht, hq⟩ := body cdv A outer s H vs Q E (deeper_guards hg) (hr.deeper _) hsp
  have I := inv_start (CX := CX) (E := E) S hr.hd e0 (len _ _ _ _ hsp) r x
  refine wpAny_mono (ht.run [] s1 (start N vs) H _ I hq) (fun fl s' hs => ?_) fun e s' hs => hs
  cases fl with
  | ret u =>
    obtain ⟨v, σ', H', J, rv, q⟩ := hs
    exact ⟨v, H', J.os, J.bare, J.base, J.hok, rv, q⟩
  | next =>
    obtain ⟨σ', H', J, q⟩ := hs
    exact ⟨V.non, H', J.os, J.bare, J.base, J.hok, rfl, q⟩
  | brk => exact hs.elim fun _ z => z.elim fun _ z => z.2.elim
  | cont => exact hs.elim fun _ z => z.elim fun _ z => z.2.elim
end
section
variable {X : Cx} {CX : CXT} {k : Nat} {f : Addr} {fd : FuncData} {ps : List Str} {sp : Sp} {E : XK} {x : Str} {p pos : Pos} {e : Expr} {es : List Expr} {t : TA}
theorem pe_callG (F : FnOkG X.prog X.w X.K X.mg X.base CX k f fd ps sp) (hg : X.A.guards = some []) (hr : Room k X.A) (gl : Gl X x) (hm : X.mg x = some (.ref f)) (hk : PySem.W.keepIn X.K (.ref f) = true) (hb : Binds X.K fd ps []) (hx : Passes CX X E)
    (ha : PA X (e :: es) t) (hdb : (x == ("__debug__" : Str)) = false := by decide) (he : starEach (e :: es) X.env = (false, eval e X.env) :: starEach es X.env := by rfl) (hpl : (backTo pos (starEach es X.env)).any (·.1) = false := by rfl) :
    PE X (.Call (.Name x p) (e :: es) [] pos) (tCall sp [] E t) := by
  refine ⟨fun pins s σ H Q I h => wpAny_Call_Name_kw (ld_glob I gl hm ?_ hdb)⟩
  refine PySem.W.callWith_K (h₀ := X.base) I.ok.mod.kin hk (thn (ha.run pos pins s σ H _ I h) fun us s1 hq => ?_) he hpl
  obtain ⟨vs, H1, I1, r, q⟩ := hq
  have q : sp (vs ++ []) H1 Q E := q
  rw [List.append_nil] at q
  have hl : (us ++ []).length = ps.length := by
    rw [List.append_nil, ← r.length]
    exact F.len _ _ _ _ q
  have b := hb s1 us I1.kIn hl
  rw [List.append_nil] at b
  refine ⟨I1.kIn, wpAny_call (codeAny_mono (F.run X.A X.stack s1 H1 ⟨us, []⟩ us vs Q E hg hr I1.env0 b r q) fun res s' hq => ?_)⟩
  cases res with
  | error e => exact hx pins σ H1 s1 e s' I1 hq
  | ok fl =>
    cases fl with
    | ret u => exact I1.after hq
    | next => exact False.elim hq
    | brk => exact False.elim hq
    | cont => exact False.elim hq

/-! ### f(k = e, ..), what is raised wished for at the slots -/
variable {ks : List Str} {kws : List Keyword} {tk : TA} {g : List Value → List Value → List Value} {gV : List V → List V → List V} {ES : L2.St → XK}
def tCallKS (sp : Sp) (gV : List V → List V → List V) (ES : L2.St → XK) (tk : TA) : TE := fun σ H Q => tk σ H fun zs H2 => sp (gV [] zs) H2 Q (ES σ)
theorem pe_callKS (F : FnOk X.prog X.w X.K X.mg X.base CX k f fd ps sp) (hr : Room k X.A) (gl : Gl X x) (hm : X.mg x = some (.ref f)) (hk : PySem.W.keepIn X.K (.ref f) = true) (hb : KBinds X.K fd ps ks g gV) (hx : ∀ σ, PassesAt CX X σ (ES σ))
    (hkw : PK X kws tk) (hall : (backToKw pos (keywordEach kws X.env)).all (·.1.isSome) = true := by rfl) (hks : (backToKw pos (keywordEach kws X.env)).filterMap (·.1) = ks := by rfl)
    (hdb : (x == ("__debug__" : Str)) = false := by decide) (hpl : ((backTo pos (starEach [] X.env)).any (·.1) || (backToKw pos (keywordEach kws X.env)).any (·.1.isNone)) = false := by rfl) :
    PE X (.Call (.Name x p) [] kws pos) (tCallKS sp gV ES tk) := by
  refine ⟨fun pins s σ H Q I h => wpAny_Call_Name_kw (ld_glob I gl hm ?_ hdb)⟩
  refine PySem.W.callWith_KW0 (h₀ := X.base) I.ok.mod.kin hk hall (thn (hkw.run pos pins s σ H _ I h) fun ws s2 hq => ?_) hpl
  obtain ⟨zs, H2, I2, rz, q2⟩ := hq
  refine ⟨I2.kIn, ?_⟩
  rw [hks]
  have r2 := hb.rel .nil rz
  have hl : (g [] ws).length = ps.length := by
    rw [← r2.length]
    exact F.len _ _ _ _ q2
  refine wpAny_call (codeAny_mono (F.run X.A X.stack s2 H2 ⟨[], ks.zip ws⟩ (g [] ws) (gV [] zs) Q (ES σ) hr I2.env0 (hb.to s2 [] ws I2.kIn hl) r2 q2) fun res s' hq => ?_)
  cases res with
  | error e => exact hx σ pins H2 s2 e s' I2 hq
  | ok fl =>
    cases fl with
    | ret u => exact I2.after hq
    | next => exact False.elim hq
    | brk => exact False.elim hq
    | cont => exact False.elim hq
end
end RW
end

section
set_option maxRecDepth 100000
set_option maxHeartbeats 4000000
/-! new tuples whose record is known: for t.index(x), which asks that the object has no dict -/
namespace RW
open PySem PySem.Spec PyProof.Rows L2
def Fz (H : Hp) (a : Addr) (xs : List V) : Prop := ∃ o : Obj, H a = some (.frz o (.tup xs)) ∧ o.dict = none
theorem Fz.sq {K : PySem.W.Frag} {H : Hp} {a : Addr} {xs : List V} (h : Fz H a xs) : SqT K H a xs := let ⟨o, e, _⟩ := h; .inl (.inr ⟨o, e⟩)
section
variable {X : Cx} {pos : Pos} {es : List Expr} {t : TA}
/-- (a, b, ..) -/
def tTupZ (t : TA) : TE := fun σ H Q => t σ H fun xs H1 => xs.length ≤ sizeLine ∧ ∀ (p : Addr) (o : Obj), H1 p = none → o.dict = none → Q (.ref p) (upd H1 p (.frz o (.tup xs)))
theorem pe_tupZ {x1} (h : PA X es t) : PE X (.Tuple es x1 pos) (tTupZ t) := by
  refine ⟨fun pins s σ H Q I hq => ?_⟩
  refine wpAny_Tuple_spliced (thn (h.run pos pins s σ H _ I hq) fun us s1 ⟨xs, H1, I1, r, z, q⟩ => ⟨by rw [← r.length]; exact z, ?_⟩)
  have hf : H1 s1.heap.objs.size = none := I1.hok.fresh (Nat.le_refl _)
  refine ⟨.ref s1.heap.objs.size, upd H1 s1.heap.objs.size (.frz { cls := .type "tuple", data := .seq us.toArray } (.tup xs)), I1.laid (t' := s1.toks) (fun b u e => Heap.get?_push_of_some _ e) (Nat.le_refl _) ?_, rfl, q _ _ hf rfl⟩
  exact ⟨Heap.get?_push_size _ rfl, z, us, r, ⟨_, Heap.get?_push_size _ rfl, rfl, _, rfl⟩⟩
/-- tuple(list) -/
def rTupZ (K : PySem.W.Frag) : List V → Hp → VK → Prop := fun xs H Q => ∃ p ys, xs = [.ref p] ∧ SqL K H p ys ∧ ∀ (l : Addr) (o : Obj), H l = none → o.dict = none → Q (.ref l) (upd H l (.frz o (.tup ys)))
theorem call_tuple_Z : CallR X (.type "tuple") (rTupZ X.K) := by
  intro pins s σ H xs us Q I r h
  obtain ⟨p, ys, rfl, hq, q⟩ := h
  obtain ⟨u, rfl, rx⟩ := vals1 r
  cases rx
  obtain ⟨its, r', pl, hz⟩ := I.list hq
  have hlen := r'.length
  refine call_tuple_list pl.isList (fun h' kp => ?_) (by simp only [List.size_toArray] <;> omega)
  have I1 : Inv X pins σ H { s with heap := h' } := I.kept (t' := s.toks) kp
  have I2 : Inv X pins σ (upd H h'.objs.size (.frz { cls := .type "tuple", data := .seq its.toArray } (.tup ys))) { s with heap := h'.push { cls := .type "tuple", data := .seq its.toArray } } :=
    I1.laid (t' := s.toks) (fun b o e => Heap.get?_push_of_some _ e) (Nat.le_refl _) (show ObjOk X.prog X.w _ _ _ (.frz _ (.tup ys)) from ⟨Heap.get?_push_size _ rfl, hz, its, r', IsTup.new _ _⟩)
  exact ⟨.ref h'.objs.size, _, I2, rfl, q _ _ (I1.hok.fresh (Nat.le_refl _)) rfl⟩
/-- t + u, u not empty -/
def rCatZ (K : PySem.W.Frag) : R2 := fun x y H Q => ∃ a b xs ys, x = .ref a ∧ y = .ref b ∧ SqT K H a xs ∧ SqT K H b ys ∧ ys ≠ [] ∧ xs.length + ys.length ≤ sizeLine ∧
  (xs = [] → Q (.ref b) H) ∧ (xs ≠ [] → ∀ (p : Addr) (o : Obj), H p = none → o.dict = none → Q (.ref p) (upd H p (.frz o (.tup (xs ++ ys)))))
theorem op_catZ : OpR X (binaryOp .Add) (rCatZ X.K) := by
  intro pins s σ H x y v u Q I rx ry h
  obtain ⟨a, b, xs, ys, rfl, rfl, ha, hb, hy, hz, q0, q2⟩ := h
  cases rx
  cases ry
  obtain ⟨its, r1, p1, _⟩ := I.tuple ha
  obtain ⟨its2, r2, p2, _⟩ := I.tuple hb
  by_cases hx : xs = []
  · subst hx
    cases r1
    exact cat_tup0 p1 p2 ⟨.ref b, H, I, rfl, q0 rfl⟩
  · refine HT.cat_tup p1 p2 (fun z => hx (r1.nil_iff.mp z)) (fun z => absurd (r2.nil_iff.mp z) hy) (fun z => ?_) (by rw [← r1.length, ← r2.length]; exact hz)
    refine ⟨.ref s.heap.objs.size, _, I.laid (t' := s.toks) (o := .frz { cls := .type "tuple", data := .seq (its ++ its2).toArray } (.tup (xs ++ ys))) (fun b ob q => Heap.get?_push_of_some _ q) (Nat.le_refl _) ?_, rfl, q2 hx _ _ (I.hok.fresh (Nat.le_refl _)) rfl⟩
    exact ⟨Heap.get?_push_size _ rfl, by rw [List.length_append]; exact hz, _, r1.append r2, IsTup.new _ _⟩
/-- t.index(x) -/
def rTupIx (K : PySem.W.Frag) : V → List V → Hp → VK → Prop := fun x xs H Q => ∃ p, ∃ ys : List Str, ∃ z j, x = .ref p ∧ xs = [.str z] ∧ SqT K H p (ys.map V.str) ∧ ys[j]? = some z ∧ (∀ m, m < j → ys[m]? ≠ some z) ∧ Q (.int (j : Nat)) H
def tTix (K : PySem.W.Frag) (to : TE) (t : TA) : TE := fun σ H Q => to σ H fun x H1 => (∃ a xs, x = .ref a ∧ Fz H1 a xs) ∧ t σ H1 fun xs H2 => rTupIx K x xs H2 Q
theorem pe_tix {o e : Expr} {to : TE} {apos cpos : Pos} (ho : PE X o to) (ha : PA X [e] t)
    (hbase : attributeBase o "index" X.env (eval o X.env) = eval o X.env := by rfl)
    (hfew : ((backTo cpos (starEach [e] X.env)).all (fun x => !x.1) && (backToKw cpos (keywordEach [] X.env)).all (fun x => x.1.isSome)
      && decide (([e] : List Expr).length + ([] : List Keyword).length + (if ([] : List Keyword).isEmpty then 0 else 1) < 30)) = true := by rfl)
    (hline : (apos.endLine == cpos.line) = true := by rfl) (hs : starEach [e] X.env = (false, eval e X.env) :: starEach [] X.env := by rfl) (hplain : (backTo cpos (starEach [] X.env)).any (·.1) = false := by rfl) :
    PE X (.Call (.Attribute o "index" apos) [e] [] cpos) (tTix X.K to t) := by
  refine ⟨fun pins s σ H Q I h => ?_⟩
  refine wpAny_Call_method_late hbase hfew hline rfl (thn (ho.run pins s σ H _ I h) fun v s1 ⟨x, H1, I1, r1, ⟨a, xs, ex, ob, hob, hdn⟩, q1⟩ => ?_)
  subst ex
  cases r1
  obtain ⟨g, _, its, _, p⟩ := I1.hok a _ hob
  have h2 : ∀ b, Value.ref a = .ref b → ∃ o, s1.heap.get? b = some o ∧ o.dict = none := fun b eb => by
    cases eb
    exact ⟨ob, g, hdn⟩
  refine ⟨"tuple", "tuple.index", PySem.F.plainAttrs_tuple, PySem.F.slot_tuple_index, PySem.F.type_tuple_index, p.typeIs, h2, ?_⟩
  have hA := ha.run cpos pins s1 σ H1 _ I1 q1
  rw [hs] at hA ⊢
  refine Calls.callWith_builtin (by show (false || (backTo cpos (starEach [] X.env)).any (·.1)) = false; rw [hplain] <;> rfl) (Calls.evalArgs_plain ?_)
  exact thn hA fun us s2 ⟨vs, H2, I2, r2, q2⟩ => mt_tup_index pins s2 σ H2 (.ref a) vs _ us Q I2 rfl r2 q2
end
end RW
end

section
set_option maxRecDepth 100000
set_option maxHeartbeats 4000000
/-! words for the walk: what stands, tuples, webs, data; the names that are free; how a def is called -/
namespace RW
open PySem PySem.Spec PyProof.Rows L2 Evl

/-! ### heaps -/
theorem ex_same {H H' : Hp} (e : Ex H H') : Same H H' := e
/-- all but one object stand -/
def But (f : Addr) (H H' : Hp) : Prop := ∀ a o, a ≠ f → H a = some o → H' a = some o
theorem But.refl (f : Addr) (H : Hp) : But f H H := fun _ _ _ h => h
theorem But.trans {f : Addr} {H H1 H2 : Hp} (a : But f H H1) (b : But f H1 H2) : But f H H2 := fun x o n h => b x o n (a x o n h)
theorem But.of {f : Addr} {H H' : Hp} (e : Ex H H') : But f H H' := fun a o _ h => e a o h
theorem But.upd {f : Addr} {H H' : Hp} {o : HO} (e : But f H H') : But f H (upd H' f o) := fun a u n h => by
  rw [upd_ne n]
  exact e a u n h
/-- a new object -/
theorem But.new {f p : Addr} {H H' : Hp} {o : HO} (e : But f H H') (h : H' p = none) : But f H (L2.upd H' p o) := fun a u n q => by
  rw [upd_ne (ne_of_none (e a u n q) h)]
  exact e a u n q
/-- an object that H does not know changes -/
theorem But.mut {f p : Addr} {H H' : Hp} {o : HO} (e : But f H H') (h : H p = none) : But f H (L2.upd H' p o) := fun a u n q => by
  rw [upd_ne (ne_of_none q h)]
  exact e a u n q
theorem But.free {f a : Addr} {H H' : Hp} (e : But f H H') (n : a ≠ f) (h : H' a = none) : H a = none := by
  cases q : H a with
  | none => rfl
  | some o => rw [e a o n q] at h; cases h

/-! ### tuples stand, whatever else is written -/
def Tp (K : PySem.W.Frag) (H H' : Hp) : Prop := (∀ a xs, SqT K H a xs → SqT K H' a xs) ∧ ∀ a xs, Fz H a xs → Fz H' a xs
section
variable {K : PySem.W.Frag} {H H' H1 H2 : Hp} {a l p : Addr} {xs ys : List V}
theorem Tp.refl (H : Hp) : Tp K H H := ⟨fun _ _ h => h, fun _ _ h => h⟩
theorem Tp.trans (x : Tp K H H1) (y : Tp K H1 H2) : Tp K H H2 := ⟨fun a xs h => y.1 a xs (x.1 a xs h), fun a xs h => y.2 a xs (x.2 a xs h)⟩
theorem Tp.of (e : Ex H H') : Tp K H H' := ⟨fun _ _ h => ex_t e h, fun _ _ ⟨o, h, d⟩ => ⟨o, e _ _ h, d⟩⟩
/-- what is written at l is no tuple -/
theorem Tp.upd {o : HO} (h1 : ∀ xs, H l ≠ some (.tup xs)) (h2 : ∀ ob u, H l ≠ some (.frz ob u)) : Tp K H (upd H l o) := by
  refine ⟨fun a xs h => ?_, fun a xs ⟨ob, h, d⟩ => ⟨ob, ?_, d⟩⟩
  · rcases h with (h | ⟨ob, h⟩) | h
    · refine .inl (.inl ?_)
      rw [upd_ne]
      · exact h
      · rintro rfl
        exact h1 _ h
    · refine .inl (.inr ⟨ob, ?_⟩)
      rw [upd_ne]
      · exact h
      · rintro rfl
        exact h2 _ _ h
    · exact .inr h
  · rw [upd_ne]
    · exact h
    · rintro rfl
      exact h2 _ _ h
theorem Tp.new {o : HO} (h : H p = none) : Tp K H (L2.upd H p o) := Tp.upd (fun xs z => by rw [h] at z; cases z) (fun ob u z => by rw [h] at z; cases z)
theorem Tp.lst {o : HO} (h : H l = some (.lst xs)) : Tp K H (L2.upd H l o) := Tp.upd (fun xs z => by rw [h] at z; cases z) (fun ob u z => by rw [h] at z; cases z)
theorem Tp.dk {o : HO} {kvs : List (Key × V)} (h : H l = some (.dK kvs)) : Tp K H (L2.upd H l o) := Tp.upd (fun xs z => by rw [h] at z; cases z) (fun ob u z => by rw [h] at z; cases z)
theorem Tp.but {f : Addr} (e : But f H H') (h : H f = some (.lst xs)) : Tp K H H' := by
  refine ⟨fun a ys q => ?_, fun a ys ⟨ob, q, d⟩ => ⟨ob, e a _ (fun z => by rw [z, h] at q; cases q) q, d⟩⟩
  rcases q with (q | ⟨ob, q⟩) | q
  · exact .inl (.inl (e a _ (fun z => by rw [z, h] at q; cases q) q))
  · exact .inl (.inr ⟨ob, e a _ (fun z => by rw [z, h] at q; cases q) q⟩)
  · exact .inr q
end

/-! ### pairs of lists -/
theorem paired_len {α β : Type} {F : α → β → Prop} {xs : List α} {ys : List β} (h : Paired F xs ys) : xs.length = ys.length := Paired.length h
theorem paired_at {α β : Type} {F : α → β → Prop} : ∀ {xs : List α} {ys : List β} {i : Nat} {y : β}, Paired F xs ys → ys[i]? = some y → ∃ x, xs[i]? = some x ∧ F x y
  | _, _, _, _, .nil, e => by simp at e
  | _, _, 0, _, .cons r _, e => ⟨_, rfl, by simp at e; subst e; exact r⟩
  | _, _, i + 1, y, .cons _ t, e => by
    obtain ⟨x, h1, h2⟩ := paired_at (i := i) (y := y) t (by simpa using e)
    exact ⟨x, by simpa using h1, h2⟩
theorem paired_at' {α β : Type} {F : α → β → Prop} : ∀ {xs : List α} {ys : List β} {i : Nat} {x : α}, Paired F xs ys → xs[i]? = some x → ∃ y, ys[i]? = some y ∧ F x y
  | _, _, _, _, .nil, e => by simp at e
  | _, _, 0, _, .cons r _, e => ⟨_, rfl, by simp at e; subst e; exact r⟩
  | _, _, i + 1, x, .cons _ t, e => by
    obtain ⟨y, h1, h2⟩ := paired_at' (i := i) (x := x) t (by simpa using e)
    exact ⟨y, by simpa using h1, h2⟩
theorem paired_mono {α β : Type} {F G : α → β → Prop} {xs : List α} {ys : List β} (h : Paired F xs ys) (f : ∀ a b, F a b → G a b) : Paired G xs ys := L2.Paired.mapP h f
theorem paired_snoc {α β : Type} {F : α → β → Prop} : ∀ {xs : List α} {ys : List β} {x : α} {y : β}, Paired F xs ys → F x y → Paired F (xs ++ [x]) (ys ++ [y])
  | _, _, _, _, .nil, h => .cons h .nil
  | _, _, _, _, .cons r t, h => .cons r (paired_snoc t h)

/-! ### webs -/
abbrev RdS := Str × Str × Str
def IsRd (K : PySem.W.Frag) (H : Hp) (v : V) (r : RdS) : Prop := ∃ a, v = .ref a ∧ SqT K H a [.str r.1, .str r.2.1, .str r.2.2]
/-- at a stands the web (P, R) -/
def IsWb (K : PySem.W.Frag) (H : Hp) (a : Addr) (P : List Str) (R : List RdS) : Prop :=
  ∃ (ap ar : Addr) (rs : List V), SqT K H a [.ref ap, .ref ar] ∧ Fz H ap (P.map V.str) ∧ SqT K H ar rs ∧ Paired (IsRd K H) rs R
section
variable {K : PySem.W.Frag} {H H' : Hp} {a : Addr} {P : List Str} {R : List RdS}
theorem IsRd.mono {v : V} {r : RdS} (h : IsRd K H v r) (t : Tp K H H') : IsRd K H' v r := let ⟨a, e, q⟩ := h; ⟨a, e, t.1 _ _ q⟩
theorem IsWb.mono (h : IsWb K H a P R) (t : Tp K H H') : IsWb K H' a P R := by
  obtain ⟨ap, ar, rs, h1, h2, h3, h4⟩ := h
  exact ⟨ap, ar, rs, t.1 _ _ h1, t.2 _ _ h2, t.1 _ _ h3, paired_mono h4 fun v r q => q.mono t⟩
end

/-! ### data -/
section
variable {K : PySem.W.Frag} {H H' : Hp}
mutual
theorem dp_mono (t : Ex H H') : ∀ {v : V} {d : PyData}, Dp K H v d → Dp K H' v d
  | _, _, .non => .non
  | _, _, .bl b => .bl b
  | _, _, .int i => .int i
  | _, _, .str x => .str x
  | _, _, .lst h hs => .lst (ex_l t h) (dpa_mono t hs)
  | _, _, .tup h hs => .tup (ex_t t h) (dpa_mono t hs)
theorem dpa_mono (t : Ex H H') : ∀ {vs : List V} {ds : List PyData}, DpAll K H vs ds → DpAll K H' vs ds
  | _, _, .nil => .nil
  | _, _, .cons h hs => .cons (dp_mono t h) (dpa_mono t hs)
end
theorem dpa_len : ∀ {vs : List V} {ds : List PyData}, DpAll K H vs ds → vs.length = ds.length
  | _, _, .nil => rfl
  | _, _, .cons _ hs => by simp [dpa_len hs]
theorem dpa_at : ∀ {vs : List V} {ds : List PyData} {i : Nat} {v : V}, DpAll K H vs ds → vs[i]? = some v → ∃ d, ds[i]? = some d ∧ Dp K H v d
  | _, _, _, _, .nil, e => by simp at e
  | _, _, 0, _, .cons h _, e => ⟨_, rfl, by simp at e; subst e; exact h⟩
  | _, _, i + 1, v, .cons _ hs, e => by
    obtain ⟨d, h1, h2⟩ := dpa_at (i := i) (v := v) hs (by simpa using e)
    exact ⟨d, by simpa using h1, h2⟩
theorem dpa_app : ∀ {vs us : List V} {ds es : List PyData}, DpAll K H vs ds → DpAll K H us es → DpAll K H (vs ++ us) (ds ++ es)
  | _, _, _, _, .nil, h => h
  | _, _, _, _, .cons h hs, q => .cons h (dpa_app hs q)
theorem dpa_strs : ∀ (l : List Str), DpAll K H (l.map V.str) (l.map PyData.str)
  | [] => .nil
  | x :: t => .cons (.str x) (dpa_strs t)
/-- of what type a value is -/
def tyD : PyData → String
  | .none => "NoneType"
  | .bool _ => "bool"
  | .int _ => "int"
  | .str _ => "str"
  | .list _ => "list"
  | .tuple _ => "tuple"
  | .dict _ => "dict"
theorem tyx_t {a : Addr} {xs : List V} (h : SqT K H a xs) : TyX K H (.ref a) (.type "tuple") := by
  rcases h with (h | ⟨o, h⟩) | ⟨o, _, n, hk, hc, _⟩
  · exact .base (.tup h)
  · exact .fTuple h
  · exact .kTuple hk hc
theorem tyx_l {a : Addr} {xs : List V} (h : SqL K H a xs) : TyX K H (.ref a) (.type "list") := by
  rcases h with (h | ⟨o, h⟩) | ⟨o, _, n, hk, hc, _⟩
  · exact .base (.lst h)
  · exact .base (.frz h)
  · exact .kList hk hc
theorem dp_ty {v : V} {d : PyData} (h : Dp K H v d) : TyX K H v (.type (tyD d)) := by
  cases h with
  | non => exact .base .non
  | bl b => exact .base (.bl b)
  | int i => exact .base (.int i)
  | str x => exact .base (.str x)
  | lst h _ => exact tyx_l h
  | tup h _ => exact tyx_t h
/-- is it of this type, as isinstance has it -/
def isTyS (s T : String) : Bool := s == T || (s == "bool" && T == "int")
def isTy (T : String) (d : PyData) : Bool := isTyS (tyD d) T
theorem kit_s (s T : String) (hs : s ∈ ["NoneType", "bool", "int", "str", "list", "tuple"]) (hT : T ∈ ["int", "bool", "str", "tuple"]) : kitB s T = some (isTyS s T) := by
  have all : (["NoneType", "bool", "int", "str", "list", "tuple"].all fun s => ["int", "bool", "str", "tuple"].all fun T => decide (kitB s T = some (isTyS s T))) = true := by decide +kernel
  exact of_decide_eq_true (List.all_eq_true.mp (List.all_eq_true.mp all s hs) T hT)
theorem kit_d (d : PyData) (hd : ∀ kvs, d ≠ .dict kvs) (T : String) (hT : T ∈ ["int", "bool", "str", "tuple"]) : PySem.W.kitOne K (.type (tyD d)) (.type T) = some (isTy T d) := by
  refine kit_ty (kit_s _ _ ?_ hT)
  cases d with
  | dict kvs => exact absurd rfl (hd kvs)
  | _ => simp [tyD]
theorem dp_nodict {v : V} {d : PyData} (h : Dp K H v d) : ∀ kvs, d ≠ .dict kvs := fun kvs z => by
  subst z
  cases h
/-- isinstance(v, T) -/
theorem isi_d {v : V} {d : PyData} {T : String} {Q : VK} (h : Dp K H v d) (hT : T ∈ ["int", "bool", "str", "tuple"]) (q : Q (.bl (isTy T d)) H) : rIsi K [v, .ty T] H Q :=
  ⟨v, .ty T, _, .type T, _, rfl, .ty T, dp_ty h, kit_d d (dp_nodict h) T hT, q⟩
end

/-! ### the built-ins' names are free -/
structure Frees (mg : Str → Option Value) : Prop where
  len_ : mg "len" = none
  isinstance_ : mg "isinstance" = none
  all_ : mg "all" = none
  sum_ : mg "sum" = none
  max_ : mg "max" = none
  min_ : mg "min" = none
  repr_ : mg "repr" = none
  int_ : mg "int" = none
  bool_ : mg "bool" = none
  str_ : mg "str" = none
  list_ : mg "list" = none
  tuple_ : mg "tuple" = none
  dict_ : mg "dict" = none
  set_ : mg "set" = none
  range_ : mg "range" = none
  enumerate_ : mg "enumerate" = none
  zip_ : mg "zip" = none
/-- a def that keeps a promise, by its name -/
def Cal (P : Program) (w : World) (K : PySem.W.Frag) (mg : Str → Option Value) (base : Heap) (CX : CXT) (k : Nat) (x : Str) (ps : List Str) (sp : Sp) : Prop :=
  ∃ (f : Addr) (fd : FuncData), FnOk P w K mg base CX k f fd ps sp ∧ mg x = some (.ref f) ∧ PySem.W.keepIn K (.ref f) = true ∧ Binds K fd ps []
/-- a def of the text, by its name -/
def HasD (K : PySem.W.Frag) (mg : Str → Option Value) (x : Str) (st : Stmt) : Prop := ∃ (f : Addr) (fd : FuncData), Fun K x x st f fd ∧ mg x = some (.ref f)
/-- the two promises' shapes -/
def Rv (v : V) (H : Hp) (Q : VK) : Prop := ∀ H2, Ex H H2 → Q v H2
section
variable {P : Program} {w : World} {K : PySem.W.Frag} {mg : Str → Option Value} {base : Heap}
theorem cal_of {x : Str} {st : Stmt} {N ps : List Str} {k : Nat} {sp : Sp} (F : HasD K mg x st) (S : FnScope N ps (defScope st)) (len : ∀ vs H Q E, sp vs H Q E → vs.length = ps.length)
    (bd : ∀ (kV doc pm : Value) (an : Option Addr) (cdv ct : Value) (us : List Value), us.length = ps.length → bindArgs (PySem.W.fnOf x x (defArgs st) (defBody st) (defScope st) .none kV doc pm an cdv ct) ⟨us, []⟩ = pure (ps.zip us))
    (body : ∀ (f : Addr) (cdv : Value) (A : Around) (outer : List Env) (s : Shared) (H : Hp) (vs : List V) (Q : VK) (E : XK), Room k (A.deeper (envOfC x (defScope st) s.heap.objs.size f cdv)) → sp vs H Q E →
      ∃ t, PSs (cxOf CX0 P w K mg base N x (defScope st) f cdv A outer s H E).nox (defBody st) t ∧ t { nx := fun _ H' => Q .non H', rt := Q } (start N vs) H) : Cal P w K mg base CX0 (k + 1) x ps sp := by
  obtain ⟨f, fd, F, g⟩ := F
  exact ⟨f, fd, F.ok S len fun cdv A outer s H vs Q E hr h => body f cdv A outer s H vs Q E hr h, g, F.kp, F.binds bd⟩
/-- the same for a def that may raise -/
theorem cal_ofX {x : Str} {st : Stmt} {N ps : List Str} {k : Nat} {sp : Sp} (F : HasD K mg x st) (S : FnScope N ps (defScope st)) (len : ∀ vs H Q E, sp vs H Q E → vs.length = ps.length)
    (bd : ∀ (kV doc pm : Value) (an : Option Addr) (cdv ct : Value) (us : List Value), us.length = ps.length → bindArgs (PySem.W.fnOf x x (defArgs st) (defBody st) (defScope st) .none kV doc pm an cdv ct) ⟨us, []⟩ = pure (ps.zip us))
    (body : ∀ (f : Addr) (cdv : Value) (A : Around) (outer : List Env) (s : Shared) (H : Hp) (vs : List V) (Q : VK) (E : XK), Room k (A.deeper (envOfC x (defScope st) s.heap.objs.size f cdv)) → sp vs H Q E →
      ∃ t, PSs (cxOf (L2.CX P w) P w K mg base N x (defScope st) f cdv A outer s H E) (defBody st) t ∧ t { nx := fun _ H' => Q .non H', rt := Q } (start N vs) H) : Cal P w K mg base (L2.CX P w) (k + 1) x ps sp := by
  obtain ⟨f, fd, F, g⟩ := F
  exact ⟨f, fd, F.okX S len fun cdv A outer s H vs Q E hr h => body f cdv A outer s H vs Q E hr h, g, F.kp, F.binds bd⟩
end
end RW
end

section
set_option maxRecDepth 100000
set_option maxHeartbeats 4000000
/-! what evaluates to what, further (over HandS.Evl) -/
namespace RW
open PySem PySem.Spec PyProof.Rows L2 Evl
section
variable {K : PySem.W.Frag} {σ : L2.St} {H : Hp} {ta tb tc te tl : TE} {t : TT} {x y z v : V}
theorem ev_isi {d : PyData} {T : String} (h : Ev ta σ H v) (hd : Dp K H v d) (hT : T ∈ ["int", "bool", "str", "tuple"]) : Ev (tCB (rIsi K) (tCons ta (tCons (tC (.ty T)) tNil))) σ H (.bl (isTy T d)) := fun H1 e Q q =>
  h H1 e _ fun H2 e2 => isi_d (dp_mono (e.trans e2) hd) hT (q H2 e2)
def rLenStr : List V → Hp → VK → Prop := fun xs H Q => ∃ z : Str, xs = [.str z] ∧ z.length ≤ sizeLine ∧ Q (.int z.length) H
theorem ev_lenS {s : Str} (h : Ev ta σ H (.str s)) (hz : s.length ≤ sizeLine) : Ev (tCB rLenStr (tCons ta tNil)) σ H (.int s.length) := fun H1 e Q q =>
  h H1 e _ fun H2 e2 => ⟨s, rfl, hz, q H2 e2⟩
theorem ev_lenT {p : Addr} {xs : List V} (ha : Ev ta σ H (.ref p)) (h : SqT K H p xs) : Ev (tCB (rLenS K) (tCons ta tNil)) σ H (.int (xs.length : Int)) := fun H1 e Q q =>
  ha H1 e _ fun H2 e2 => ⟨p, xs, rfl, .inr (ex_t (e.trans e2) h), q H2 e2⟩
def rLenDk : List V → Hp → VK → Prop := fun xs H Q => ∃ a kvs, xs = [V.ref a] ∧ H a = some (.dK kvs) ∧ Q (.int kvs.length) H
theorem ev_lenD {p : Addr} {kvs : List (Key × V)} (ha : Ev ta σ H (.ref p)) (h : H p = some (.dK kvs)) : Ev (tCB rLenDk (tCons ta tNil)) σ H (.int (kvs.length : Int)) := fun H1 e Q q =>
  ha H1 e _ fun H2 e2 => ⟨p, kvs, rfl, (e.trans e2) _ _ h, q H2 e2⟩
def rLeI : R2 := rI0 fun i j => .bl (decide (i ≤ j))
theorem ev_chain {i j k : Int} (ha : Ev ta σ H (.int i)) (hb : Ev tb σ H (.int j)) (hc : Ev tc σ H (.int k)) : Ev (tChain rLeI rLeI ta tb tc) σ H (.bl (decide (i ≤ j ∧ j ≤ k))) := fun H1 e Q q =>
  ha H1 e _ fun H2 e2 => hb H2 (e.trans e2) _ fun H3 e3 => ⟨i, j, rfl, rfl, decide (i ≤ j), rfl, by
    by_cases h : i ≤ j
    · rw [decide_eq_true h]
      refine iteT (hc H3 ((e.trans e2).trans e3) _ fun H4 e4 => ⟨j, k, rfl, rfl, ?_⟩)
      have q' := q H4 ((e2.trans e3).trans e4)
      by_cases h2 : j ≤ k
      · rw [decide_eq_true (show i ≤ j ∧ j ≤ k from ⟨h, h2⟩)] at q'
        show Q (.bl (decide (j ≤ k))) H4
        rw [decide_eq_true h2]
        exact q'
      · rw [decide_eq_false (show ¬ (i ≤ j ∧ j ≤ k) from fun z => h2 z.2)] at q'
        show Q (.bl (decide (j ≤ k))) H4
        rw [decide_eq_false h2]
        exact q'
    · rw [decide_eq_false h]
      refine iteF ?_
      have q' := q H3 (e2.trans e3)
      rw [decide_eq_false (show ¬ (i ≤ j ∧ j ≤ k) from fun z => h z.1)] at q'
      exact q'⟩
theorem ev_all {bs : List Bool} {xs : List V} (h : EvL te σ H xs) (hx : xs = bs.map V.bl) : Ev (tCB (rAll K) (tCons te tNil)) σ H (.bl (bs.all id)) := fun H1 e Q q =>
  h H1 e _ fun p H2 _ e2 hp => ⟨p, bs, rfl, sq_of (by rw [← hx]; exact hp), q H2 e2⟩
def rInSg : R2 := fun x y H Q => ∃ (c : Nat) (z : Str), x = .str ⟨#[c]⟩ ∧ y = .str z ∧ Q (.bl (decide (c ∈ z.cps.toList))) H
theorem ev_inSign {c : Nat} {s : Str} (ha : Ev ta σ H (.str ⟨#[c]⟩)) (hb : Ev tb σ H (.str s)) : Ev (tOp rInSg ta tb) σ H (.bl (decide (c ∈ s.cps.toList))) :=
  ev_op ha hb (rv_val fun H1 _ Q q => ⟨c, s, rfl, rfl, q⟩)
theorem et_yes : EvT tYes σ H true := fun H1 _ _ q => q H1 (Ex.refl H1)
/-- a comprehension's list so far -/
theorem lc_acc {D : Addr} {H H' : Hp} (hD : H D = none) (e : Ex H H') {o : HO} : Ex H (upd H' D o) := Ex.mut e hD
/-- [e for x in t], whatever is made on the way: v is P of the item; P stays while all but D stands -/
theorem lcT_P {a : Addr} {xs : List V} {j : Nat} {vs : List Nat} {D : Addr} {Q : VK} (Pr : Nat → V → Hp → Prop) (hD : H D = none) (hx : SqT K H a xs) (hz : xs.length < sizeLine) (hw : ∀ x, wipe ((wipe σ vs).set j (some x)) vs = wipe σ vs)
    (st : ∀ i v H1 H2, But D H1 H2 → Pr i v H1 → Pr i v H2)
    (he : ∀ i x H1 Q, xs[i]? = some x → But D H H1 → (∃ l, H1 D = some (.lst l)) → (∀ v H2, Ex H1 H2 → Pr i v H2 → Q v H2) → te ((wipe σ vs).set j (some x)) H1 Q)
    (hd : ∀ H2 ys, Ex H H2 → H2 D = some (.lst ys) → ys.length = xs.length → (∀ i v, ys[i]? = some v → Pr i v H2) → Q (.ref D) H2) :
    ∃ W : Nat → Nat → Hp → Prop, (∃ m, W 0 m (upd H D (.lst []))) ∧ ∀ i m H, W i m H →
      ((Itt K a).stop i H ∧ Q (.ref D) H) ∨ ((Itt K a).go i H ∧ ∃ Nx : Hp → Prop, (∀ H', Nx H' → ∃ m', m' < m ∧ W (i + 1) m' H') ∧ ∀ x H', (Itt K a).yld i H x H' → gName j x (wipe σ vs) H' fun σ2 H2 => wipe σ2 vs = wipe σ vs ∧ tYes σ2 H2 fun b H3 =>
        if b = true then te σ2 H3 fun y H4 => ∃ acc, H4 D = some (.lst acc) ∧ acc.length < sizeLine ∧ Nx (upd H4 D (.lst (acc ++ [y]))) else Nx H3) := by
  refine lc_tup (K := K) (a := a) (xs := xs) (Qd := fun H => Q (.ref D) H) (fun i H' => ∃ ys, H' D = some (.lst ys) ∧ ys.length = i ∧ Ex H H' ∧ But D H H' ∧ ∀ k v, ys[k]? = some v → Pr k v H') ⟨[], upd_same, rfl, Ex.mut (Ex.refl H) hD, (But.refl D H).upd, by simp⟩ (fun i H' _ p => ?_) (fun i x H' hi p => ?_) (fun H' p => ?_)
  · obtain ⟨ys, _, _, e, _⟩ := p
    exact ex_t e hx
  · obtain ⟨ys, h1, h2, e, b, hp⟩ := p
    refine ⟨hw x, he i x H' _ hi b ⟨ys, h1⟩ fun v H2 e2 hv => ?_⟩
    have hlt : i < xs.length := (List.getElem?_eq_some_iff.mp hi).1
    have b2 : But D H' (upd H2 D (.lst (ys ++ [v]))) := (But.of e2).upd
    refine ⟨ys, e2 _ _ h1, by omega, ys ++ [v], upd_same, by simp [h2], Ex.mut (e.trans e2) hD, b.trans b2, fun k u hk => ?_⟩
    by_cases hlt2 : k < ys.length
    · rw [List.getElem?_append_left hlt2] at hk
      exact st k u _ _ b2 (hp k u hk)
    · rw [List.getElem?_append_right (by omega)] at hk
      have hk0 : k - ys.length = 0 := by
        have := (List.getElem?_eq_some_iff.mp hk).1
        simp at this
        omega
      rw [hk0] at hk
      have : v = u := by simpa using hk
      subst this
      have : k = i := by omega
      subst this
      exact st k v _ _ ((But.refl D H2).upd) hv
  · obtain ⟨ys, h1, h2, e, _, hp⟩ := p
    exact hd H' ys e h1 h2 hp
theorem el_lcT {a : Addr} {xs : List V} {j : Nat} {vs : List Nat} (f : V → V) (h : Ev tl σ H (.ref a)) (hx : SqT K H a xs) (hz : xs.length < sizeLine) (hw : ∀ x, wipe ((wipe σ vs).set j (some x)) vs = wipe σ vs)
    (he : ∀ (i : Nat) (x : V) H1, Ex H H1 → xs[i]? = some x → Ev te ((wipe σ vs).set j (some x)) H1 (f x)) : EvL (tLc (iTup K tl) (gName j) tYes te vs) σ H (xs.map f) := fun H0 e Q q => h H0 e _ fun H1 e1 => ⟨a, rfl, ⟨xs, ex_t (e.trans e1) hx⟩, fun D hD => by
  refine lcT_P (fun i v _ => ∃ x, xs[i]? = some x ∧ v = f x) hD (ex_t (e.trans e1) hx) hz hw (fun i v H1 H2 _ p => p) (fun i x H2 Q2 hi b _ q2 => ?_) (fun H2 ys e2 h1 h2 hp => ?_)
  · refine he i x (fun b => if b = D then none else H2 b) (fun c o hc => ?_) hi H2 (fun c o hc => ?_) Q2 fun H3 e3 => q2 _ H3 e3 ⟨x, hi, rfl⟩
    · have hne : c ≠ D := ne_of_none ((e.trans e1) c o hc) hD
      show (if c = D then none else H2 c) = some o
      rw [if_neg hne]
      exact b c o hne ((e.trans e1) c o hc)
    · have hc : (if c = D then none else H2 c) = some o := hc
      by_cases z : c = D
      · rw [if_pos z] at hc; cases hc
      · rw [if_neg z] at hc; exact hc
  · have ey : ys = xs.map f := by
      refine List.ext_getElem? fun i => ?_
      rw [List.getElem?_map]
      cases hy : ys[i]? with
      | none =>
        have : xs[i]? = none := by
          rw [List.getElem?_eq_none_iff] at hy ⊢
          omega
        rw [this]
        rfl
      | some v =>
        obtain ⟨x, hx1, rfl⟩ := hp i v hy
        rw [hx1]
        rfl
    rw [ey] at h1
    exact q D H2 (fresh_back e1 hD) (e1.trans e2) h1⟩
/-- [e for c in s] -/
theorem el_lcS {s : Str} {j : Nat} {vs : List Nat} (f : Nat → V) (h : Ev tl σ H (.str s)) (hz : s.length < sizeLine) (hw : ∀ x, wipe ((wipe σ vs).set j (some x)) vs = wipe σ vs)
    (he : ∀ (c : Nat) H1, Ex H H1 → Ev te ((wipe σ vs).set j (some (.str ⟨#[c]⟩))) H1 (f c)) : EvL (tLc (iStr tl) (gName j) tYes te vs) σ H (s.cps.toList.map f) := fun H0 e Q q => h H0 e _ fun H1 e1 => ⟨s, rfl, fun D hD => by
  refine lc_it walk_str (Qd := fun H => Q (.ref D) H) (fun i H' => H' D = some (.lst ((s.cps.toList.take i).map f)) ∧ Ex H1 H') ⟨upd_same, Ex.mut (Ex.refl H1) hD⟩ (fun _ _ _ _ => trivial) (fun i x H' H'' hi p hy => ?_) (fun H' p => ?_)
  · obtain ⟨h1, h2⟩ := p
    obtain ⟨rfl, c, hc, rfl⟩ := hy
    refine ⟨hw _, he c H1 (e.trans e1) H'' h2 _ fun H2 e2 => ⟨_, e2 _ _ h1, ?_, ?_, Ex.mut (h2.trans e2) hD⟩⟩
    · rw [List.length_map, List.length_take]
      exact Nat.lt_of_le_of_lt (Nat.min_le_right _ _) (by simpa [Str.length] using hz)
    · have hc' : s.cps.toList[i]? = some c := by simpa using hc
      rw [upd_same, List.take_add_one, hc']
      simp
  · obtain ⟨h1, h2⟩ := p
    refine q D H' (fresh_back e1 hD) (e1.trans h2) ?_
    have e : s.cps.toList.take s.cps.size = s.cps.toList := List.take_of_length_le (by simp)
    rw [e] at h1
    exact h1⟩
theorem ev_lenSet {p : Addr} {ss : List Str} (ha : Ev ta σ H (.ref p)) (h : SqT K H p (ss.map V.str)) (hz : ss.length < 4000) : Ev (tLenSetS K ta) σ H (.int ((dd ss).length : Nat)) := fun H1 e Q q =>
  ha H1 e _ fun H2 e2 => ⟨p, ss, rfl, ex_t (e.trans e2) h, hz, q H2 e2⟩
end
end RW
end

section
set_option maxRecDepth 100000
set_option maxHeartbeats 4000000
/-! the walk of what judges objects: is_integer .. need_index -/
namespace RW
open PySem PySem.Spec PyProof.Rows L2 Evl

section
variable {P : Program} {w : World} {K : PySem.W.Frag} {mg : Str → Option Value} {base : Heap}

def isIntD (d : PyData) : Bool := isTy "int" d && !isTy "bool" d
def spInt (K : PySem.W.Frag) : Sp := fun vs H Q _ => ∃ (v : V) (d : PyData), vs = [v] ∧ Dp K H v d ∧ Rv (.bl (isIntD d)) H Q
theorem c_int (Z : Frees mg) (F : HasD K mg "is_integer" sIsInteger) : Cal P w K mg base CX0 1 "is_integer" ["thing"] (spInt K) := by
  refine cal_of F scIsInteger (fun vs H Q E ⟨_, _, e, _⟩ => by rw [e]; rfl) (fun _ _ _ _ _ _ us hl => match us, hl with | [_], _ => rfl) fun f cdv A outer s H vs Q E hr h => ?_
  obtain ⟨v, d, rfl, hd, q⟩ := h
  refine ⟨_, (pss_one (ps_ret (pe_and (pe_callB call_isi (by rfl) Z.isinstance_ (by decide +kernel) (pa_cons (pv 0) (pa_cons (pe_bltn (v := .ty "int") (by rfl) Z.int_ (by decide +kernel) rfl) pa_nil))) (pe_one (pe_not (pe_callB call_isi (by rfl) Z.isinstance_ (by decide +kernel) (pa_cons (pv 0) (pa_cons (pe_bltn (v := .ty "bool") (by rfl) Z.bool_ (by decide +kernel) rfl) pa_nil)))))))), ?_⟩
  exact s_ret (ev_andV (ev_isi (ev_var rfl) hd (by simp)) fun _ => ev_notV (ev_isi (ev_var rfl) hd (by simp))) q

/-! ### names -/
def lets : Str := "abcdefghijklmnopqrstuvwxyz"
def sgns : Str := "abcdefghijklmnopqrstuvwxyz0123456789"
def nmS (s : Str) : Bool := decide (1 ≤ s.length ∧ s.length ≤ 8) && ((match s.cps.toList with | c :: _ => decide (c ∈ lets.cps.toList) | [] => false) && s.cps.toList.all fun c => decide (c ∈ sgns.cps.toList))
def nmD : PyData → Bool
  | .str s => nmS s
  | _ => false
/-- at the texts that the law brings all are short -/
def Short : PyData → Prop
  | .str s => s.length < sizeLine
  | _ => True
theorem isTy_str {d : PyData} (h : ¬ ∃ s, d = .str s) : isTy "str" d = false := by
  cases d with
  | str s => exact absurd ⟨s, rfl⟩ h
  | _ => exact of_decide_eq_true rfl
theorem isTy_str' (s : Str) : isTy "str" (.str s) = true := of_decide_eq_true rfl
def spNm (K : PySem.W.Frag) : Sp := fun vs H Q _ => ∃ (v : V) (d : PyData), vs = [v] ∧ Dp K H v d ∧ Short d ∧ Rv (.bl (nmD d)) H Q
structure Consts (mg : Str → Option Value) : Prop where
  LETTERS : ∃ t, mg "LETTERS" = some (.str lets t)
  SIGNS : ∃ t, mg "SIGNS" = some (.str sgns t)
  MOST_SIGNS : ∃ t, mg "MOST_SIGNS" = some (.int 8 t)
  MOST_PLACES : ∃ t, mg "MOST_PLACES" = some (.int 10 t)
  MOST_ROADS : ∃ t, mg "MOST_ROADS" = some (.int 14 t)
theorem c_nm (Z : Frees mg) (C : Consts mg) (F : HasD K mg "is_name" sIsName) : Cal P w K mg base CX0 1 "is_name" ["thing"] (spNm K) := by
  obtain ⟨_, cLETTERS⟩ := C.LETTERS
  obtain ⟨_, cSIGNS⟩ := C.SIGNS
  obtain ⟨_, cMOST_SIGNS⟩ := C.MOST_SIGNS
  refine cal_of F scIsName (fun vs H Q E ⟨_, _, e, _⟩ => by rw [e]; rfl) (fun _ _ _ _ _ _ us hl => match us, hl with | [_], _ => rfl) fun f cdv A outer s H vs Q E hr h => ?_
  obtain ⟨v, d, rfl, hd, hsh, q⟩ := h
  refine ⟨_, (pss_cons (ps_if (PW.pt (pw_or (pt_not (pt_val (pe_callB call_isi (by rfl) Z.isinstance_ (by decide +kernel) (pa_cons (pv 0) (pa_cons (pe_bltn (v := .ty "str") (by rfl) Z.str_ (by decide +kernel) rfl) pa_nil))))) (pw_or1 (pt_not (pt_chain op_le op_le pe_int (pe_callB call_len_str (by rfl) Z.len_ PySem.boot_len (pa_cons (pv 0) pa_nil)) (pe_glob (v := .int 8) rfl cMOST_SIGNS ⟨_, rfl⟩))))))
      (pss_one (ps_ret pe_bl)) pss_nil)
    (pss_one (ps_ret (pe_and (pe_cmpR op_in_sign (pe_ix ix_str (pv 0) pe_int (fun _ _ => rfl)) (pe_glob (v := .str lets) rfl cLETTERS ⟨_, rfl⟩) (by rfl)) (pe_one (pe_callB (cr_all rfl) (by rfl) Z.all_ (by decide +kernel) (pa_cons (pe_lc (own := [("sign", 1)]) (g := (gName 1)) (tt := tYes) (by rfl) scIsName.nd (pi_str (pv 0)) (blkOk_by (own := [("sign", 1)]) (N := nIsName) (sc := defScope sIsName) (by decide +kernel)) (fun _ _ _ _ _ => (pg_name (i := 1) scIsName.nd rfl (.inl rfl))) (fun _ _ _ _ _ => pts_nil) (fun _ _ _ _ _ => (pe_cmpR op_in_sign (pv 1) (pe_glob (v := .str sgns) rfl cSIGNS ⟨_, rfl⟩) (by rfl)))) pa_nil))))))), ?_⟩
  by_cases hs : ∃ s, d = .str s
  · obtain ⟨s, rfl⟩ := hs
    cases hd
    have hz : s.length < sizeLine := hsh
    have q : Rv (.bl (nmS s)) H Q := q
    refine q_when (et_or (et_not (et_B (ev_isi (d := .str s) (ev_var rfl) (.str s) (by simp)))) fun _ => et_not (et_test (ev_chain ev_c (ev_lenS (ev_var rfl) (Nat.le_of_lt hz)) ev_c))) (fun hb H1 e => ?_) (fun hb H1 e => ?_)
    · refine s_ret ev_c fun H2 e2 => ?_
      have hn : nmS s = false := by
        have hb : ¬ ((1 : Int) ≤ (s.length : Int) ∧ (s.length : Int) ≤ 8) := fun z => by
          rw [isTy_str', decide_eq_true z] at hb
          cases hb
        unfold nmS
        rw [decide_eq_false (show ¬ (1 ≤ s.length ∧ s.length ≤ 8) from fun z => hb (by omega))]
        rfl
      rw [hn] at q
      exact q H2 (e.trans e2)
    · have hl : 1 ≤ s.length ∧ s.length ≤ 8 := by
        rw [isTy_str'] at hb
        have hb : (1 : Int) ≤ (s.length : Int) ∧ (s.length : Int) ≤ 8 := by simpa using hb
        omega
      obtain ⟨c, t, hc⟩ : ∃ c t, s.cps.toList = c :: t := by
        cases hh : s.cps.toList with
        | nil =>
          have : s.length = 0 := by
            have := congrArg List.length hh
            simpa [Str.length] using this
          omega
        | cons c t => exact ⟨c, t, rfl⟩
      refine s_ret (ev_andV (ev_inSign (c := c) (ev_op (ev_var rfl) ev_c (rv_ixS (by omega) (by rw [hc]; exact atI_nat (j := 0) rfl))) ev_c) fun _ => ev_all (bs := s.cps.toList.map fun c => decide (c ∈ sgns.cps.toList)) (el_lcS (fun c => .bl (decide (c ∈ sgns.cps.toList))) (ev_var rfl) hz (fun _ => rfl) fun c H2 _ => ev_inSign (ev_var rfl) ev_c) (by rw [List.map_map]; rfl)) fun H2 e2 => ?_
      have hn : nmS s = (decide (c ∈ lets.cps.toList) && (s.cps.toList.map fun c => decide (c ∈ sgns.cps.toList)).all id) := by
        unfold nmS
        rw [decide_eq_true hl, hc, List.all_map]
        rfl
      rw [hn] at q
      exact q H2 (e.trans e2)
  · have hn : nmD d = false := by
      cases d with
      | str s => exact absurd ⟨s, rfl⟩ hs
      | _ => rfl
    rw [hn] at q
    refine q_when (b := true) (et_is (et_or (b := true) (et_not (et_B (ev_isi (ev_var rfl) hd (by simp)))) fun z => absurd z (by rw [isTy_str hs]; decide)) (by rw [isTy_str hs]; rfl)) (fun _ H1 e => ?_) (fun z => absurd z (by decide))
    exact s_ret ev_c fun H2 e2 => q H2 (e.trans e2)
end
end RW
end

section
set_option maxRecDepth 100000
set_option maxHeartbeats 4000000
/-! the walk of what judges objects: is_row_of, are_of, names_of_roads, are_names -/
namespace RW
open PySem PySem.Spec PyProof.Rows L2 Evl

/-! ### texts among texts -/
theorem eqV_str (a b : Str) : eqV (.str a) (.str b) = decide (a = b) := by
  show (a == b) = decide (a = b)
  by_cases h : a = b
  · subst h; simp
  · rw [decide_eq_false h]
    exact beq_eq_false_iff_ne.mpr h
theorem inV_strs (s : Str) : ∀ ns : List Str, inV (.str s) (ns.map V.str) = decide (s ∈ ns)
  | [] => by simp [inV]
  | n :: t => by
    have ih := inV_strs s t
    unfold inV at ih ⊢
    rw [List.map_cons, List.any_cons, ih, eqV_str]
    by_cases h : n = s
    · subst h; simp
    · by_cases h2 : s ∈ t
      · simp [h2]
      · simp [h2, h]
        exact fun z => h z.symm
theorem dec_len (n m : Nat) : decide (V.int (n : Int) = V.int (m : Int)) = decide (n = m) := by
  by_cases h : n = m
  · subst h; simp
  · rw [decide_eq_false h]
    exact decide_eq_false fun z => h (by injection z with z; omega)
/-- names in a list or in a tuple -/
def SqS (K : PySem.W.Frag) (H : Hp) (b : Addr) (ns : List Str) : Prop := SqL K H b (ns.map V.str) ∨ SqT K H b (ns.map V.str)
theorem SqS.mono {K : PySem.W.Frag} {H H' : Hp} {b : Addr} {ns : List Str} (h : SqS K H b ns) (e : Ex H H') : SqS K H' b ns := h.imp (ex_l e) (ex_t e)
theorem rv_inS {K : PySem.W.Frag} {H : Hp} {b : Addr} {ns : List Str} {s : Str} (h : SqS K H b ns) : RV (rIn K false) (.str s) (.ref b) H (.bl (decide (s ∈ ns))) := by
  have e : (if false = true then !inV (.str s) (ns.map V.str) else inV (.str s) (ns.map V.str)) = decide (s ∈ ns) := inV_strs s ns
  rw [← e]
  rcases h with h | h
  · exact rv_inL h rfl (flat_strs ns)
  · exact rv_inT h rfl (flat_strs ns)

/-! ### the mirrors -/
def rowD (d : PyData) (lo hi : Int) : Bool := match d with
  | .tuple ds => decide (lo ≤ ds.length ∧ (ds.length : Int) ≤ hi)
  | _ => false
def strIn (ns : List Str) : PyData → Bool
  | .str s => decide (s ∈ ns)
  | _ => false
def strsOf : List PyData → List Str
  | [] => []
  | .str s :: t => s :: strsOf t
  | _ :: t => strsOf t
def areOfD (ds : List PyData) (ns : List Str) : Bool := ds.all (strIn ns) && decide (strsOf ds).Nodup
def namesD (ds : List PyData) : Bool := ds.all nmD && decide (strsOf ds).Nodup
theorem strsOf_map : ∀ ss : List Str, strsOf (ss.map PyData.str) = ss
  | [] => rfl
  | s :: t => by
    show s :: strsOf (t.map PyData.str) = s :: t
    rw [strsOf_map t]
/-- all are texts -/
theorem all_strs {K : PySem.W.Frag} {H : Hp} (p : PyData → Bool) (hp : ∀ d, p d = true → ∃ s, d = .str s) : ∀ {xs : List V} {ds : List PyData}, DpAll K H xs ds → ds.all p = true → xs = (strsOf ds).map V.str ∧ (strsOf ds).length = ds.length
  | _, _, .nil, _ => ⟨rfl, rfl⟩
  | _, _, .cons h hs, ha => by
    rw [List.all_cons, Bool.and_eq_true] at ha
    obtain ⟨s, rfl⟩ := hp _ ha.1
    cases h
    obtain ⟨e1, e2⟩ := all_strs p hp hs ha.2
    exact ⟨by rw [e1]; rfl, by show (strsOf _).length + 1 = _ + 1; rw [e2]⟩
/-- a test of each item, told by the value -/
theorem map_test {K : PySem.W.Frag} {H : Hp} (f : V → V) (p : PyData → Bool) (hf : ∀ v d, Dp K H v d → f v = .bl (p d)) : ∀ {xs : List V} {ds : List PyData}, DpAll K H xs ds → xs.map f = (ds.map p).map V.bl
  | _, _, .nil => rfl
  | _, _, .cons h hs => by
    rw [List.map_cons, List.map_cons, List.map_cons, hf _ _ h, map_test f p hf hs]
theorem dpa_get {K : PySem.W.Frag} {H : Hp} {xs : List V} {ds : List PyData} (h : DpAll K H xs ds) {i : Nat} {x : V} (hx : xs[i]? = some x) : ∃ d ∈ ds, Dp K H x d := by
  obtain ⟨d, h1, h2⟩ := dpa_at h hx
  exact ⟨d, List.mem_of_getElem? h1, h2⟩
theorem all_map_id (ds : List PyData) (p : PyData → Bool) : (ds.map p).all id = ds.all p := by
  rw [List.all_map]
  rfl

section
variable {P : Program} {w : World} {K : PySem.W.Frag} {mg : Str → Option Value} {base : Heap}
def spRow (K : PySem.W.Frag) : Sp := fun vs H Q _ => ∃ (v : V) (d : PyData) (lo hi : Int), vs = [v, .int lo, .int hi] ∧ Dp K H v d ∧ Rv (.bl (rowD d lo hi)) H Q
theorem isTy_tup {d : PyData} (h : ¬ ∃ s, d = .tuple s) : isTy "tuple" d = false := by
  cases d with
  | tuple s => exact absurd ⟨s, rfl⟩ h
  | _ => exact of_decide_eq_true rfl
theorem isTy_tup' (s : List PyData) : isTy "tuple" (.tuple s) = true := of_decide_eq_true rfl
theorem c_row (Z : Frees mg) (F : HasD K mg "is_row_of" sIsRowOf) : Cal P w K mg base CX0 1 "is_row_of" ["thing", "least", "most"] (spRow K) := by
  refine cal_of F scIsRowOf (fun vs H Q E ⟨_, _, _, _, e, _⟩ => by rw [e]; rfl) (fun _ _ _ _ _ _ us hl => match us, hl with | [_, _, _], _ => rfl) fun f cdv A outer s H vs Q E hr h => ?_
  obtain ⟨v, d, lo, hi, rfl, hd, q⟩ := h
  refine ⟨_, (pss_one (ps_ret (pe_and (pe_callB (call_isi : CallR _ (.builtin "isinstance") (rIsi K)) (by rfl) Z.isinstance_ (by decide +kernel) (pa_cons (pv 0) (pa_cons (pe_bltn (v := .ty "tuple") (by rfl) Z.tuple_ (by decide +kernel) rfl) pa_nil))) (pe_one (pe_chain op_le op_le (pv 1) (pe_callB (call_len_seq : CallR _ (.builtin "len") (Evl.rLenS K)) (by rfl) Z.len_ PySem.boot_len (pa_cons (pv 0) pa_nil)) (pv 2)))))), ?_⟩
  by_cases ht : ∃ ds, d = .tuple ds
  · obtain ⟨ds, rfl⟩ := ht
    cases hd with
    | tup hx hs =>
      have e := dpa_len hs
      refine s_ret (ev_andV (ev_isi (ev_var rfl) (.tup hx hs) (by simp)) fun _ => ev_chain (ev_var rfl) (ev_lenT (ev_var rfl) hx) (ev_var rfl)) fun H2 e2 => ?_
      rw [isTy_tup', e]
      exact q H2 e2
  · refine s_ret (ev_andV (b := true) (ev_isi (ev_var rfl) hd (by simp)) fun z => absurd z (by rw [isTy_tup ht]; decide)) fun H2 e2 => ?_
    have hn : rowD d lo hi = false := by
      cases d with
      | tuple s => exact absurd ⟨s, rfl⟩ ht
      | _ => rfl
    rw [hn] at q
    rw [isTy_tup ht]
    exact q H2 e2

def spAreOf (K : PySem.W.Frag) : Sp := fun vs H Q _ => ∃ (a b : Addr) (xs : List V) (ds : List PyData) (ns : List Str), vs = [.ref a, .ref b] ∧ SqT K H a xs ∧ DpAll K H xs ds ∧ ds.length < 4000 ∧ SqS K H b ns ∧ Rv (.bl (areOfD ds ns)) H Q
def fIn (ns : List Str) : V → V
  | .str s => .bl (decide (s ∈ ns))
  | _ => .bl false
theorem c_of (Z : Frees mg) (F : HasD K mg "are_of" sAreOf) : Cal P w K mg base CX0 1 "are_of" ["thing", "names"] (spAreOf K) := by
  refine cal_of F scAreOf (fun vs H Q E ⟨_, _, _, _, _, e, _⟩ => by rw [e]; rfl) (fun _ _ _ _ _ _ us hl => match us, hl with | [_, _], _ => rfl) fun f cdv A outer s H vs Q E hr h => ?_
  obtain ⟨a, b, xs, ds, ns, rfl, hx, hs, hz, hn, q⟩ := h
  refine ⟨_, (pss_cons (ps_if (pt_not (pt_val (pe_callB (cr_all rfl : CallR _ (.builtin "all") (rAll K)) (by rfl) Z.all_ (by decide +kernel) (pa_cons (pe_lc (own := [("part", 2)]) (g := (gName 2)) (tt := tYes) (by rfl) scAreOf.nd (pi_tup (pv 0)) (blkOk_by (own := [("part", 2)]) (N := nAreOf) (sc := defScope sAreOf) (by decide +kernel)) (fun _ _ _ _ _ => (pg_name (i := 2) scAreOf.nd rfl (.inl rfl))) (fun _ _ _ _ _ => pts_nil) (fun _ _ _ _ _ => (pe_and (pe_callB (call_isi : CallR _ (.builtin "isinstance") (rIsi K)) (by rfl) Z.isinstance_ (by decide +kernel) (pa_cons (pv 2) (pa_cons (pe_bltn (v := .ty "str") (by rfl) Z.str_ (by decide +kernel) rfl) pa_nil))) (pe_one (pe_cmpR (op_in_seq : OpR _ (compareOp .In) (rIn K false)) (pv 2) (pv 1) (by rfl)))))) pa_nil))))
      (pss_one (ps_ret pe_bl)) pss_nil)
    (pss_one (ps_ret (pe_cmpR op_eq (pe_lenSetS (by rfl) Z.len_ (by rfl) Z.set_ (pv 0)) (pe_callB (call_len_seq : CallR _ (.builtin "len") (Evl.rLenS K)) (by rfl) Z.len_ PySem.boot_len (pa_cons (pv 0) pa_nil)) (nomark _))))), ?_⟩
  have hzx : xs.length < sizeLine := by
    rw [dpa_len hs]
    exact Nat.lt_trans hz (by decide)
  have hin : ∀ v d, Dp K H v d → fIn ns v = .bl (strIn ns d) := fun v d h => by cases h <;> rfl
  refine q_when (et_not (et_B (ev_all (bs := ds.map (strIn ns)) (el_lcT (fIn ns) (ev_var rfl) hx hzx (fun _ => rfl) fun i x H1 e1 hi => ?_) (map_test _ _ hin hs)))) (fun hb H1 e1 => ?_) (fun hb H1 e1 => ?_)
  · obtain ⟨d, _, hd⟩ := dpa_get hs hi
    rw [hin x d hd]
    by_cases hst : ∃ s, d = .str s
    · obtain ⟨s, rfl⟩ := hst
      cases hd
      exact ev_is (ev_andV (ev_isi (ev_var rfl) (.str s) (by simp)) fun _ => ev_op (ev_var rfl) (ev_var rfl) (rv_inS (hn.mono e1))) (by rw [isTy_str']; rfl)
    · refine ev_is (ev_andV (b := true) (ev_isi (ev_var rfl) (dp_mono e1 hd) (by simp)) fun z => absurd z (by rw [isTy_str hst]; decide)) ?_
      rw [isTy_str hst]
      cases d with
      | str s => exact absurd ⟨s, rfl⟩ hst
      | _ => rfl
  · refine s_ret ev_c fun H2 e2 => ?_
    rw [all_map_id] at hb
    have h0 : ds.all (strIn ns) = false := by simpa using hb
    have q : Rv (.bl (ds.all (strIn ns) && _)) H Q := q
    rw [h0] at q
    exact q H2 (e1.trans e2)
  · rw [all_map_id] at hb
    have h1 : ds.all (strIn ns) = true := by simpa using hb
    obtain ⟨ex, el⟩ := all_strs (strIn ns) (fun d hd => by cases d <;> first | exact ⟨_, rfl⟩ | cases hd) hs h1
    rw [ex] at hx
    have hx1 := ex_t e1 hx
    refine s_ret (ev_op (ev_lenSet (ev_var rfl) hx1 (by rw [el]; exact hz)) (ev_lenT (ev_var rfl) hx1) (rv_eq rfl)) fun H2 e2 => ?_
    have q : Rv (.bl (ds.all (strIn ns) && decide (strsOf ds).Nodup)) H Q := q
    rw [h1] at q
    have e : decide (V.int ((dd (strsOf ds)).length : Int) = V.int (((strsOf ds).map V.str).length : Int)) = decide (strsOf ds).Nodup := by
      rw [dec_len, List.length_map]
      exact decide_eq_decide.mpr (dd_le (strsOf ds)).2
    rw [e]
    exact q H2 (e1.trans e2)

def spNames (K : PySem.W.Frag) : Sp := fun vs H Q _ => ∃ (a : Addr) (xs : List V) (ds : List PyData), vs = [.ref a] ∧ SqT K H a xs ∧ DpAll K H xs ds ∧ ds.length < 4000 ∧ (∀ d ∈ ds, Short d) ∧ Rv (.bl (namesD ds)) H Q
def fNm : V → V
  | .str s => .bl (nmS s)
  | _ => .bl false
theorem spv_nm {H : Hp} {v : V} {d : PyData} (hd : Dp K H v d) (hs : Short d) : SpV (spNm K) [v] H (.bl (nmD d)) := fun H1 e Q q E => ⟨v, d, rfl, dp_mono e hd, hs, q⟩
theorem c_names (Z : Frees mg) (hIsName : Cal P w K mg base CX0 1 "is_name" ["thing"] (spNm K)) (F : HasD K mg "are_names" sAreNames) : Cal P w K mg base CX0 2 "are_names" ["thing"] (spNames K) := by
  obtain ⟨_, _, GIsName, gIsName, kIsName, bIsName⟩ := hIsName
  refine cal_of F scAreNames (fun vs H Q E ⟨_, _, _, e, _⟩ => by rw [e]; rfl) (fun _ _ _ _ _ _ us hl => match us, hl with | [_], _ => rfl) fun f cdv A outer s H vs Q E hr h => ?_
  obtain ⟨a, xs, ds, rfl, hx, hs, hz, hsh, q⟩ := h
  refine ⟨_, (pss_one (ps_ret (pe_and (pe_callB (cr_all rfl : CallR _ (.builtin "all") (rAll K)) (by rfl) Z.all_ (by decide +kernel) (pa_cons (pe_lc (own := [("name", 1)]) (g := (gName 1)) (tt := tYes) (by rfl) scAreNames.nd (pi_tup (pv 0)) (blkOk_by (own := [("name", 1)]) (N := nAreNames) (sc := defScope sAreNames) (by decide +kernel)) (fun _ _ _ _ _ => (pg_name (i := 1) scAreNames.nd rfl (.inl rfl))) (fun _ _ _ _ _ => pts_nil) (fun _ _ _ _ _ => (pe_call GIsName (hr.mono (by decide)) (by rfl) gIsName kIsName bIsName .nil pass0 (pa_cons (pv 1) pa_nil)))) pa_nil)) (pe_one (pe_cmpR op_eq (pe_lenSetS (by rfl) Z.len_ (by rfl) Z.set_ (pv 0)) (pe_callB (call_len_seq : CallR _ (.builtin "len") (Evl.rLenS K)) (by rfl) Z.len_ PySem.boot_len (pa_cons (pv 0) pa_nil)) (nomark _)))))), ?_⟩
  have hzx : xs.length < sizeLine := by
    rw [dpa_len hs]
    exact Nat.lt_trans hz (by decide)
  have hin : ∀ v d, Dp K H v d → fNm v = .bl (nmD d) := fun v d h => by cases h <;> rfl
  have q : Rv (.bl (ds.all nmD && decide (strsOf ds).Nodup)) H Q := q
  cases h1 : ds.all nmD with
  | false =>
    rw [h1] at q
    refine s_ret (ev_andV (b := true) (ev_all (bs := ds.map nmD) (el_lcT fNm (ev_var rfl) hx hzx (fun _ => rfl) fun i x H1 e1 hi => ?_) (map_test _ _ hin hs)) fun z => absurd z (by rw [all_map_id, h1]; decide)) fun H2 e2 => ?_
    · obtain ⟨d, hm, hd⟩ := dpa_get hs hi
      rw [hin x d hd]
      exact ev_call (ea_cons (ev_var rfl) ea_nil) (spv_nm (dp_mono e1 hd) (hsh d hm))
    · rw [all_map_id, h1]
      exact q H2 e2
  | true =>
    rw [h1] at q
    obtain ⟨ex, el⟩ := all_strs nmD (fun d hd => by cases d <;> first | exact ⟨_, rfl⟩ | cases hd) hs h1
    have hx' := hx
    rw [ex] at hx'
    refine s_ret (ev_andV (ev_all (bs := ds.map nmD) (el_lcT fNm (ev_var rfl) hx hzx (fun _ => rfl) fun i x H1 e1 hi => ?_) (map_test _ _ hin hs)) fun _ => ev_op (ev_lenSet (ev_var rfl) hx' (by rw [el]; exact hz)) (ev_lenT (ev_var rfl) hx') (rv_eq rfl)) fun H2 e2 => ?_
    · obtain ⟨d, hm, hd⟩ := dpa_get hs hi
      rw [hin x d hd]
      exact ev_call (ea_cons (ev_var rfl) ea_nil) (spv_nm (dp_mono e1 hd) (hsh d hm))
    · have e : decide (V.int ((dd (strsOf ds)).length : Int) = V.int (((strsOf ds).map V.str).length : Int)) = decide (strsOf ds).Nodup := by
        rw [dec_len, List.length_map]
        exact decide_eq_decide.mpr (dd_le (strsOf ds)).2
      rw [all_map_id, h1, e]
      exact q H2 e2

/-- [e for x in t], told by the values -/
theorem el_lcTy {K : PySem.W.Frag} {σ : L2.St} {H : Hp} {te tl : TE} {a : Addr} {xs : List V} {j : Nat} {vs : List Nat} (ys : List V) (h : Ev tl σ H (.ref a)) (hx : SqT K H a xs) (hz : xs.length < sizeLine) (hl : ys.length = xs.length) (hw : ∀ x, wipe ((wipe σ vs).set j (some x)) vs = wipe σ vs)
    (he : ∀ (i : Nat) (x y : V) H1, Ex H H1 → xs[i]? = some x → ys[i]? = some y → Ev te ((wipe σ vs).set j (some x)) H1 y) : EvL (tLc (iTup K tl) (gName j) tYes te vs) σ H ys := fun H0 e Q q => h H0 e _ fun H1 e1 => ⟨a, rfl, ⟨xs, ex_t (e.trans e1) hx⟩, fun D hD => by
  refine lcT_P (fun i v _ => ys[i]? = some v) hD (ex_t (e.trans e1) hx) hz hw (fun i v H1 H2 _ p => p) (fun i x H2 Q2 hi b _ q2 => ?_) (fun H2 zs e2 h1 h2 hp => ?_)
  · obtain ⟨y, hy⟩ : ∃ y, ys[i]? = some y := ⟨_, List.getElem?_eq_getElem (by rw [hl]; exact (List.getElem?_eq_some_iff.mp hi).1)⟩
    refine he i x y (fun b => if b = D then none else H2 b) (fun c o hc => ?_) hi hy H2 (fun c o hc => ?_) Q2 fun H3 e3 => q2 _ H3 e3 hy
    · have hne : c ≠ D := ne_of_none ((e.trans e1) c o hc) hD
      show (if c = D then none else H2 c) = some o
      rw [if_neg hne]
      exact b c o hne ((e.trans e1) c o hc)
    · have hc : (if c = D then none else H2 c) = some o := hc
      by_cases z : c = D
      · rw [if_pos z] at hc; cases hc
      · rw [if_neg z] at hc; exact hc
  · have ey : zs = ys := by
      refine List.ext_getElem? fun i => ?_
      cases hy : zs[i]? with
      | none =>
        have : ys[i]? = none := by
          rw [List.getElem?_eq_none_iff] at hy ⊢
          omega
        rw [this]
      | some v => rw [hp i v hy]
    rw [ey] at h1
    exact q D H2 (fresh_back e1 hD) (e1.trans e2) h1⟩
/-- web[1], web[0] -/
theorem ev_web {K : PySem.W.Frag} {σ : L2.St} {H : Hp} {te : TE} {a b c : Addr} (h : Ev te σ H (.ref a)) (hw : SqT K H a [.ref b, .ref c]) : Ev (tOp (rIxT K) te (tC (.int 1))) σ H (.ref c) := ev_op h ev_c (rv_ixT hw rfl)
theorem ev_web0 {K : PySem.W.Frag} {σ : L2.St} {H : Hp} {te : TE} {a b c : Addr} (h : Ev te σ H (.ref a)) (hw : SqT K H a [.ref b, .ref c]) : Ev (tOp (rIxT K) te (tC (.int 0))) σ H (.ref b) := ev_op h ev_c (rv_ixT hw rfl)
/-- the names of a web's roads -/
def spRoads (K : PySem.W.Frag) : Sp := fun vs H Q _ => ∃ (a : Addr) (Pl : List Str) (R : List RdS), vs = [.ref a] ∧ IsWb K H a Pl R ∧ R.length < 1000 ∧ ∀ p H2, H p = none → Ex H H2 → H2 p = some (.lst ((R.map (·.1)).map V.str)) → Q (.ref p) H2
theorem c_roads (F : HasD K mg "names_of_roads" sNamesOfRoads) : Cal P w K mg base CX0 1 "names_of_roads" ["web"] (spRoads K) := by
  refine cal_of F scNamesOfRoads (fun vs H Q E ⟨_, _, _, e, _⟩ => by rw [e]; rfl) (fun _ _ _ _ _ _ us hl => match us, hl with | [_], _ => rfl) fun f cdv A outer s H vs Q E hr h => ?_
  obtain ⟨a, Pl, R, rfl, ⟨ap, ar, rs, hw, hp, hR, hrs⟩, hz, q⟩ := h
  refine ⟨_, (pss_one (ps_ret (pe_lc (own := [("road", 1)]) (g := (gName 1)) (tt := tYes) (by rfl) scNamesOfRoads.nd (pi_tup (pe_ix (ix_tup : IxR _ (rIxT K)) (pv 0) pe_int (fun _ _ => rfl))) (blkOk_by (own := [("road", 1)]) (N := nNamesOfRoads) (sc := defScope sNamesOfRoads) (by decide +kernel)) (fun _ _ _ _ _ => (pg_name (i := 1) scNamesOfRoads.nd rfl (.inl rfl))) (fun _ _ _ _ _ => pts_nil) (fun _ _ _ _ _ => (pe_ix (ix_tup : IxR _ (rIxT K)) (pv 1) pe_int (fun _ _ => rfl)))))), ?_⟩
  have e := paired_len hrs
  refine s_retL (el_lcTy ((R.map (·.1)).map V.str) (ev_web (ev_var rfl) hw) hR (by rw [e]; exact Nat.lt_trans hz (by decide)) (by simp [e]) (fun _ => rfl) fun i x y H1 e1 hi hy => ?_) fun p H2 hp e2 h2 => q p H2 hp e2 h2
  obtain ⟨r, hr, b, rfl, hb⟩ := paired_at' hrs hi
  rw [List.getElem?_map, List.getElem?_map, hr] at hy
  cases hy
  exact ev_op (ev_var rfl) ev_c (rv_ixT (ex_t e1 hb) rfl)
end
end RW
end

section
set_option maxRecDepth 100000
set_option maxHeartbeats 4000000
/-! what evaluates to a tree of data -/
namespace RW
open PySem PySem.Spec PyProof.Rows L2 Evl

def EvD (K : PySem.W.Frag) (te : TE) (σ : L2.St) (H : Hp) (d : PyData) : Prop := ∀ H1, Ex H H1 → ∀ Q : VK, (∀ v H2, Ex H1 H2 → Dp K H2 v d → Q v H2) → te σ H1 Q
def EvDA (K : PySem.W.Frag) (ta : TA) (σ : L2.St) (H : Hp) (ds : List PyData) : Prop := ∀ H1, Ex H H1 → ∀ Q : List V → Hp → Prop, (∀ vs H2, Ex H1 H2 → DpAll K H2 vs ds → Q vs H2) → ta σ H1 Q
def cutA {α : Type} (xs : List α) (lo hi : Option Int) : List α := (xs.drop (HT.sIx xs.length 0 lo)).take (HT.sIx xs.length xs.length hi - HT.sIx xs.length 0 lo)
section
variable {K : PySem.W.Frag} {σ : L2.St} {H H' : Hp} {ta tb te : TE} {tr : TA} {v : V} {d : PyData}
theorem dpa_drop : ∀ (n : Nat) {vs : List V} {ds : List PyData}, DpAll K H vs ds → DpAll K H (vs.drop n) (ds.drop n)
  | 0, _, _, h => h
  | _ + 1, _, _, .nil => .nil
  | n + 1, _, _, .cons _ hs => dpa_drop n hs
theorem dpa_take : ∀ (n : Nat) {vs : List V} {ds : List PyData}, DpAll K H vs ds → DpAll K H (vs.take n) (ds.take n)
  | 0, _, _, _ => .nil
  | _ + 1, _, _, .nil => .nil
  | n + 1, _, _, .cons h hs => .cons h (dpa_take n hs)
theorem dpa_cut (lo hi : Option Int) {vs : List V} {ds : List PyData} (h : DpAll K H vs ds) : DpAll K H (cutV vs lo hi) (cutA ds lo hi) := by
  unfold cutV cutA
  rw [dpa_len h]
  exact dpa_take _ (dpa_drop _ h)
theorem dp_tupI {v : V} {ds : List PyData} (h : Dp K H v (.tuple ds)) : ∃ a xs, v = .ref a ∧ SqT K H a xs ∧ DpAll K H xs ds := by
  cases h with
  | tup h hs => exact ⟨_, _, rfl, h, hs⟩
theorem dp_lstI {v : V} {ds : List PyData} (h : Dp K H v (.list ds)) : ∃ a xs, v = .ref a ∧ SqL K H a xs ∧ DpAll K H xs ds := by
  cases h with
  | lst h hs => exact ⟨_, _, rfl, h, hs⟩
theorem EvD.mono (e : Ex H H') (h : EvD K te σ H d) : EvD K te σ H' d := fun H1 a Q q => h H1 (e.trans a) Q q
theorem EvDA.mono {ds : List PyData} (e : Ex H H') (h : EvDA K tr σ H ds) : EvDA K tr σ H' ds := fun H1 a Q q => h H1 (e.trans a) Q q
theorem ed_of (h : Ev te σ H v) (hd : Dp K H v d) : EvD K te σ H d := fun H1 e Q q => h H1 e _ fun H2 e2 => q v H2 e2 (dp_mono (e.trans e2) hd)
theorem ed_var {i : Nat} (h : σ[i]? = some (some v)) (hd : Dp K H v d) : EvD K (tVar i) σ H d := ed_of (ev_var h) hd
theorem ed_int {i : Int} : EvD K (tC (.int i)) σ H (.int i) := ed_of ev_c (.int i)
theorem ed_str {s : Str} : EvD K (tC (.str s)) σ H (.str s) := ed_of ev_c (.str s)
theorem ed_bl {b : Bool} : EvD K (tC (.bl b)) σ H (.bool b) := ed_of ev_c (.bl b)
theorem ed_non : EvD K (tC .non) σ H .none := ed_of ev_c .non
theorem ed_nil : EvDA K tNil σ H [] := fun H1 _ Q q => q [] H1 (Ex.refl H1) .nil
theorem ed_cons {ds : List PyData} (h : EvD K te σ H d) (hr : EvDA K tr σ H ds) : EvDA K (tCons te tr) σ H (d :: ds) := fun H1 e Q q =>
  h H1 e _ fun v H2 e2 hv => hr H2 (e.trans e2) _ fun vs H3 e3 hvs => q (v :: vs) H3 (e2.trans e3) (.cons (dp_mono e3 hv) hvs)
theorem ed_tup {ds : List PyData} (h : EvDA K tr σ H ds) (hl : ds.length ≤ 100000) : EvD K (tTup tr) σ H (.tuple ds) := fun H1 e Q q =>
  h H1 e _ fun vs H2 e2 hvs => ⟨sz_of (by rw [dpa_len hvs]; exact hl), fun p hp => q (.ref p) _ (e2.trans (Ex.new hp)) (.tup (st_of upd_same) (dpa_mono (Ex.new hp) hvs))⟩
theorem ed_lst {ds : List PyData} (h : EvDA K tr σ H ds) (hl : ds.length ≤ 100000) : EvD K (tLst tr) σ H (.list ds) := fun H1 e Q q =>
  h H1 e _ fun vs H2 e2 hvs => ⟨sz_of (by rw [dpa_len hvs]; exact hl), fun p hp => q (.ref p) _ (e2.trans (Ex.new hp)) (.lst (sq_of upd_same) (dpa_mono (Ex.new hp) hvs))⟩
theorem ed_cat {xs ys : List PyData} (ha : EvD K ta σ H (.tuple xs)) (hb : EvD K tb σ H (.tuple ys)) (hl : xs.length + ys.length ≤ 100000) : EvD K (tOp (rCatA K) ta tb) σ H (.tuple (xs ++ ys)) := fun H1 e Q q =>
  ha H1 e _ fun v H2 e2 hv => hb H2 (e.trans e2) _ fun u H3 e3 hu => by
    obtain ⟨a, vs, rfl, h1, h2⟩ := dp_tupI (dp_mono e3 hv)
    obtain ⟨b, us, rfl, h3, h4⟩ := dp_tupI hu
    refine ⟨a, b, vs, us, rfl, rfl, h1, h3, sz_of (by rw [dpa_len h2, dpa_len h4]; exact hl), fun z => ?_, fun _ z => ?_, fun _ _ p hp => ?_⟩
    · subst z
      cases h2
      exact q (.ref b) H3 (e2.trans e3) (.tup h3 h4)
    · subst z
      cases h4
      exact q (.ref a) H3 (e2.trans e3) (by rw [List.append_nil]; exact .tup h1 h2)
    · exact q (.ref p) _ ((e2.trans e3).trans (Ex.new hp)) (.tup (st_of upd_same) (dpa_mono (Ex.new hp) (dpa_app h2 h4)))
theorem cutV_whole {xs : List V} {lo hi : Option Int} (h : HT.sIx xs.length 0 lo = 0 ∧ HT.sIx xs.length xs.length hi = xs.length) : cutV xs lo hi = xs := by
  unfold cutV
  rw [h.1, h.2]
  simp
theorem ed_sl {xs : List PyData} {tl th : TO} {lo hi : Option Int} (ha : EvD K te σ H (.tuple xs)) (h1 : EvO tl σ H lo) (h2 : EvO th σ H hi) : EvD K (tSl (rSlA K) te tl th) σ H (.tuple (cutA xs lo hi)) := fun H1 e Q q =>
  ha H1 e _ fun v H2 e2 hv => h1 H2 (e.trans e2) _ fun H3 e3 => h2 H3 ((e.trans e2).trans e3) _ fun H4 e4 => by
    obtain ⟨a, vs, rfl, x1, x2⟩ := dp_tupI (dp_mono (e3.trans e4) hv)
    refine ⟨a, vs, rfl, x1, fun z => ?_, fun _ p hp => ?_⟩
    · have x3 := dpa_cut lo hi x2
      rw [cutV_whole z] at x3
      exact q (.ref a) H4 ((e2.trans e3).trans e4) (.tup x1 x3)
    · exact q (.ref p) _ (((e2.trans e3).trans e4).trans (Ex.new hp)) (.tup (st_of upd_same) (dpa_mono (Ex.new hp) (dpa_cut lo hi x2)))
theorem dpa_at' : ∀ {vs : List V} {ds : List PyData} {i : Nat} {d : PyData}, DpAll K H vs ds → ds[i]? = some d → ∃ v, vs[i]? = some v ∧ Dp K H v d
  | _, _, _, _, .nil, e => by simp at e
  | _, _, 0, _, .cons h _, e => ⟨_, rfl, by simp at e; subst e; exact h⟩
  | _, _, i + 1, v, .cons _ hs, e => by
    obtain ⟨d, h1, h2⟩ := dpa_at' (i := i) (d := v) hs (by simpa using e)
    exact ⟨d, by simpa using h1, h2⟩
theorem ed_ix {xs : List PyData} {i : Nat} (ha : EvD K ta σ H (.tuple xs)) (hi : Ev tb σ H (.int (i : Int))) (hx : xs[i]? = some d) : EvD K (tOp (rIxT K) ta tb) σ H d := fun H1 e Q q =>
  ha H1 e _ fun v H2 e2 hv => hi H2 (e.trans e2) _ fun H3 e3 => by
    obtain ⟨a, vs, rfl, x1, x2⟩ := dp_tupI (dp_mono e3 hv)
    obtain ⟨u, y1, y2⟩ := dpa_at' x2 hx
    exact ⟨a, vs, (i : Int), u, rfl, rfl, x1, atI_nat y1, q u H3 (e2.trans e3) y2⟩
theorem ed_listof {xs : List PyData} (ha : EvD K te σ H (.tuple xs)) : EvD K (tCB (rListS K) (tCons te tNil)) σ H (.list xs) := fun H1 e Q q =>
  ha H1 e _ fun v H2 e2 hv => by
    obtain ⟨a, vs, rfl, x1, x2⟩ := dp_tupI hv
    exact ⟨a, vs, rfl, .inr x1, fun l hl => q (.ref l) _ (e2.trans (Ex.new hl)) (.lst (sq_of upd_same) (dpa_mono (Ex.new hl) x2))⟩
def rTupO (K : PySem.W.Frag) : List V → Hp → VK → Prop := fun xs H Q => ∃ p ys, xs = [.ref p] ∧ ((SqL K H p ys ∧ ∀ l, H l = none → Q (.ref l) (upd H l (.tup ys))) ∨ (SqT K H p ys ∧ Q (.ref p) H))
theorem eu_tupof {xs : List V} (h : EvL te σ H xs) : EvU (tCB (rTupO K) (tCons te tNil)) σ H xs := fun H1 e Q q =>
  h H1 e _ fun p H2 hp e2 h2 => ⟨p, xs, rfl, .inl ⟨sq_of h2, fun l hl => q l _ (fresh_back e2 hl) (e2.trans (Ex.new hl)) upd_same⟩⟩
theorem ed_tupof {xs : List V} {ds : List PyData} (h : EvL te σ H xs) (hd : DpAll K H xs ds) : EvD K (tCB (rTupO K) (tCons te tNil)) σ H (.tuple ds) := fun H1 e Q q =>
  eu_tupof h H1 e _ fun p H2 _ e2 h2 => q (.ref p) H2 e2 (.tup (st_of h2) (dpa_mono (e.trans e2) hd))
/-- a call by data -/
theorem ec_call {sp : Sp} {E : XK} {z : V} {ds : List PyData} (h : EvDA K tr σ H ds) (hs : ∀ vs H1, Ex H H1 → DpAll K H1 vs ds → SpV sp vs H1 z) : Ev (tCall sp [] E tr) σ H z := fun H1 e Q q =>
  h H1 e _ fun vs H2 e2 hvs => by
    show sp (vs ++ []) H2 Q E
    rw [List.append_nil]
    exact hs vs H2 (e.trans e2) hvs H2 (Ex.refl H2) Q (fun H3 e3 => q H3 (e2.trans e3)) E
theorem dpa1 {vs : List V} {d : PyData} (h : DpAll K H vs [d]) : ∃ v, vs = [v] ∧ Dp K H v d := by
  cases h with
  | cons h hs => cases hs; exact ⟨_, rfl, h⟩
theorem dpa2 {vs : List V} {d e : PyData} (h : DpAll K H vs [d, e]) : ∃ v u, vs = [v, u] ∧ Dp K H v d ∧ Dp K H u e := by
  cases h with
  | cons h hs =>
    obtain ⟨u, rfl, hu⟩ := dpa1 hs
    exact ⟨_, _, rfl, h, hu⟩
theorem dpa3 {vs : List V} {d e f : PyData} (h : DpAll K H vs [d, e, f]) : ∃ v u w, vs = [v, u, w] ∧ Dp K H v d ∧ Dp K H u e ∧ Dp K H w f := by
  cases h with
  | cons h hs =>
    obtain ⟨u, w, rfl, hu⟩ := dpa2 hs
    exact ⟨_, _, _, rfl, h, hu⟩
theorem dp_strsI {v : V} {ns : List Str} (h : Dp K H v (.tuple (ns.map PyData.str))) : ∃ a, v = .ref a ∧ SqT K H a (ns.map V.str) := by
  obtain ⟨a, xs, rfl, h1, h2⟩ := dp_tupI h
  have : xs = ns.map V.str := by
    clear h1 h
    induction ns generalizing xs with
    | nil => cases h2; rfl
    | cons n t ih =>
      cases h2 with
      | cons h hs =>
        cases h
        rw [ih _ hs]
        rfl
  rw [this] at h1
  exact ⟨a, rfl, h1⟩
/-- the promises by data -/
theorem sd_row {vs : List V} {d : PyData} {lo hi : Int} (h : DpAll K H vs [d, .int lo, .int hi]) : SpV (spRow K) vs H (.bl (rowD d lo hi)) := fun H1 e Q q E => by
  obtain ⟨v, u, w, rfl, h1, h2, h3⟩ := dpa3 h
  cases h2
  cases h3
  exact ⟨v, d, lo, hi, rfl, dp_mono e h1, q⟩
theorem sd_nm {vs : List V} {d : PyData} (h : DpAll K H vs [d]) (hs : Short d) : SpV (spNm K) vs H (.bl (nmD d)) := by
  obtain ⟨v, rfl, h1⟩ := dpa1 h
  exact spv_nm h1 hs
theorem sd_int {vs : List V} {d : PyData} (h : DpAll K H vs [d]) : SpV (spInt K) vs H (.bl (isIntD d)) := fun H1 e Q q E => by
  obtain ⟨v, rfl, h1⟩ := dpa1 h
  exact ⟨v, d, rfl, dp_mono e h1, q⟩
theorem sd_names {vs : List V} {ds : List PyData} (h : DpAll K H vs [.tuple ds]) (hl : ds.length < 4000) (hs : ∀ d ∈ ds, Short d) : SpV (spNames K) vs H (.bl (namesD ds)) := fun H1 e Q q E => by
  obtain ⟨v, rfl, h1⟩ := dpa1 h
  obtain ⟨a, xs, rfl, h2, h3⟩ := dp_tupI h1
  exact ⟨a, xs, ds, rfl, ex_t e h2, dpa_mono e h3, hl, hs, q⟩
theorem sd_of {vs : List V} {ds : List PyData} {ns : List Str} (h : DpAll K H vs [.tuple ds, .tuple (ns.map PyData.str)]) (hl : ds.length < 4000) : SpV (spAreOf K) vs H (.bl (areOfD ds ns)) := fun H1 e Q q E => by
  obtain ⟨v, u, rfl, h1, h2⟩ := dpa2 h
  obtain ⟨a, xs, rfl, h3, h4⟩ := dp_tupI h1
  obtain ⟨b, rfl, h5⟩ := dp_strsI h2
  exact ⟨a, b, xs, ds, ns, rfl, ex_t e h3, dpa_mono e h4, hl, .inr (ex_t e h5), q⟩
end
end RW
end

section
set_option maxRecDepth 100000
set_option maxHeartbeats 4000000
/-! the walk of what judges objects: is_road, is_web_form, need_web, is_rota, need_rota, need_index -/
namespace RW
open PySem PySem.Spec PyProof.Rows L2 Evl

/-! ### the mirrors -/
def roadD (ns : List Str) : PyData → Bool
  | .tuple [n, x, y] => nmD n && areOfD [x, y] ns
  | _ => false
def headD : PyData → PyData
  | .tuple (n :: _) => n
  | _ => .none
def webD : PyData → Bool
  | .tuple [.tuple ps, .tuple rs] => (decide ((1 : Int) ≤ ps.length ∧ (ps.length : Int) ≤ 10) && namesD ps) && (decide ((0 : Int) ≤ rs.length ∧ (rs.length : Int) ≤ 14) && rs.all (roadD (strsOf ps))) && namesD (rs.map headD)
  | _ => false
def rotaD (ns : List Str) : PyData → Bool
  | .tuple ds => decide (ds.length = ns.length) && areOfD ds ns
  | _ => false
def idxD (n : Nat) : PyData → Bool
  | .int i => decide (0 ≤ i ∧ i ≤ (n : Int) - 2)
  | _ => false
/-- short in texts and in tuples, so deep -/
def Sm : Nat → PyData → Prop
  | 0, d => Short d
  | n + 1, d => Short d ∧ ∀ ds, d = .tuple ds → ds.length < 4000 ∧ ∀ e ∈ ds, Sm n e
theorem Sm.short : ∀ {n : Nat} {d : PyData}, Sm n d → Short d
  | 0, _, h => h
  | _ + 1, _, h => h.1
/-- names told by texts -/
theorem strs_of (p : PyData → Bool) (hp : ∀ d, p d = true → ∃ s, d = .str s) : ∀ {ds : List PyData}, ds.all p = true → ds = (strsOf ds).map PyData.str
  | [], _ => rfl
  | d :: t, h => by
    rw [List.all_cons, Bool.and_eq_true] at h
    obtain ⟨s, rfl⟩ := hp _ h.1
    show PyData.str s :: t = PyData.str s :: (strsOf t).map PyData.str
    rw [← strs_of p hp h.2]
theorem nm_str (d : PyData) (h : nmD d = true) : ∃ s, d = .str s := by
  cases d <;> first | exact ⟨_, rfl⟩ | cases h
theorem in_str (ns : List Str) (d : PyData) (h : strIn ns d = true) : ∃ s, d = .str s := by
  cases d <;> first | exact ⟨_, rfl⟩ | cases h
theorem road_tup {ns : List Str} {d : PyData} (h : roadD ns d = true) : ∃ n x y, d = .tuple [n, x, y] := by
  unfold roadD at h
  split at h
  · exact ⟨_, _, _, rfl⟩
  · cases h
theorem heads {K : PySem.W.Frag} {H : Hp} {ns : List Str} : ∀ {xs : List V} {rs : List PyData}, DpAll K H xs rs → rs.all (roadD ns) = true → ∃ ys, ys.length = xs.length ∧ DpAll K H ys (rs.map headD) ∧ ∀ (i : Nat) (x y : V), xs[i]? = some x → ys[i]? = some y → ∃ b t, x = .ref b ∧ SqT K H b (y :: t)
  | _, _, .nil, _ => ⟨[], rfl, .nil, fun i x y h => by simp at h⟩
  | _, _, .cons h hs, ha => by
    rw [List.all_cons, Bool.and_eq_true] at ha
    obtain ⟨n, x, y, rfl⟩ := road_tup ha.1
    obtain ⟨b, vs, rfl, h1, h2⟩ := dp_tupI h
    obtain ⟨v, u, w, rfl, h3, _, _⟩ := dpa3 h2
    obtain ⟨ys, e1, e2, e3⟩ := heads hs ha.2
    refine ⟨v :: ys, by simp [e1], .cons h3 e2, fun i x y hx hy => ?_⟩
    cases i with
    | zero =>
      simp at hx hy
      subst hx hy
      exact ⟨b, _, rfl, h1⟩
    | succ i => exact e3 i x y (by simpa using hx) (by simpa using hy)
theorem tup2 {d : PyData} (h : ¬ ∃ x y, d = .tuple [x, y]) : rowD d 2 2 = false ∧ webD d = false := by
  refine ⟨?_, ?_⟩
  · cases d with
    | tuple ds =>
      refine decide_eq_false fun z => ?_
      match ds, z with
      | [x, y], _ => exact h ⟨x, y, rfl⟩
      | [], z => simp at z
      | [_], z => simp at z
      | _ :: _ :: _ :: _, z => simp at z; omega
    | _ => rfl
  · unfold webD
    split
    · exact absurd ⟨_, _, rfl⟩ h
    · rfl
theorem row_not {d : PyData} {lo hi : Int} (h : ¬ ∃ s, d = .tuple s) : rowD d lo hi = false := by
  cases d with
  | tuple s => exact absurd ⟨s, rfl⟩ h
  | _ => rfl
theorem webD_not0 {d e : PyData} (h : ¬ ∃ s, d = .tuple s) : webD (.tuple [d, e]) = false := by
  cases d with
  | tuple s => exact absurd ⟨s, rfl⟩ h
  | _ => rfl
theorem webD_not1 {d e : PyData} (h : ¬ ∃ s, e = .tuple s) : webD (.tuple [d, e]) = false := by
  cases d with
  | tuple s =>
    cases e with
    | tuple s => exact absurd ⟨s, rfl⟩ h
    | _ => rfl
  | _ => rfl

section
variable {P : Program} {w : World} {K : PySem.W.Frag} {mg : Str → Option Value} {base : Heap}
theorem ev_row {σ : L2.St} {H : Hp} {te : TE} {d : PyData} {lo hi : Int} {E : XK} (h : EvD K te σ H d) : Ev (tCall (spRow K) [] E (tCons te (tCons (tC (.int lo)) (tCons (tC (.int hi)) tNil)))) σ H (.bl (rowD d lo hi)) :=
  ec_call (ed_cons h (ed_cons ed_int (ed_cons ed_int ed_nil))) fun _ _ _ h => sd_row h
def spRoad (K : PySem.W.Frag) : Sp := fun vs H Q _ => ∃ (v u : V) (d : PyData) (ns : List Str), vs = [v, u] ∧ Dp K H v d ∧ Sm 1 d ∧ Dp K H u (.tuple (ns.map PyData.str)) ∧ Rv (.bl (roadD ns d)) H Q
theorem c_road (Z : Frees mg) (hIsRowOf : Cal P w K mg base CX0 1 "is_row_of" ["thing", "least", "most"] (spRow K)) (hIsName : Cal P w K mg base CX0 1 "is_name" ["thing"] (spNm K)) (hAreOf : Cal P w K mg base CX0 1 "are_of" ["thing", "names"] (spAreOf K))
    (F : HasD K mg "is_road" sIsRoad) : Cal P w K mg base CX0 2 "is_road" ["thing", "places"] (spRoad K) := by
  obtain ⟨_, _, GIsRowOf, gIsRowOf, kIsRowOf, bIsRowOf⟩ := hIsRowOf
  obtain ⟨_, _, GIsName, gIsName, kIsName, bIsName⟩ := hIsName
  obtain ⟨_, _, GAreOf, gAreOf, kAreOf, bAreOf⟩ := hAreOf
  refine cal_of F scIsRoad (fun vs H Q E ⟨_, _, _, _, e, _⟩ => by rw [e]; rfl) (fun _ _ _ _ _ _ us hl => match us, hl with | [_, _], _ => rfl) fun f cdv A outer s H vs Q E hr h => ?_
  obtain ⟨v, u, d, ns, rfl, hd, hsm, hu', q⟩ := h
  refine ⟨_, (pss_one (ps_ret (pe_and (pe_call GIsRowOf (hr.mono (by decide)) (by rfl) gIsRowOf kIsRowOf bIsRowOf .nil pass0 (pa_cons (pv 0) (pa_cons pe_int (pa_cons pe_int pa_nil)))) (pe_and (pe_call GIsName (hr.mono (by decide)) (by rfl) gIsName kIsName bIsName .nil pass0 (pa_cons (pe_ix (ix_tup : IxR _ (rIxT K)) (pv 0) pe_int (fun _ _ => rfl)) pa_nil)) (pe_one (pe_call GAreOf (hr.mono (by decide)) (by rfl) gAreOf kAreOf bAreOf .nil pass0 (pa_cons (pe_slice (sl_tupA : SlR _ (rSlA K)) (pv 0) (po_some pe_int) po_none) (pa_cons (pv 1) pa_nil)))))))), ?_⟩
  by_cases ht : ∃ n x y, d = .tuple [n, x, y]
  · obtain ⟨n, x, y, rfl⟩ := ht
    obtain ⟨_, hs⟩ := hsm
    obtain ⟨_, hs⟩ := hs _ rfl
    refine s_ret (ev_andV (ev_row (ed_var rfl hd)) fun _ => ev_andV (ec_call (ed_cons (ed_ix (i := 0) (ed_var rfl hd) ev_c rfl) ed_nil) fun _ _ _ h => sd_nm h (hs n (by simp))) fun _ =>
      ec_call (ed_cons (ed_sl (ed_var rfl hd) (eo_some ev_c) eo_none) (ed_cons (ed_var rfl hu') ed_nil)) fun _ _ _ h => sd_of (ns := ns) h (by simp [cutA, HT.sIx])) fun H1 e => ?_
    exact q H1 e
  · have e1 : rowD d 3 3 = false := by
      cases d with
      | tuple ds =>
        refine decide_eq_false fun z => ?_
        match ds, z with
        | [x, y, w], _ => exact ht ⟨x, y, w, rfl⟩
        | [], z => simp at z
        | [_], z => simp at z
        | [_, _], z => simp at z
        | _ :: _ :: _ :: _ :: _, z => simp at z; omega
      | _ => rfl
    have e2 : roadD ns d = false := by
      unfold roadD
      split
      · exact absurd ⟨_, _, _, rfl⟩ ht
      · rfl
    rw [e2] at q
    refine s_ret (ev_andV (b := true) (ev_row (ed_var rfl hd)) fun z => absurd z (by rw [e1]; decide)) fun H1 e => ?_
    rw [e1]
    exact q H1 e
theorem sd_road {H : Hp} {vs : List V} {d : PyData} {ns : List Str} (h : DpAll K H vs [d, .tuple (ns.map PyData.str)]) (hs : Sm 1 d) : SpV (spRoad K) vs H (.bl (roadD ns d)) := fun H1 e Q q E => by
  obtain ⟨v, u, rfl, h1, h2⟩ := dpa2 h
  exact ⟨v, u, d, ns, rfl, dp_mono e h1, hs, dp_mono e h2, q⟩

def spForm (K : PySem.W.Frag) : Sp := fun vs H Q _ => ∃ (v : V) (d : PyData), vs = [v] ∧ Dp K H v d ∧ Sm 3 d ∧ Rv (.bl (webD d)) H Q
theorem c_form (Z : Frees mg) (C : Consts mg) (hIsRowOf : Cal P w K mg base CX0 1 "is_row_of" ["thing", "least", "most"] (spRow K)) (hAreNames : Cal P w K mg base CX0 2 "are_names" ["thing"] (spNames K)) (hIsRoad : Cal P w K mg base CX0 2 "is_road" ["thing", "places"] (spRoad K))
    (F : HasD K mg "is_web_form" sIsWebForm) : Cal P w K mg base CX0 3 "is_web_form" ["thing"] (spForm K) := by
  obtain ⟨_, cMOST_PLACES⟩ := C.MOST_PLACES
  obtain ⟨_, cMOST_ROADS⟩ := C.MOST_ROADS
  obtain ⟨_, _, GIsRowOf, gIsRowOf, kIsRowOf, bIsRowOf⟩ := hIsRowOf
  obtain ⟨_, _, GAreNames, gAreNames, kAreNames, bAreNames⟩ := hAreNames
  obtain ⟨_, _, GIsRoad, gIsRoad, kIsRoad, bIsRoad⟩ := hIsRoad
  refine cal_of F scIsWebForm (fun vs H Q E ⟨_, _, e, _⟩ => by rw [e]; rfl) (fun _ _ _ _ _ _ us hl => match us, hl with | [_], _ => rfl) fun f cdv A outer s H vs Q E hr h => ?_
  obtain ⟨v, d, rfl, hd, hsm, q⟩ := h
  refine ⟨_, (pss_cons (ps_if (PW.pt (pw_or (pt_not (pt_val (pe_call GIsRowOf (hr.mono (by decide)) (by rfl) gIsRowOf kIsRowOf bIsRowOf .nil pass0 (pa_cons (pv 0) (pa_cons pe_int (pa_cons pe_int pa_nil)))))) (pw_or (pt_not (pt_val (pe_call GIsRowOf (hr.mono (by decide)) (by rfl) gIsRowOf kIsRowOf bIsRowOf .nil pass0 (pa_cons (pe_ix (ix_tup : IxR _ (rIxT K)) (pv 0) pe_int (fun _ _ => rfl)) (pa_cons pe_int (pa_cons (pe_glob (v := .int 10) rfl cMOST_PLACES ⟨_, rfl⟩) pa_nil)))))) (pw_or1 (pt_not (pt_val (pe_call GAreNames (hr.mono (by decide)) (by rfl) gAreNames kAreNames bAreNames .nil pass0 (pa_cons (pe_ix (ix_tup : IxR _ (rIxT K)) (pv 0) pe_int (fun _ _ => rfl)) pa_nil))))))))
      (pss_one (ps_ret pe_bl)) pss_nil)
    (pss_cons (ps_if (PW.pt (pw_or (pt_not (pt_val (pe_call GIsRowOf (hr.mono (by decide)) (by rfl) gIsRowOf kIsRowOf bIsRowOf .nil pass0 (pa_cons (pe_ix (ix_tup : IxR _ (rIxT K)) (pv 0) pe_int (fun _ _ => rfl)) (pa_cons pe_int (pa_cons (pe_glob (v := .int 14) rfl cMOST_ROADS ⟨_, rfl⟩) pa_nil)))))) (pw_or1 (pt_not (pt_val (pe_callB (cr_all rfl : CallR _ (.builtin "all") (rAll K)) (by rfl) Z.all_ (by decide +kernel) (pa_cons (pe_lc (own := [("road", 1)]) (g := (gName 1)) (tt := tYes) (by rfl) scIsWebForm.nd (pi_tup (pe_ix (ix_tup : IxR _ (rIxT K)) (pv 0) pe_int (fun _ _ => rfl))) (blkOk_by (own := [("road", 1)]) (N := nIsWebForm) (sc := defScope sIsWebForm) (by decide +kernel)) (fun _ _ _ _ _ => (pg_name (i := 1) scIsWebForm.nd rfl (.inl rfl))) (fun _ _ _ _ _ => pts_nil) (fun _ _ _ _ _ => (pe_call GIsRoad (hr.mono (by decide)) (by rfl) gIsRoad kIsRoad bIsRoad .nil pass0 (pa_cons (pv 1) (pa_cons (pe_ix (ix_tup : IxR _ (rIxT K)) (pv 0) pe_int (fun _ _ => rfl)) pa_nil))))) pa_nil)))))))
      (pss_one (ps_ret pe_bl)) pss_nil)
    (pss_one (ps_ret (pe_call GAreNames (hr.mono (by decide)) (by rfl) gAreNames kAreNames bAreNames .nil pass0 (pa_cons (pe_callTy call_tuple_of (by rfl) Z.tuple_ (by decide +kernel) (pa_cons (pe_lc (own := [("road", 1)]) (g := (gName 1)) (tt := tYes) (by rfl) scIsWebForm.nd (pi_tup (pe_ix (ix_tup : IxR _ (rIxT K)) (pv 0) pe_int (fun _ _ => rfl))) (blkOk_by (own := [("road", 1)]) (N := nIsWebForm) (sc := defScope sIsWebForm) (by decide +kernel)) (fun _ _ _ _ _ => (pg_name (i := 1) scIsWebForm.nd rfl (.inl rfl))) (fun _ _ _ _ _ => pts_nil) (fun _ _ _ _ _ => (pe_ix (ix_tup : IxR _ (rIxT K)) (pv 1) pe_int (fun _ _ => rfl)))) pa_nil)) pa_nil)))))), ?_⟩
  have no : webD d = false → Rv (.bl false) H Q := fun z => by rw [z] at q; exact q
  by_cases ht : ∃ x y, d = .tuple [x, y]
  · obtain ⟨d0, d1, rfl⟩ := ht
    obtain ⟨_, hs⟩ := hsm
    obtain ⟨_, hs⟩ := hs _ rfl
    have hs0 : Sm 2 d0 := hs d0 (by simp)
    have hs1 : Sm 2 d1 := hs d1 (by simp)
    by_cases ht0 : ∃ ps, d0 = .tuple ps
    · obtain ⟨ps, rfl⟩ := ht0
      obtain ⟨_, hs0⟩ := hs0
      obtain ⟨hl0, hs0⟩ := hs0 _ rfl
      refine q_when (et_or (et_not (et_B (ev_row (ed_var rfl hd)))) fun _ => et_or (et_not (et_B (ev_row (ed_ix (i := 0) (ed_var rfl hd) ev_c rfl)))) fun _ => et_not (et_B (ec_call (ed_cons (ed_ix (i := 0) (ed_var rfl hd) ev_c rfl) ed_nil) fun _ _ _ h => sd_names h hl0 fun e he => (hs0 e he).short)))
        (fun hb H1 e1 => ?_) (fun hb H1 e1 => ?_)
      · refine s_ret ev_c fun H2 e2 => no ?_ H2 (e1.trans e2)
        have hb : (!decide ((1 : Int) ≤ ps.length ∧ (ps.length : Int) ≤ 10) || !namesD ps) = true := hb
        have hk : (decide ((1 : Int) ≤ ps.length ∧ (ps.length : Int) ≤ 10) && namesD ps) = false := by
          rw [← Bool.not_and, Bool.not_eq_true'] at hb
          exact hb
        cases d1 with
        | tuple rs =>
          show ((decide ((1 : Int) ≤ ps.length ∧ (ps.length : Int) ≤ 10) && namesD ps) && _ && _) = false
          rw [hk]
          rfl
        | _ => rfl
      · have hb : (!decide ((1 : Int) ≤ ps.length ∧ (ps.length : Int) ≤ 10) || !namesD ps) = false := hb
        have hk : (decide ((1 : Int) ≤ ps.length ∧ (ps.length : Int) ≤ 10) && namesD ps) = true := by
          rw [← Bool.not_and, Bool.not_eq_false'] at hb
          exact hb
        have hn : namesD ps = true := (Bool.and_eq_true _ _ ▸ hk : _ ∧ _).2
        have hna : ps.all nmD = true := by
          unfold namesD at hn
          rw [Bool.and_eq_true] at hn
          exact hn.1
        have hps := strs_of nmD nm_str hna
        by_cases ht1 : ∃ rs, d1 = .tuple rs
        · obtain ⟨rs, rfl⟩ := ht1
          obtain ⟨_, hs1⟩ := hs1
          obtain ⟨hl1, hs1⟩ := hs1 _ rfl
          obtain ⟨a, vs, ea, ha, hvs⟩ := dp_tupI hd
          obtain ⟨v0, v1, rfl, hv0, hv1⟩ := dpa2 hvs
          obtain ⟨b, xs, rfl, hb1, hxs⟩ := dp_tupI hv1
          subst ea
          have hxl : xs.length < sizeLine := by
            rw [dpa_len hxs]
            exact Nat.lt_trans hl1 (by decide)
          have ewd : webD (.tuple [.tuple ps, .tuple rs]) = ((decide ((0 : Int) ≤ rs.length ∧ (rs.length : Int) ≤ 14) && rs.all (roadD (strsOf ps))) && namesD (rs.map headD)) := by
            show ((decide ((1 : Int) ≤ ps.length ∧ (ps.length : Int) ≤ 10) && namesD ps) && (decide ((0 : Int) ≤ rs.length ∧ (rs.length : Int) ≤ 14) && rs.all (roadD (strsOf ps))) && namesD (rs.map headD)) = _
            rw [hk, Bool.true_and]
          refine q_when (et_or (et_not (et_B (ev_row (ed_ix (i := 1) (ed_var rfl (dp_mono e1 hd)) ev_c rfl)))) fun _ => et_not (et_B (ev_all (bs := rs.map (roadD (strsOf ps))) (el_lcTy ((rs.map (roadD (strsOf ps))).map V.bl) (ev_op (ev_var rfl) ev_c (rv_ixT (ex_t e1 ha) rfl)) (ex_t e1 hb1) hxl (by simp [dpa_len hxs]) (fun _ => rfl) fun i x y H2 e2 hx hy => ?_) rfl)))
            (fun hb2 H2 e2 => ?_) (fun hb2 H2 e2 => ?_)
          · obtain ⟨r, hr1, hr2⟩ := dpa_at hxs hx
            rw [List.getElem?_map, List.getElem?_map, hr1] at hy
            cases hy
            refine ec_call (ed_cons (ed_var rfl (dp_mono (e1.trans e2) hr2)) (ed_cons (ed_ix (i := 0) (ed_var rfl (dp_mono (e1.trans e2) hd)) ev_c rfl) ed_nil)) fun _ _ _ h => ?_
            rw [hps] at h
            exact sd_road h (hs1 r (List.mem_of_getElem? hr1))
          · rw [all_map_id] at hb2
            have hb2 : (!decide ((0 : Int) ≤ rs.length ∧ (rs.length : Int) ≤ 14) || !rs.all (roadD (strsOf ps))) = true := hb2
            rw [← Bool.not_and, Bool.not_eq_true'] at hb2
            rw [hb2] at ewd
            exact s_ret ev_c fun H3 e3 => no ewd H3 ((e1.trans e2).trans e3)
          · rw [all_map_id] at hb2
            have hb2 : (!decide ((0 : Int) ≤ rs.length ∧ (rs.length : Int) ≤ 14) || !rs.all (roadD (strsOf ps))) = false := hb2
            rw [← Bool.not_and, Bool.not_eq_false'] at hb2
            rw [hb2, Bool.true_and] at ewd
            rw [ewd] at q
            have hra : rs.all (roadD (strsOf ps)) = true := (Bool.and_eq_true _ _ ▸ hb2 : _ ∧ _).2
            have e12 := e1.trans e2
            obtain ⟨ys, y1, y2, y3⟩ := heads (dpa_mono e12 hxs) hra
            refine s_ret (ec_call (ed_cons (ed_tupof (el_lcTy ys (ev_op (ev_var rfl) ev_c (rv_ixT (ex_t e12 ha) rfl)) (ex_t e12 hb1) hxl y1 (fun _ => rfl) fun i x y H3 e3 hx hy => ?_) y2) ed_nil) fun _ _ _ h => sd_names h (by simpa using hl1) fun e he => ?_) fun H3 e3 => q H3 (e12.trans e3)
            · obtain ⟨b, t, rfl, hbt⟩ := y3 i x y hx hy
              exact ev_op (ev_var rfl) ev_c (rv_ixT (ex_t e3 hbt) (atI_nat (j := 0) rfl))
            · obtain ⟨r, hr, rfl⟩ := List.mem_map.mp he
              obtain ⟨n, x, y, rfl⟩ := road_tup (List.all_eq_true.mp hra r hr)
              exact ((hs1 _ hr).2 _ rfl).2 n (by simp)
        · refine q_when (b := true) (et_is (et_or (b := true) (et_not (et_B (ev_row (ed_ix (i := 1) (ed_var rfl (dp_mono e1 hd)) ev_c rfl)))) fun z => absurd z (by rw [row_not ht1]; decide)) (by rw [row_not ht1]; rfl)) (fun _ H2 e2 => ?_) (fun z => absurd z (by decide))
          exact s_ret ev_c fun H3 e3 => no (webD_not1 ht1) H3 ((e1.trans e2).trans e3)
    · refine q_when (b := true) (et_is (et_or (b := true) (et_not (et_B (ev_row (ed_var rfl hd)))) fun _ => et_is (et_or (b := true) (et_not (et_B (ev_row (ed_ix (i := 0) (ed_var rfl hd) ev_c rfl)))) fun z => absurd z (by rw [row_not ht0]; decide)) (by rw [row_not ht0]; rfl)) (Bool.or_true _)) (fun _ H1 e => ?_) (fun z => absurd z (by decide))
      exact s_ret ev_c fun H2 e2 => no (webD_not0 ht0) H2 (e.trans e2)
  · obtain ⟨z1, z2⟩ := tup2 ht
    refine q_when (b := true) (et_is (et_or (b := true) (et_not (et_B (ev_row (ed_var rfl hd)))) fun z => absurd z (by rw [z1]; decide)) (by rw [z1]; rfl)) (fun _ H1 e => ?_) (fun z => absurd z (by decide))
    exact s_ret ev_c fun H2 e2 => no z2 H2 (e.trans e2)
theorem sd_form {H : Hp} {vs : List V} {d : PyData} (h : DpAll K H vs [d]) (hs : Sm 3 d) : SpV (spForm K) vs H (.bl (webD d)) := fun H1 e Q q E => by
  obtain ⟨v, rfl, h1⟩ := dpa1 h
  exact ⟨v, d, rfl, dp_mono e h1, hs, q⟩
end
end RW
end

section
set_option maxRecDepth 100000
set_option maxHeartbeats 4000000
/-! the walk of what judges objects: need_web, is_rota, need_rota, need_index -/
namespace RW
open PySem PySem.Spec PyProof.Rows L2 Evl

/-- what the top has written of an error's class -/
structure Err (K : PySem.W.Frag) (mg : Str → Option Value) (x : Str) (C : Addr) : Prop where
  g : mg x = some (.ref C)
  x : PySem.W.excIn K C [.type "ValueError", .type "Exception", .type "BaseException", .type "object"] "ValueError.__new__" = true
  k : PySem.W.keepIn K (.ref C) = true
  b : PySem.W.subIn K (.ref C) (.type "BaseException") = some true
  t : PySem.W.typeIn K (.ref C) = some (.type "type")
section
variable {P : Program} {w : World} {K : PySem.W.Frag} {mg : Str → Option Value} {base : Heap}
/-- judged: none, or the error -/
def spJ (C : Addr) (good : Bool) (H : Hp) (Q : VK) (E : XK) : Prop := (good = true → Rv .non H Q) ∧ (good = false → ∀ H2, Ex H H2 → E (.ref C) none H2)
def spNeedWeb (K : PySem.W.Frag) (C : Addr) : Sp := fun vs H Q E => ∃ (v : V) (d : PyData), vs = [v] ∧ Dp K H v d ∧ Sm 3 d ∧ spJ C (webD d) H Q E
theorem c_needweb {C : Addr} (T : Err K mg "BadWeb" C) (hIsWebForm : Cal P w K mg base CX0 3 "is_web_form" ["thing"] (spForm K)) (F : HasD K mg "need_web" sNeedWeb) : Cal P w K mg base (L2.CX P w) 4 "need_web" ["web"] (spNeedWeb K C) := by
  obtain ⟨_, _, GIsWebForm, gIsWebForm, kIsWebForm, bIsWebForm⟩ := hIsWebForm
  refine cal_ofX F scNeedWeb (fun vs H Q E ⟨_, _, e, _⟩ => by rw [e]; rfl) (fun _ _ _ _ _ _ us hl => match us, hl with | [_], _ => rfl) fun f cdv A outer s H vs Q E hr h => ?_
  obtain ⟨v, d, rfl, hd, hsm, q1, q2⟩ := h
  refine ⟨_, (pss_one (ps_if (pt_not (pt_val (pe_call GIsWebForm (hr.mono (by decide)) (by rfl) gIsWebForm kIsWebForm bIsWebForm .nil pass0 (pa_cons (pv 0) pa_nil))))
      (pss_one (ps_raise rfl (takes_of rfl rfl rfl rfl) (pmk_own PySem.F.excBase_ValueError T.x T.g T.k (raises_own T.b T.t) rfl))) pss_nil)), ?_⟩
  refine s_when (et_not (et_B (ec_call (ed_cons (ed_var rfl hd) ed_nil) fun _ _ _ h => sd_form h hsm))) (fun hb H1 e => ?_) (fun hb H1 e => ?_)
  · exact q2 (by simpa using hb) H1 e
  · exact q1 (by simpa using hb) H1 e
def spIsRota (K : PySem.W.Frag) : Sp := fun vs H Q _ => ∃ (a : Addr) (v : V) (Pl : List Str) (R : List RdS) (d : PyData), vs = [.ref a, v] ∧ IsWb K H a Pl R ∧ R.length < 1000 ∧ Dp K H v d ∧ Sm 1 d ∧ Rv (.bl (rotaD (R.map (·.1)) d)) H Q
theorem sd_ofL {H : Hp} {a b : Addr} {xs : List V} {ds : List PyData} {ns : List Str} (ha : SqT K H a xs) (hd : DpAll K H xs ds) (hl : ds.length < 4000) (hb : H b = some (.lst (ns.map V.str))) : SpV (spAreOf K) [.ref a, .ref b] H (.bl (areOfD ds ns)) := fun H1 e Q q E =>
  ⟨a, b, xs, ds, ns, rfl, ex_t e ha, dpa_mono e hd, hl, .inl (sq_of (e _ _ hb)), q⟩
theorem ev_callVL {σ : L2.St} {H : Hp} {ta tb : TE} {sp : Sp} {E : XK} {x z : V} {xs : List V} (ha : Ev ta σ H x) (hb : EvL tb σ H xs) (hs : ∀ p H1, Ex H H1 → H1 p = some (.lst xs) → SpV sp [x, .ref p] H1 z) : Ev (tCall sp [] E (tCons ta (tCons tb tNil))) σ H z := fun H1 e Q q =>
  ha H1 e _ fun H2 e2 => hb H2 (e.trans e2) _ fun p H3 _ e3 h3 => hs p H3 ((e.trans e2).trans e3) h3 H3 (Ex.refl H3) Q (fun H4 e4 => q H4 ((e2.trans e3).trans e4)) E
theorem sl_roads {H : Hp} {a : Addr} {Pl : List Str} {R : List RdS} (hw : IsWb K H a Pl R) (hz : R.length < 1000) : SpL (spRoads K) [.ref a] H ((R.map (·.1)).map V.str) := fun H1 e Q q E => ⟨a, Pl, R, rfl, hw.mono (Tp.of e), hz, q⟩
theorem c_isrota (Z : Frees mg) (hIsRowOf : Cal P w K mg base CX0 1 "is_row_of" ["thing", "least", "most"] (spRow K)) (hAreOf : Cal P w K mg base CX0 1 "are_of" ["thing", "names"] (spAreOf K)) (hNamesOfRoads : Cal P w K mg base CX0 1 "names_of_roads" ["web"] (spRoads K))
    (F : HasD K mg "is_rota" sIsRota) : Cal P w K mg base CX0 2 "is_rota" ["web", "thing"] (spIsRota K) := by
  obtain ⟨_, _, GIsRowOf, gIsRowOf, kIsRowOf, bIsRowOf⟩ := hIsRowOf
  obtain ⟨_, _, GAreOf, gAreOf, kAreOf, bAreOf⟩ := hAreOf
  obtain ⟨_, _, GNamesOfRoads, gNamesOfRoads, kNamesOfRoads, bNamesOfRoads⟩ := hNamesOfRoads
  refine cal_of F scIsRota (fun vs H Q E ⟨_, _, _, _, _, e, _⟩ => by rw [e]; rfl) (fun _ _ _ _ _ _ us hl => match us, hl with | [_, _], _ => rfl) fun f cdv A outer s H vs Q E hr h => ?_
  obtain ⟨a, v, Pl, R, d, rfl, hw, hz, hd, hsm, q⟩ := h
  refine ⟨_, (pss_one (ps_ret (pe_and (pe_call GIsRowOf (hr.mono (by decide)) (by rfl) gIsRowOf kIsRowOf bIsRowOf .nil pass0 (pa_cons (pv 1) (pa_cons (pe_callB (call_len_seq : CallR _ (.builtin "len") (Evl.rLenS K)) (by rfl) Z.len_ PySem.boot_len (pa_cons (pe_ix (ix_tup : IxR _ (rIxT K)) (pv 0) pe_int (fun _ _ => rfl)) pa_nil)) (pa_cons (pe_callB (call_len_seq : CallR _ (.builtin "len") (Evl.rLenS K)) (by rfl) Z.len_ PySem.boot_len (pa_cons (pe_ix (ix_tup : IxR _ (rIxT K)) (pv 0) pe_int (fun _ _ => rfl)) pa_nil)) pa_nil)))) (pe_one (pe_call GAreOf (hr.mono (by decide)) (by rfl) gAreOf kAreOf bAreOf .nil pass0 (pa_cons (pv 1) (pa_cons (pe_call GNamesOfRoads (hr.mono (by decide)) (by rfl) gNamesOfRoads kNamesOfRoads bNamesOfRoads .nil pass0 (pa_cons (pv 0) pa_nil)) pa_nil))))))), ?_⟩
  have hw' := hw
  obtain ⟨ap, ar, rs, hw1, hp, hR, hrs⟩ := hw
  have el := paired_len hrs
  have lenE : ∀ {σ : L2.St}, σ[0]? = some (some (.ref a)) → EvD K (tCB (Evl.rLenS K) (tCons (tOp (rIxT K) (tVar 0) (tC (.int 1))) tNil)) σ H (.int R.length) := fun h0 => by
    rw [← el]
    exact ed_of (ev_lenT (ev_web (ev_var h0) hw1) hR) (.int _)
  have row := fun {σ : L2.St} (h0 : σ[0]? = some (some (.ref a))) (h1 : σ[1]? = some (some v)) => ec_call (E := E0) (ed_cons (ed_var h1 hd) (ed_cons (lenE h0) (ed_cons (lenE h0) ed_nil))) fun _ _ _ h => sd_row h
  by_cases ht : ∃ ds, d = .tuple ds
  · obtain ⟨ds, rfl⟩ := ht
    obtain ⟨_, hs⟩ := hsm
    obtain ⟨hl, hs⟩ := hs _ rfl
    obtain ⟨b, xs, rfl, hx, hxs⟩ := dp_tupI hd
    have e1 : rowD (.tuple ds) R.length R.length = decide (ds.length = (R.map (·.1)).length) := by
      show decide (_ ∧ _) = _
      rw [List.length_map]
      exact decide_eq_decide.mpr ⟨fun z => by omega, fun z => by omega⟩
    refine s_ret (ev_andV (ev_is (row rfl rfl) (congrArg V.bl e1)) fun _ => ev_callVL (ev_var rfl) (el_call (ea_cons (ev_var rfl) ea_nil) (sl_roads hw' hz)) fun p H1 e h1 => sd_ofL (ex_t e hx) (dpa_mono e hxs) hl h1) fun H1 e => q H1 e
  · refine s_ret (ev_andV (b := true) (row rfl rfl) fun z => absurd z (by rw [row_not ht]; decide)) fun H1 e => ?_
    have e2 : rotaD (R.map (·.1)) d = false := by
      cases d with
      | tuple s => exact absurd ⟨s, rfl⟩ ht
      | _ => rfl
    rw [e2] at q
    rw [row_not ht]
    exact q H1 e
theorem sd_isrota {H : Hp} {a : Addr} {v : V} {Pl : List Str} {R : List RdS} {d : PyData} (hw : IsWb K H a Pl R) (hz : R.length < 1000) (hd : Dp K H v d) (hs : Sm 1 d) : SpV (spIsRota K) [.ref a, v] H (.bl (rotaD (R.map (·.1)) d)) := fun H1 e Q q E =>
  ⟨a, v, Pl, R, d, rfl, hw.mono (Tp.of e), hz, dp_mono e hd, hs, q⟩
def spNeedRota (K : PySem.W.Frag) (C : Addr) : Sp := fun vs H Q E => ∃ (a : Addr) (v : V) (Pl : List Str) (R : List RdS) (d : PyData), vs = [.ref a, v] ∧ IsWb K H a Pl R ∧ R.length < 1000 ∧ Dp K H v d ∧ Sm 1 d ∧ spJ C (rotaD (R.map (·.1)) d) H Q E
theorem c_needrota {C : Addr} (T : Err K mg "BadRota" C) (hIsRota : Cal P w K mg base CX0 2 "is_rota" ["web", "thing"] (spIsRota K)) (F : HasD K mg "need_rota" sNeedRota) : Cal P w K mg base (L2.CX P w) 3 "need_rota" ["web", "rota"] (spNeedRota K C) := by
  obtain ⟨_, _, GIsRota, gIsRota, kIsRota, bIsRota⟩ := hIsRota
  refine cal_ofX F scNeedRota (fun vs H Q E ⟨_, _, _, _, _, e, _⟩ => by rw [e]; rfl) (fun _ _ _ _ _ _ us hl => match us, hl with | [_, _], _ => rfl) fun f cdv A outer s H vs Q E hr h => ?_
  obtain ⟨a, v, Pl, R, d, rfl, hw, hz, hd, hsm, q1, q2⟩ := h
  refine ⟨_, (pss_one (ps_if (pt_not (pt_val (pe_call GIsRota (hr.mono (by decide)) (by rfl) gIsRota kIsRota bIsRota .nil pass0 (pa_cons (pv 0) (pa_cons (pv 1) pa_nil)))))
      (pss_one (ps_raise rfl (takes_of rfl rfl rfl rfl) (pmk_own PySem.F.excBase_ValueError T.x T.g T.k (raises_own T.b T.t) rfl))) pss_nil)), ?_⟩
  refine s_when (et_not (et_B (ev_call (ea_cons (ev_var rfl) (ea_cons (ev_var rfl) ea_nil)) (sd_isrota hw hz hd hsm)))) (fun hb H1 e => ?_) (fun hb H1 e => ?_)
  · exact q2 (by simpa using hb) H1 e
  · exact q1 (by simpa using hb) H1 e
def spNeedIndex (K : PySem.W.Frag) (C : Addr) : Sp := fun vs H Q E => ∃ (a : Addr) (v : V) (xs : List V) (d : PyData), vs = [.ref a, v] ∧ SqT K H a xs ∧ Dp K H v d ∧ spJ C (idxD xs.length d) H Q E
theorem isInt_not {d : PyData} (h : ¬ ∃ i, d = .int i) : isIntD d = false := by
  cases d with
  | int s => exact absurd ⟨s, rfl⟩ h
  | _ => exact of_decide_eq_true rfl
theorem isInt_yes (i : Int) : isIntD (.int i) = true := of_decide_eq_true rfl
theorem c_needindex {C : Addr} (Z : Frees mg) (T : Err K mg "BadIndex" C) (hIsInteger : Cal P w K mg base CX0 1 "is_integer" ["thing"] (spInt K)) (F : HasD K mg "need_index" sNeedIndex) : Cal P w K mg base (L2.CX P w) 2 "need_index" ["rota", "index"] (spNeedIndex K C) := by
  obtain ⟨_, _, GIsInteger, gIsInteger, kIsInteger, bIsInteger⟩ := hIsInteger
  refine cal_ofX F scNeedIndex (fun vs H Q E ⟨_, _, _, _, e, _⟩ => by rw [e]; rfl) (fun _ _ _ _ _ _ us hl => match us, hl with | [_, _], _ => rfl) fun f cdv A outer s H vs Q E hr h => ?_
  obtain ⟨a, v, xs, d, rfl, hx, hd, q1, q2⟩ := h
  refine ⟨_, (pss_one (ps_if (PW.pt (pw_or (pt_not (pt_val (pe_call GIsInteger (hr.mono (by decide)) (by rfl) gIsInteger kIsInteger bIsInteger .nil pass0 (pa_cons (pv 1) pa_nil)))) (pw_or1 (pt_not (pt_chain op_le op_le pe_int (pv 1) (pe_op op_sub (pe_callB (call_len_seq : CallR _ (.builtin "len") (Evl.rLenS K)) (by rfl) Z.len_ PySem.boot_len (pa_cons (pv 0) pa_nil)) pe_int))))))
      (pss_one (ps_raise rfl (takes_of rfl rfl rfl rfl) (pmk_own PySem.F.excBase_ValueError T.x T.g T.k (raises_own T.b T.t) rfl))) pss_nil)), ?_⟩
  by_cases ht : ∃ i, d = .int i
  · obtain ⟨i, rfl⟩ := ht
    cases hd
    refine s_when (et_or (et_not (et_B (ec_call (ed_cons (ed_var rfl (.int i)) ed_nil) fun _ _ _ h => sd_int h))) fun _ => et_not (et_test (ev_chain ev_c (ev_var rfl) (ev_op (ev_lenT (ev_var rfl) hx) ev_c rv_I0)))) (fun hb H1 e => ?_) (fun hb H1 e => ?_)
    · refine q2 ?_ H1 e
      rw [isInt_yes] at hb
      refine decide_eq_false fun z => ?_
      rw [decide_eq_true z] at hb
      cases hb
    · refine q1 ?_ H1 e
      rw [isInt_yes] at hb
      show decide (0 ≤ i ∧ i ≤ (xs.length : Int) - 2) = true
      simpa using hb
  · have e2 : idxD xs.length d = false := by
      cases d with
      | int s => exact absurd ⟨s, rfl⟩ ht
      | _ => rfl
    refine s_when (b := true) (et_is (et_or (b := true) (et_not (et_B (ec_call (ed_cons (ed_var rfl hd) ed_nil) fun _ _ _ h => sd_int h))) fun z => absurd z (by rw [isInt_not ht]; decide)) (by rw [isInt_not ht]; rfl)) (fun hb H1 e => q2 e2 H1 e) (fun hb => absurd hb (by decide))
end
end RW
end

section
set_option maxRecDepth 100000
set_option maxHeartbeats 4000000
/-! dicts by names, pairs as targets, loops over enumerate -/
namespace RW
open PySem PySem.Spec PyProof.Rows L2 Evl

/-! ### dicts -/
/-- the dict's pairs are F's, in their order -/
def DkOf {β : Type} (G : V → β → Prop) (kvs : List (Key × V)) (F : List (Str × β)) : Prop := Paired (fun kv e => kv.1 = (Sum.inr e.1 : Key) ∧ G kv.2 e.2) kvs F
section
variable {β : Type} {G G' : V → β → Prop} {kvs : List (Key × V)} {F : List (Str × β)} {q : Str} {b : β} {v : V}
theorem DkOf.mono (h : DkOf G kvs F) (f : ∀ v b, G v b → G' v b) : DkOf G' kvs F := paired_mono h fun _ _ ⟨e, g⟩ => ⟨e, f _ _ g⟩
theorem DkOf.len (h : DkOf G kvs F) : kvs.length = F.length := paired_len h
theorem dk_none : ∀ {kvs : List (Key × V)} {F : List (Str × β)}, DkOf G kvs F → RP.look F q = none → valV kvs (Sum.inr q : Key) = none
  | _, _, .nil, _ => rfl
  | (k, v) :: t, (k', b) :: t', .cons ⟨e, g⟩ hs, h => by
    have e : k = Sum.inr k' := e
    by_cases z : k' = q
    · rw [RP.look, if_pos z] at h; cases h
    · rw [RP.look, if_neg z] at h
      rw [valV_neg (p := (k, v)) (fun y => z (by rw [e] at y; exact Sum.inr.inj y))]
      exact dk_none hs h
theorem dk_some : ∀ {kvs : List (Key × V)} {F : List (Str × β)}, DkOf G kvs F → RP.look F q = some b → ∃ v, valV kvs (Sum.inr q : Key) = some v ∧ G v b
  | _, _, .nil, h => by cases h
  | (k, v) :: t, (k', b') :: t', .cons ⟨e, g⟩ hs, h => by
    have e : k = Sum.inr k' := e
    by_cases z : k' = q
    · rw [RP.look, if_pos z] at h
      have h : b' = b := Option.some.inj h
      subst h
      exact ⟨v, valV_pos (p := (k, v)) (by rw [e, z]), g⟩
    · rw [RP.look, if_neg z] at h
      rw [valV_neg (p := (k, v)) (fun y => z (by rw [e] at y; exact Sum.inr.inj y))]
      exact dk_some hs h
theorem dk_isSome (h : DkOf G kvs F) : (valV kvs (Sum.inr q : Key)).isSome = RP.has F q := by
  unfold RP.has
  cases e : RP.look F q with
  | none =>
    rw [dk_none h e]
    rfl
  | some b =>
    obtain ⟨v, e2, _⟩ := dk_some h e
    rw [e2]
    rfl
theorem dk_new (h : DkOf G kvs F) (hn : RP.look F q = none) (g : G v b) : DkOf G (putK kvs (Sum.inr q : Key) v) (F ++ [(q, b)]) := by
  rw [putK_new v (dk_none h hn)]
  exact paired_snoc h ⟨rfl, g⟩
end
/-- a set of names as a dict of yes -/
def yes (L : List Str) : List (Key × V) := L.map fun q => ((Sum.inr q : Key), V.bl true)
theorem yes_val (L : List Str) (q : Str) : (valV (yes L) (Sum.inr q : Key)).isSome = decide (q ∈ L) := by
  induction L with
  | nil => rfl
  | cons a t ih =>
    by_cases z : a = q
    · subst z
      show (valV (((Sum.inr a : Key), V.bl true) :: yes t) _).isSome = _
      rw [valV_pos (p := ((Sum.inr a : Key), V.bl true)) rfl]
      simp
    · show (valV (((Sum.inr a : Key), V.bl true) :: yes t) _).isSome = _
      rw [valV_neg (p := ((Sum.inr a : Key), V.bl true)) (fun y => z (Sum.inr.inj y)), ih]
      exact decide_eq_decide.mpr ⟨fun h => List.mem_cons_of_mem _ h, fun h => (List.mem_cons.mp h).resolve_left fun y => z y.symm⟩
theorem yes_put (L : List Str) (q : Str) : putK (yes L) (Sum.inr q : Key) (.bl true) = yes (RP.addK L q) := by
  unfold RP.addK
  by_cases h : q ∈ L
  · rw [if_pos h]
    unfold putK
    rw [valV_any, yes_val, decide_eq_true h, if_pos rfl]
    refine (List.map_congr_left fun kv hk => ?_).trans (List.map_id _)
    obtain ⟨p, _, rfl⟩ := List.mem_map.mp hk
    by_cases z : (Sum.inr p : Key) = Sum.inr q
    · rw [if_pos z]; rfl
    · rw [if_neg z]; rfl
  · rw [if_neg h]
    have hn : valV (yes L) (Sum.inr q : Key) = none := by
      have := yes_val L q
      rw [decide_eq_false h] at this
      cases e : valV (yes L) (Sum.inr q : Key) with
      | none => rfl
      | some v => rw [e] at this; cases this
    rw [putK_new _ hn]
    simp [yes]
/-- a pair of names | of ints -/
def IsEn (K : PySem.W.Frag) (H : Hp) (v : V) (e : Str × Str) : Prop := ∃ a, v = .ref a ∧ SqT K H a [.str e.1, .str e.2]
def IsMo (K : PySem.W.Frag) (H : Hp) (v : V) (t : Nat × Nat) : Prop := ∃ a, v = .ref a ∧ SqT K H a [.int t.1, .int t.2]
theorem IsEn.mono {K : PySem.W.Frag} {H H' : Hp} {v : V} {e : Str × Str} (h : IsEn K H v e) (t : Tp K H H') : IsEn K H' v e := let ⟨a, x, y⟩ := h; ⟨a, x, t.1 _ _ y⟩
theorem IsMo.mono {K : PySem.W.Frag} {H H' : Hp} {v : V} {e : Nat × Nat} (h : IsMo K H v e) (t : Tp K H H') : IsMo K H' v e := let ⟨a, x, y⟩ := h; ⟨a, x, t.1 _ _ y⟩

section
variable {K : PySem.W.Frag} {σ : L2.St} {H H' : Hp} {td tk tv te tl : TE} {x y v : V} {d : Addr} {kvs : List (Key × V)} {q : Str} {D : Ends} {tz tu : TS}
theorem ev_dget (h1 : Ev td σ H (.ref d)) (h2 : Ev tk σ H (.str q)) (hd : H d = some (.dK kvs)) (hv : valV kvs (Sum.inr q : Key) = some v) : Ev (tDGet td tk) σ H v := fun H1 e Q k =>
  h1 H1 e _ fun H2 e2 => h2 H2 (e.trans e2) _ fun H3 e3 => ⟨d, v, rfl, by
    have := DGet.k (k := (Sum.inr q : Key)) ((e.trans (e2.trans e3)) _ _ hd)
    rw [hv] at this
    exact this, k H3 (e2.trans e3)⟩
theorem ev_dget1 (h1 : Ev td σ H (.ref d)) (h2 : Ev tk σ H (.str q)) (hd : H d = some (.dK kvs)) : Ev (tDGet1 td tk) σ H ((valV kvs (Sum.inr q : Key)).getD .non) := fun H1 e Q k =>
  h1 H1 e _ fun H2 e2 => ⟨d, rfl, .inl ⟨kvs, .inl ((e.trans e2) _ _ hd)⟩, h2 H2 (e.trans e2) _ fun H3 e3 => ⟨_, DGet.k (k := (Sum.inr q : Key)) ((e.trans (e2.trans e3)) _ _ hd), k H3 (e2.trans e3)⟩⟩
theorem ev_din (h1 : Ev td σ H (.ref d)) (h2 : Ev tk σ H (.str q)) (hd : H d = some (.dK kvs)) : Ev (tDIn tk td) σ H (.bl (valV kvs (Sum.inr q : Key)).isSome) := fun H1 e Q k =>
  h2 H1 e _ fun H2 e2 => h1 H2 (e.trans e2) _ fun H3 e3 => ⟨d, _, rfl, DGet.k (k := (Sum.inr q : Key)) ((e.trans (e2.trans e3)) _ _ hd), k H3 (e2.trans e3)⟩
theorem ev_dni (h1 : Ev td σ H (.ref d)) (h2 : Ev tk σ H (.str q)) (hd : H d = some (.dK kvs)) : Ev (tDNotIn tk td) σ H (.bl (!(valV kvs (Sum.inr q : Key)).isSome)) := fun H1 e Q k =>
  h2 H1 e _ fun H2 e2 => h1 H2 (e.trans e2) _ fun H3 e3 => ⟨d, _, rfl, DGet.k (k := (Sum.inr q : Key)) ((e.trans (e2.trans e3)) _ _ hd), k H3 (e2.trans e3)⟩
/-- d[q] = v -/
theorem s_dput (h0 : Ev tv σ H v) (h1 : Ev td σ H (.ref d)) (h2 : Ev tk σ H (.str q)) (hd : H d = some (.dK kvs)) (hl : kvs.length < 100000) (k : ∀ H1, Ex H H1 → D.nx σ (upd H1 d (.dK (putK kvs (Sum.inr q : Key) v)))) : sDPut td tk tv D σ H :=
  h0 H (Ex.refl H) _ fun H1 e1 => h1 H1 e1 _ fun H2 e2 => h2 H2 (e1.trans e2) _ fun H3 e3 => ⟨d, _, rfl, DPut.k (k := (Sum.inr q : Key)) (((e1.trans e2).trans e3) _ _ hd) (sz_lt hl), k H3 ((e1.trans e2).trans e3)⟩
/-- d[q] = a new tuple -/
theorem s_dputU {us : List V} (h0 : EvU tv σ H us) (h1 : Ev td σ H (.ref d)) (h2 : Ev tk σ H (.str q)) (hd : H d = some (.dK kvs)) (hl : kvs.length < 100000) (k : ∀ p H1, Ex H H1 → H1 p = some (.tup us) → D.nx σ (upd H1 d (.dK (putK kvs (Sum.inr q : Key) (.ref p))))) : sDPut td tk tv D σ H :=
  h0 H (Ex.refl H) _ fun p H1 hp e1 hu => h1 H1 e1 _ fun H2 e2 => h2 H2 (e1.trans e2) _ fun H3 e3 => ⟨d, _, rfl, DPut.k (k := (Sum.inr q : Key)) (((e1.trans e2).trans e3) _ _ hd) (sz_lt hl), k p H3 ((e1.trans e2).trans e3) ((e2.trans e3) _ _ hu)⟩
/-- a new dict -/
def EvK (te : TE) (σ : L2.St) (H : Hp) (kvs : List (Key × V)) : Prop := ∀ H1, Ex H H1 → ∀ Q : VK, (∀ p H2, H1 p = none → Ex H1 H2 → H2 p = some (.dK kvs) → Q (.ref p) H2) → te σ H1 Q
theorem ek_one (h1 : Ev tk σ H (.str q)) (h2 : Ev tv σ H v) : EvK (tDisp [(tk, tv)]) σ H [((Sum.inr q : Key), v)] := fun H1 e Q k p hp =>
  h1 _ (e.trans (Ex.new hp)) _ fun H2 e2 => h2 H2 (e.trans ((Ex.new hp).trans e2)) _ fun H3 e3 => ⟨(e2.trans e3) _ _ upd_same, [((Sum.inr q : Key), v)], rfl, by simp, k p _ hp (Ex.mut (((Ex.new hp).trans e2).trans e3) hp) upd_same⟩
theorem ek_oneU {us : List V} (h1 : Ev tk σ H (.str q)) (h2 : EvU tv σ H us) : ∀ H1, Ex H H1 → ∀ Q : VK, (∀ p t H2, H1 p = none → Ex H1 H2 → H2 t = some (.tup us) → H2 p = some (.dK [((Sum.inr q : Key), .ref t)]) → Q (.ref p) H2) → tDisp [(tk, tv)] σ H1 Q := fun H1 e Q k p hp =>
  h1 _ (e.trans (Ex.new hp)) _ fun H2 e2 => h2 H2 (e.trans ((Ex.new hp).trans e2)) _ fun t H3 ht e3 h3 => ⟨(e2.trans e3) _ _ upd_same, [((Sum.inr q : Key), .ref t)], rfl, by simp, k p t _ hp (Ex.mut (((Ex.new hp).trans e2).trans e3) hp)
    (by
      rw [upd_ne (show t ≠ p from fun z => ?_)]
      · exact h3
      · subst z
        have := e2 _ _ (upd_same (H := H1) (a := t) (o := HO.dK []))
        rw [ht] at this
        cases this) upd_same⟩
theorem s_asgK {i : Nat} (h : EvK te σ H kvs) (k : ∀ p H1, H p = none → Ex H H1 → H1 p = some (.dK kvs) → D.nx (σ.set i (some (.ref p))) H1) : tAsg te (gName i) D σ H := h H (Ex.refl H) _ fun p H1 hp e h1 => k p H1 hp e h1
theorem q_of {t u : TS} (h : t { D with nx := u D } σ H) : tSeq t u D σ H := h
/-- pairs as targets -/
theorem g_two {i j : Nat} {a : Addr} {Q : L2.St → Hp → Prop} (h : SqT K H a [x, y]) (k : Q ((σ.set i (some x)).set j (some y)) H) : gTup K 2 (gCons (gName i) (gCons (gName j) gNil)) (.ref a) σ H Q :=
  ⟨a, [x, y], rfl, h, rfl, x, [y], rfl, y, [], rfl, rfl, k⟩
theorem g_three {i j l : Nat} {a : Addr} {z : V} {Q : L2.St → Hp → Prop} (h : SqT K H a [x, y, z]) (k : Q (((σ.set i (some x)).set j (some y)).set l (some z)) H) : gTup K 3 (gCons (gName i) (gCons (gName j) (gCons (gName l) gNil))) (.ref a) σ H Q :=
  ⟨a, [x, y, z], rfl, h, rfl, x, [y, z], rfl, y, [z], rfl, z, [], rfl, rfl, k⟩
/-- a, b = e -/
theorem s_asg2 {i j : Nat} {a : Addr} (h : Ev te σ H (.ref a)) (ha : SqT K H a [x, y]) (k : ∀ H1, Ex H H1 → D.nx ((σ.set i (some x)).set j (some y)) H1) : tAsg te (gTup K 2 (gCons (gName i) (gCons (gName j) gNil))) D σ H :=
  h H (Ex.refl H) _ fun H1 e => g_two (ex_t e ha) (k H1 e)
/-- for i, x in enumerate(t) -/
theorem s_forE {a : Addr} {xs : List V} {j1 j2 : Nat} (h : Ev tl σ H (.ref a)) (hx : SqT K H a xs) (Pv : Nat → L2.St → Hp → Prop) (h0 : ∀ H1, Ex H H1 → Pv 0 σ H1) (hl : ∀ i σ' H', i ≤ xs.length → Pv i σ' H' → SqT K H' a xs)
    (hs : ∀ i x σ' H' H2, xs[i]? = some x → Pv i σ' H' → Ex H' H2 → tu { D with nx := Pv (i + 1), ct := Pv (i + 1), bk := D.nx } ((σ'.set j1 (some (.int (i : Nat)))).set j2 (some x)) H2) (hd : ∀ σ' H', Pv xs.length σ' H' → D.nx σ' H') :
    tFor (iEnumT K (tCons tl tNil)) (gTup K 2 (gCons (gName j1) (gCons (gName j2) gNil))) tu D σ H :=
  h H (Ex.refl H) _ fun H1 e => ⟨a, xs, rfl, ex_t e hx, for_it walk_enumT Pv (h0 H1 e) hl (fun i v σ' H' H2 hi p y => by
    obtain ⟨T, x, w, rfl, hT, rfl, h1, h2⟩ := y
    cases h1
    exact g_two (st_of upd_same) (hs i w σ' H' _ h2 p (Ex.new hT))) hd⟩
/-- {name: (one, other) for name, one, other in t} and its like: the key and the value told by the item -/
theorem el_dcT {g : TG} {a : Addr} {xs : List V} {vs : List Nat} {Q : VK} {β : Type} (F : List (Str × β)) (G : Hp → V → β → Prop) (hm : ∀ H1 H2 v b, Tp K H1 H2 → G H1 v b → G H2 v b) (hN : (RP.keys F).Nodup) (h : Ev tl σ H (.ref a)) (hx : SqT K H a xs) (hl : xs.length = F.length) (hz : xs.length < 100000)
    (he : ∀ (i : Nat) (x : V) (q : Str) (b : β) H1 (QQ : V → V → Hp → Prop), xs[i]? = some x → F[i]? = some (q, b) → Ex H H1 → (∀ v H2, Ex H1 H2 → G H2 v b → QQ (.str q) v H2) → g x (wipe σ vs) H1 fun σ2 H2 => wipe σ2 vs = wipe σ vs ∧ tk σ2 H2 fun y H4 => tv σ2 H4 fun z H5 => QQ y z H5)
    (k : ∀ p H2 kvs, H p = none → Ex H H2 → H2 p = some (.dK kvs) → DkOf (G H2) kvs F → Q (.ref p) H2) : tDc (iTup K tl) g tYes tk tv vs σ H Q :=
  h H (Ex.refl H) _ fun H1 e1 => ⟨a, rfl, ⟨xs, ex_t e1 hx⟩, fun Dd hD => by
    refine dc_tup (K := K) (a := a) (xs := xs) (Qd := fun H => Q (.ref Dd) H) (fun i H' => Ex H1 H' ∧ ∃ kvs, H' Dd = some (.dK kvs) ∧ DkOf (G H') kvs (F.take i)) ⟨Ex.new hD, [], upd_same, .nil⟩ (fun i H' _ p => ex_t (e1.trans p.1) hx) (fun i x H' hi p => ?_) (fun H' p => ?_)
    · obtain ⟨e2, kvs, h1, h2⟩ := p
      have hiF : i < F.length := by
        rw [← hl]
        exact (List.getElem?_eq_some_iff.mp hi).1
      have hF : F[i]? = some (F[i].1, F[i].2) := by rw [List.getElem?_eq_getElem hiF]
      refine he i x _ _ H' (fun y z H5 => ∃ kvs k, y = kV k ∧ H5 Dd = some (.dK kvs) ∧ kvs.length < sizeLine ∧ (Ex H1 (upd H5 Dd (.dK (putK kvs k z))) ∧ ∃ kvs', upd H5 Dd (.dK (putK kvs k z)) Dd = some (.dK kvs') ∧ DkOf (G (upd H5 Dd (.dK (putK kvs k z)))) kvs' (F.take (i + 1)))) hi hF (e1.trans e2) fun v H2 e3 hv => ?_
      have hlen : kvs.length ≤ i := by
        rw [h2.len, List.length_take]
        exact Nat.min_le_left _ _
      have hd2 : H2 Dd = some (.dK kvs) := e3 _ _ h1
      have tp : Tp K H2 (upd H2 Dd (.dK (putK kvs (Sum.inr F[i].1 : Key) v))) := Tp.dk hd2
      refine ⟨kvs, Sum.inr F[i].1, rfl, hd2, sz_lt (by omega), Ex.mut (e2.trans e3) hD, _, upd_same, ?_⟩
      have hn : RP.look (F.take i) F[i].1 = none := by
        refine RP.look_none_iff.mpr fun hm => ?_
        obtain ⟨j, hj, ej⟩ := List.getElem_of_mem hm
        have hj' : j < i := by
          have : j < (F.take i).length := by simpa [RP.keys] using hj
          rw [List.length_take] at this
          omega
        have hjF : j < F.length := by omega
        have e5 : (RP.keys F)[j]'(by simpa [RP.keys] using hjF) = (RP.keys F)[i]'(by simpa [RP.keys] using hiF) := by
          simp only [RP.keys, List.getElem_map, List.getElem_take] at ej ⊢
          exact ej
        have := (List.getElem_inj hN).mp e5
        omega
      rw [List.take_add_one, hF]
      exact dk_new (h2.mono fun v b hb => hm _ _ _ _ ((Tp.of e3).trans tp) hb) hn (hm _ _ _ _ tp hv)
    · obtain ⟨e2, kvs, h1, h2⟩ := p
      rw [hl, List.take_length] at h2
      exact k Dd H' kvs (fresh_back e1 hD) (e1.trans e2) h1 h2⟩
end
end RW
end

section
set_option maxRecDepth 100000
set_option maxHeartbeats 4000000
/-! the walk of the ways of news: round_of, ends_by_road, news_places -/
namespace RW
open PySem PySem.Spec PyProof.Rows L2 Evl

section
variable {K : PySem.W.Frag} {σ : L2.St} {H : Hp} {tl tl1 te : TE}
/-- [e for row in (b,) for x in row] -/
theorem el_lc2 {a b : Addr} {xs : List V} {j0 j1 : Nat} {vs vs1 : List Nat} (ys : List V) (h : Ev tl σ H (.ref a)) (ha : SqT K H a [.ref b]) (hb : SqT K H b xs) (hl : ys.length = xs.length) (hz : xs.length < sizeLine)
    (hw : ∀ x, wipe ((wipe σ vs).set j0 (some x)) vs = wipe σ vs) (hw1 : ∀ x, wipe ((wipe ((wipe σ vs).set j0 (some (.ref b))) vs1).set j1 (some x)) vs1 = wipe ((wipe σ vs).set j0 (some (.ref b))) vs1)
    (hi1 : ∀ H1, Ex H H1 → Ev tl1 ((wipe σ vs).set j0 (some (.ref b))) H1 (.ref b))
    (he : ∀ (i : Nat) (x y : V) H1, Ex H H1 → xs[i]? = some x → ys[i]? = some y → Ev te ((wipe ((wipe σ vs).set j0 (some (.ref b))) vs1).set j1 (some x)) H1 y) :
    EvL (tLc2 (iTup K tl) (gName j0) tYes (iTup K tl1) (gName j1) tYes te vs vs1) σ H ys := fun H0 e Q q => h H0 e _ fun H1 e1 => ⟨a, rfl, ⟨_, ex_t (e.trans e1) ha⟩, fun Dd hD => by
  have ht := ex_t (e.trans e1) ha
  have hbt := ex_t (e.trans e1) hb
  refine ⟨fun i m H' => Ex H1 H' ∧ ((i = 0 ∧ m = 1 ∧ H' Dd = some (.lst [])) ∨ (i = 1 ∧ m = 0 ∧ H' Dd = some (.lst ys))), ⟨1, Ex.mut (Ex.refl H1) hD, .inl ⟨rfl, rfl, upd_same⟩⟩, ?_⟩
  rintro i m H' ⟨e2, ⟨rfl, rfl, h0⟩ | ⟨rfl, rfl, h0⟩⟩
  · refine .inr ⟨⟨_, _, ex_t e2 ht, rfl⟩, fun H'' => Ex H1 H'' ∧ H'' Dd = some (.lst ys), fun H'' ⟨e3, h3⟩ => ⟨0, Nat.zero_lt_one, e3, .inr ⟨rfl, rfl, h3⟩⟩, fun x H'' ⟨eh, hx⟩ => ?_⟩
    subst eh
    have hx0 := hx _ (ex_t e2 ht)
    simp only [List.getElem?_cons_zero, Option.some.injEq] at hx0
    subst hx0
    refine ⟨hw _, ?_⟩
    refine hi1 _ ((e.trans e1).trans e2) _ (Ex.refl _) _ fun H3 e3 => ⟨b, rfl, ⟨_, ex_t (e2.trans e3) hbt⟩, ?_⟩
    refine ⟨fun j k H4 => k = xs.length - j ∧ j ≤ xs.length ∧ Ex H1 H4 ∧ H4 Dd = some (.lst (ys.take j)), ⟨_, rfl, Nat.zero_le _, e2.trans e3, by rw [List.take_zero]; exact e3 _ _ h0⟩, ?_⟩
    rintro j k H4 ⟨rfl, hj, e4, h4⟩
    by_cases hlt : j < xs.length
    · refine .inr ⟨⟨xs, xs[j], ex_t e4 hbt, by simp [hlt]⟩, fun H5 => Ex H1 H5 ∧ H5 Dd = some (.lst (ys.take (j + 1))), fun H5 ⟨e5, h5⟩ => ⟨_, by omega, rfl, hlt, e5, h5⟩, fun x H5 ⟨eh, hx⟩ => ?_⟩
      subst eh
      have hx1 := hx xs (ex_t e4 hbt)
      obtain ⟨y, hy⟩ : ∃ y, ys[j]? = some y := ⟨_, List.getElem?_eq_getElem (by rw [hl]; exact hlt)⟩
      refine ⟨hw1 x, ?_⟩
      refine he j x y _ ((e.trans e1).trans e4) hx1 hy _ (Ex.refl _) _ fun H6 e6 => ⟨_, e6 _ _ h4, ?_, Ex.mut (e4.trans e6) hD, ?_⟩
      · rw [List.length_take]
        omega
      · rw [upd_same, List.take_add_one, hy]
        rfl
    · refine .inl ⟨⟨xs, ex_t e4 hbt, by omega⟩, e4, ?_⟩
      rw [List.take_of_length_le (by omega)] at h4
      exact h4
  · exact .inl ⟨⟨_, ex_t e2 ht, by simp⟩, q Dd H' (fresh_back e1 hD) (e1.trans e2) h0⟩⟩
variable {D : Ends} {tz : TS} {sp : Sp} {E : XK} {ta : TA} {vs : List V} {i : Nat}
theorem s_call (h : EvA ta σ H vs) (k : ∀ H1, Ex H H1 → sp vs H1 (fun v H2 => D.nx (σ.set i (some v)) H2) E) : tAsg (tCall sp [] E ta) (gName i) D σ H := h H (Ex.refl H) _ fun H1 e => by
  show sp (vs ++ []) H1 _ E
  rw [List.append_nil]
  exact k H1 e
theorem q_call (h : EvA ta σ H vs) (k : ∀ H1, Ex H H1 → sp vs H1 (fun v H2 => tz D (σ.set i (some v)) H2) E) : tSeq (tAsg (tCall sp [] E ta) (gName i)) tz D σ H := s_call (D := { D with nx := tz D }) h k
end

section
variable {P : Program} {w : World} {K : PySem.W.Frag} {mg : Str → Option Value} {base : Heap}
def spRound (K : PySem.W.Frag) : Sp := fun vs H Q _ => ∃ (a b : Addr) (d : Int), vs = [.ref a, .int d] ∧ SqT K H a [.ref b] ∧ Rv (.ref b) H Q
theorem c_round (Z : Frees mg) (F : HasD K mg "round_of" sRoundOf) : Cal P w K mg base CX0 1 "round_of" ["week", "day"] (spRound K) := by
  refine cal_of F scRoundOf (fun vs H Q E ⟨_, _, _, e, _⟩ => by rw [e]; rfl) (fun _ _ _ _ _ _ us hl => match us, hl with | [_, _], _ => rfl) fun f cdv A outer s H vs Q E hr h => ?_
  obtain ⟨a, b, d, rfl, hw, q⟩ := h
  refine ⟨_, (pss_one (ps_ret (pe_ix (ix_tup : IxR _ (rIxT K)) (pv 0) (pe_op op_mod (pe_op op_sub (pv 1) pe_int) (pe_callB (call_len_seq : CallR _ (.builtin "len") (Evl.rLenS K)) (by rfl) Z.len_ PySem.boot_len (pa_cons (pv 0) pa_nil))) (fun _ _ => rfl)))), ?_⟩
  refine s_ret (ev_op (ev_var rfl) (ev_op (ev_op (ev_var rfl) ev_c rv_I0) (ev_lenT (ev_var rfl) hw) (rv_I (show (0 : Int) < ((1 : Nat) : Int) by decide))) (rv_ixT (i := (d - 1) % ((1 : Nat) : Int)) hw ?_)) q
  rw [show (d - 1) % ((1 : Nat) : Int) = 0 from Int.emod_one _]
  rfl
theorem sv_round {H : Hp} {a b : Addr} {d : Int} (hw : SqT K H a [.ref b]) : SpV (spRound K) [.ref a, .int d] H (.ref b) := fun H1 e Q q E => ⟨a, b, d, rfl, ex_t e hw, q⟩

/-- a good web and a whole rota -/
structure Gd (K : PySem.W.Frag) (H : Hp) (a : Addr) (Pl : List Str) (R : List RdS) : Prop where
  wb : IsWb K H a Pl R
  nd : (RP.keys R).Nodup
  inP : RP.InP R Pl
  lenR : R.length ≤ 14
  lenP : Pl.length ≤ 10
theorem Gd.mono {H H' : Hp} {a : Addr} {Pl : List Str} {R : List RdS} (h : Gd K H a Pl R) (t : Tp K H H') : Gd K H' a Pl R := ⟨h.wb.mono t, h.nd, h.inP, h.lenR, h.lenP⟩
def spEnds (K : PySem.W.Frag) : Sp := fun vs H Q _ => ∃ (a : Addr) (Pl : List Str) (R : List RdS), vs = [.ref a] ∧ Gd K H a Pl R ∧
  ∀ p H2 kvs, H p = none → Ex H H2 → H2 p = some (.dK kvs) → DkOf (IsEn K H2) kvs R → Q (.ref p) H2
theorem c_ends (F : HasD K mg "ends_by_road" sEndsByRoad) : Cal P w K mg base CX0 1 "ends_by_road" ["web"] (spEnds K) := by
  refine cal_of F scEndsByRoad (fun vs H Q E ⟨_, _, _, e, _⟩ => by rw [e]; rfl) (fun _ _ _ _ _ _ us hl => match us, hl with | [_], _ => rfl) fun f cdv A outer s H vs Q E hr h => ?_
  obtain ⟨a, Pl, R, rfl, hg, q⟩ := h
  refine ⟨_, (pss_one (ps_ret (pe_dc (own := [("name", 1), ("one", 2), ("other", 3)]) (g := (gTup K 3 (gCons (gName 1) (gCons (gName 2) (gCons (gName 3) gNil))))) (tt := tYes) (by rfl) scEndsByRoad.nd (pi_tup (pe_ix (ix_tup : IxR _ (rIxT K)) (pv 0) pe_int (fun _ _ => rfl))) (blkOk_by (own := [("name", 1), ("one", 2), ("other", 3)]) (N := nEndsByRoad) (sc := defScope sEndsByRoad) (by decide +kernel)) (fun _ _ _ _ _ => (pg_tup (n := 3) (by rfl) (pgs_cons (pg_name (i := 1) scEndsByRoad.nd rfl (.inl rfl)) (pgs_cons (pg_name (i := 2) scEndsByRoad.nd rfl (.inl rfl)) (pgs_cons (pg_name (i := 3) scEndsByRoad.nd rfl (.inl rfl)) pgs_nil))))) (fun _ _ _ _ _ => pts_nil) (fun _ _ _ _ _ => (pv 1)) (fun _ _ _ _ _ => (pe_tup (pa_cons (pv 2) (pa_cons (pv 3) pa_nil))))))), ?_⟩
  obtain ⟨ap, ar, rs, hw, hp, hR, hrs⟩ := hg.wb
  have hl := paired_len hrs
  refine el_dcT (Q := Q) R (fun H => IsEn K H) (fun _ _ _ _ t h => h.mono t) hg.nd (ev_web (ev_var rfl) hw) hR hl (by have := hg.lenR; omega) (fun i x nm b H1 QQ hx hF e1 k => ?_) q
  obtain ⟨r, hr, t, rfl, ht⟩ := paired_at' hrs hx
  rw [hF] at hr
  cases hr
  refine g_three (ex_t e1 ht) ⟨rfl, ?_⟩
  refine (ev_var rfl : Ev (tVar _) _ H1 _) H1 (Ex.refl H1) _ fun H2 e2 => (eu_tup (ea_cons (ev_var rfl) (ea_cons (ev_var rfl) ea_nil)) (by simp)) H2 (Ex.refl H2) _ fun p H3 _ e3 h3 => k _ _ (e2.trans e3) ⟨p, rfl, st_of h3⟩
theorem sv_ends {H : Hp} {a : Addr} {Pl : List Str} {R : List RdS} {Q : VK} {E : XK} (hg : Gd K H a Pl R) (k : ∀ p H2 kvs, H p = none → Ex H H2 → H2 p = some (.dK kvs) → DkOf (IsEn K H2) kvs R → Q (.ref p) H2) : spEnds K [.ref a] H Q E := ⟨a, Pl, R, rfl, hg, k⟩
/-- the ends of the walked roads -/
theorem ends_of {R : List RdS} {ρ : List Str} (hw : RP.Whole R ρ) : ∃ Es : List (Str × Str), Es.length = ρ.length ∧ (∀ (k : Nat) (r : Str) (e : Str × Str), ρ[k]? = some r → Es[k]? = some e → RP.look R r = some e) ∧ RP.EndsOf R Es := by
  have hl : ∀ r ∈ ρ, ∃ e, RP.look R r = some e := fun r hr => by
    have := RP.has_iff.mpr (hw.sub r hr)
    unfold RP.has at this
    exact Option.isSome_iff_exists.mp this
  refine ⟨ρ.map fun r => (RP.look R r).getD ("", ""), by simp, fun k r e h1 h2 => ?_, fun e he => ?_, fun r x y hm => ?_⟩
  · rw [List.getElem?_map, h1] at h2
    obtain ⟨e', h3⟩ := hl r (List.mem_of_getElem? h1)
    simp only [Option.map_some, Option.some.injEq] at h2
    rw [h3] at h2
    rw [h3, ← h2]
    rfl
  · obtain ⟨r, hr, rfl⟩ := List.mem_map.mp he
    obtain ⟨e', h3⟩ := hl r hr
    rw [h3]
    exact ⟨r, RP.look_mem h3⟩
  · have h3 : RP.look R r = some (x, y) := RP.look_of_mem hw.nd hm
    refine List.mem_map.mpr ⟨r, hw.all r (List.mem_map.mpr ⟨_, hm, rfl⟩), ?_⟩
    rw [h3]
    rfl

theorem npart_sub (Es : List (Str × Str)) (L : List Str) (x : Str) (h : x ∈ L) : ∀ k, x ∈ RP.npart Es L k
  | 0 => h
  | k + 1 => by
    have ih := npart_sub Es L x h k
    rw [RP.npart]
    split
    · exact ih
    · exact RP.nstep_sub _ _ _ x ih
def spNews (K : PySem.W.Frag) : Sp := fun vs H Q _ => ∃ (a wk b : Addr) (Pl ρ : List Str) (R : List RdS) (p0 : Str), vs = [.ref a, .ref wk, .str p0] ∧ Gd K H a Pl R ∧ SqT K H wk [.ref b] ∧ SqT K H b (ρ.map V.str) ∧ RP.Whole R ρ ∧ ρ.length < 1000 ∧ p0 ∈ Pl ∧
  ∀ p H2 L, H p = none → Ex H H2 → H2 p = some (.dK (yes L)) → RP.NS R p0 L → RP.Shut R (fun q => q ∈ L) → Q (.ref p) H2
theorem c_news (Z : Frees mg) (hEndsByRoad : Cal P w K mg base CX0 1 "ends_by_road" ["web"] (spEnds K)) (F : HasD K mg "news_places" sNewsPlaces) : Cal P w K mg base CX0 2 "news_places" ["web", "week", "place"] (spNews K) := by
  obtain ⟨_, _, GEndsByRoad, gEndsByRoad, kEndsByRoad, bEndsByRoad⟩ := hEndsByRoad
  refine cal_of F scNewsPlaces (fun vs H Q E ⟨_, _, _, _, _, _, _, e, _⟩ => by rw [e]; rfl) (fun _ _ _ _ _ _ us hl => match us, hl with | [_, _, _], _ => rfl) fun f cdv A outer s H vs Q E hr h => ?_
  obtain ⟨a, wk, b, Pl, ρ, R, p0, rfl, hg, hwk, hb, hW, hz, hp0, q⟩ := h
  have hu := hu_of hr
  refine ⟨_, (pss_cons (ps_set (i := 3) scNewsPlaces.nd rfl (.inr rfl) (pe_call GEndsByRoad (hr.mono (by decide)) (by rfl) gEndsByRoad kEndsByRoad bEndsByRoad .nil pass0 (pa_cons (pv 0) pa_nil)))
    (pss_cons (ps_setLc2 (own := [("row", 5), ("road", 6)]) (vs1 := [6]) (g := (gName 5)) (g1 := (gName 6)) (tt := tYes) (tt1 := tYes) (i := 4) (by rfl) scNewsPlaces.nd rfl rfl (sw_true rfl rfl rfl (by decide +kernel)) (pi_tup (pv 1)) (blkOk_by (own := [("row", 5), ("road", 6)]) (N := nNewsPlaces) (sc := defScope sNewsPlaces) (by decide +kernel)) (by decide) (fun _ _ _ _ _ => (pg_name (i := 5) scNewsPlaces.nd rfl (.inl rfl))) (fun _ _ _ _ _ => pts_nil) (fun _ _ _ _ _ => ((pi_tup (pv 5)) : PI _ _ _ (iTup K _))) (fun _ _ _ _ _ => (pg_name (i := 6) scNewsPlaces.nd rfl (.inl rfl))) (fun _ _ _ _ _ => pts_nil) (fun _ _ _ _ _ => (pe_dget hu (pv 3) (pv 6) (fun _ _ => rfl))))
    (pss_cons (ps_set (i := 7) scNewsPlaces.nd rfl (.inl rfl) (pe_disp (pps_cons (pv 2) pe_bl pps_nil) (by rfl) (by rfl) (fun z => by cases z) (by decide)))
    (pss_cons (ps_set (i := 8) scNewsPlaces.nd rfl (.inl rfl) pe_int)
    (pss_cons (ps_while PassesOwn.never (pt_cmpR op_gt (pe_callB call_lenD (by rfl) Z.len_ PySem.boot_len (pa_cons (pv 7) pa_nil)) (pv 8) (nomark _))
      (pss_cons (ps_set (i := 8) scNewsPlaces.nd rfl (.inl rfl) (pe_callB call_lenD (by rfl) Z.len_ PySem.boot_len (pa_cons (pv 7) pa_nil)))
      (pss_one (ps_for PassesOwn.never rfl (pi_list (pv 4)) (pg_tup (n := 2) (by rfl) (pgs_cons (pg_name (i := 9) scNewsPlaces.nd rfl (.inl rfl)) (pgs_cons (pg_name (i := 10) scNewsPlaces.nd rfl (.inl rfl)) pgs_nil)))
        (pss_one (ps_if (PW.pt (pw_or (pt_cmp (pc_din hu (pv 9) (pv 7))) (pw_or1 (pt_cmp (pc_din hu (pv 10) (pv 7))))))
          (pss_cons (ps_dput hu (pv 7) (pv 9) pe_bl rfl)
          (pss_one (ps_dput hu (pv 7) (pv 10) pe_bl rfl))) pss_nil))))))
    (pss_one (ps_ret (pv 7)))))))), ?_⟩
  obtain ⟨Es, hEl, hEs, hE⟩ := ends_of hW
  -- ends
  refine q_call (ea_cons (ev_var rfl) ea_nil) fun H1 e1 => sv_ends (hg.mono (Tp.of e1)) fun ed H2 kvs _ e2 hed hkv => ?_
  have e02 := e1.trans e2
  have hvs : Paired (IsEn K H2) (ρ.map fun r => (valV kvs (Sum.inr r : Key)).getD .non) Es := by
    have one : ∀ (l : List Str) (es : List (Str × Str)), l.length = es.length → (∀ (k : Nat) (r : Str) (e : Str × Str), l[k]? = some r → es[k]? = some e → RP.look R r = some e) → Paired (IsEn K H2) (l.map fun r => (valV kvs (Sum.inr r : Key)).getD .non) es := by
      intro l
      induction l with
      | nil =>
        intro es hl _
        cases es with
        | nil => exact .nil
        | cons _ _ => cases hl
      | cons r t ih =>
        intro es hl hk
        cases es with
        | nil => cases hl
        | cons e es =>
          obtain ⟨v, hv, hg⟩ := dk_some hkv (hk 0 r e rfl rfl)
          refine .cons ?_ (ih es (by simpa using hl) fun k r e h1 h2 => hk (k + 1) r e (by simpa using h1) (by simpa using h2))
          simp only [hv]
          exact hg
    exact one ρ Es hEl.symm hEs
  -- walked
  refine q_asgL (el_lc2 (xs := ρ.map V.str) (ρ.map fun r => (valV kvs (Sum.inr r : Key)).getD .non) (ev_var rfl) (ex_t e02 hwk) (ex_t e02 hb) (by simp) (by rw [List.length_map]; exact Nat.lt_trans hz (by decide)) (fun _ => rfl) (fun _ => rfl) (fun H1 _ => ev_var rfl) fun i x y H3 e3 hx hy => ?_) fun wl H3 _ e3 hwl => ?_
  · rw [List.getElem?_map] at hx hy
    cases hr : ρ[i]? with
    | none => rw [hr] at hx; cases hx
    | some r =>
      rw [hr] at hx hy
      cases hx
      cases hy
      have hi : i < Es.length := by
        rw [hEl]
        exact (List.getElem?_eq_some_iff.mp hr).1
      obtain ⟨v, hv, _⟩ := dk_some hkv (hEs i r _ hr (List.getElem?_eq_getElem hi))
      simp only [hv]
      exact ev_dget (ev_var rfl) (ev_var rfl) (e3 _ _ hed) hv
  -- found, before
  refine q_of (s_asgK (ek_one (ev_var rfl) ev_c) fun fd H4 hfd e4 h4 => ?_)
  refine q_asg ev_c fun H5 e5 => ?_
  have hP3 : ∀ {H' : Hp}, Ex H3 H' → Paired (IsEn K H') (ρ.map fun r => (valV kvs (Sum.inr r : Key)).getD .non) Es := fun e => paired_mono hvs fun v b hb => hb.mono (Tp.of (e3.trans e))
  have e03 := e02.trans e3
  have hst : RP.NS R p0 [p0] := RP.NS.start
  refine q_while (fun m σ' H' => ∃ (L : List Str) (bf : Nat) (o1 o2 : Option V), σ' = [some (.ref a), some (.ref wk), some (.str p0), some (.ref ed), some (.ref wl), none, none, some (.ref fd), some (.int (bf : Nat)), o1, o2] ∧ m = Pl.length - bf ∧ Ex H3 H' ∧ H' fd = some (.dK (yes L)) ∧ RP.NS R p0 L ∧ (bf = 0 ∨ ∃ L0, RP.NS R p0 L0 ∧ L0.length = bf ∧ L = RP.npart Es L0 Es.length))
    Pl.length ⟨[p0], 0, none, none, rfl, rfl, e4.trans e5, e5 _ _ h4, hst, .inl rfl⟩ ?_
  rintro m σ' H' ⟨L, bf, o1, o2, rfl, rfl, e6, h6, hL, hbf⟩
  have hLP := hL.len hg.inP hp0
  refine ⟨_, et_test (ev_op (ev_lenD (ev_var rfl) h6) (ev_var rfl) rv_I0), fun hb H7 e7 => ?_, fun hb H7 e7 => ?_⟩
  · have hlt : bf < L.length := by
      have := of_decide_eq_true hb
      simp only [yes, List.length_map] at this
      omega
    refine ⟨fun σ2 H2' => ∃ (o1 o2 : Option V), σ2 = [some (.ref a), some (.ref wk), some (.str p0), some (.ref ed), some (.ref wl), none, none, some (.ref fd), some (.int (L.length : Nat)), o1, o2] ∧ Ex H3 H2' ∧ H2' fd = some (.dK (yes (RP.npart Es L Es.length))), ?_, ?_⟩
    · rintro σ2 H2' ⟨o1, o2, rfl, e8, h8⟩
      exact ⟨_, by omega, _, L.length, o1, o2, rfl, rfl, e8, h8, hL.part hE _, .inr ⟨L, hL, rfl, rfl⟩⟩
    refine q_asg (v := .int (L.length : Nat)) (ev_is (ev_lenD (ev_var rfl) (e7 _ _ h6)) (by rw [yes, List.length_map])) fun H8 e8 => ?_
    refine s_forL (xs := ρ.map fun r => (valV kvs (Sum.inr r : Key)).getD .non) (ev_var rfl) (sq_of ((e6.trans (e7.trans e8)) _ _ hwl)) (fun i σ2 H2' => ∃ (o1 o2 : Option V), σ2 = [some (.ref a), some (.ref wk), some (.str p0), some (.ref ed), some (.ref wl), none, none, some (.ref fd), some (.int (L.length : Nat)), o1, o2] ∧ Ex H3 H2' ∧ H2' fd = some (.dK (yes (RP.npart Es L i))))
      (fun H9 e9 => ⟨o1, o2, rfl, e6.trans ((e7.trans e8).trans e9), ((e7.trans e8).trans e9) _ _ h6⟩) (fun i σ2 H2' _ ⟨_, _, _, e9, _⟩ => sq_of (e9 _ _ hwl)) ?_ ?_
    · rintro i x σ2 H9 hx ⟨q1, q2, rfl, e9, h9⟩
      obtain ⟨⟨x1, y1⟩, hE1, t, rfl, ht⟩ := paired_at' (hP3 e9) hx
      refine g_two ht ?_
      have hnx : RP.npart Es L (i + 1) = RP.nstep (RP.npart Es L i) x1 y1 := by
        rw [RP.npart, hE1]
      have hin : ∀ {z : Str} {H1 : Hp} {te : TE}, H1 fd = some (.dK (yes (RP.npart Es L i))) → True := fun _ => trivial
      refine s_when (et_or (et_B (ev_is (ev_din (q := x1) (ev_var rfl) (ev_var rfl) h9) (by rw [yes_val]))) fun _ => et_B (ev_is (ev_din (q := y1) (ev_var rfl) (ev_var rfl) h9) (by rw [yes_val]))) (fun hb2 H10 e10 => ?_) (fun hb2 H10 e10 => ?_)
      · have hor : x1 ∈ RP.npart Es L i ∨ y1 ∈ RP.npart Es L i := by simpa using hb2
        have hll := (hL.part hE i).len hg.inP hp0
        have hP := hg.lenP
        refine q_of (s_dput ev_c (ev_var rfl) (ev_var rfl) (e10 _ _ h9) (by simp only [yes, List.length_map]; omega) fun H11 e11 => ?_)
        rw [yes_put]
        have hll2 : (RP.addK (RP.npart Es L i) x1).length < 100000 := by
          have : (RP.addK (RP.npart Es L i) x1).length ≤ (RP.npart Es L i).length + 1 := by
            unfold RP.addK
            split <;> simp
          omega
        refine s_dput ev_c (ev_var rfl) (ev_var rfl) upd_same (by simp only [yes, List.length_map]; exact hll2) fun H12 e12 => ?_
        rw [yes_put]
        refine ⟨_, _, rfl, Ex.mut ((Ex.mut ((e9.trans e10).trans e11) hfd).trans e12) hfd, ?_⟩
        rw [upd_same, hnx]
        unfold RP.nstep
        rw [if_pos hor]
      · have hor : ¬ (x1 ∈ RP.npart Es L i ∨ y1 ∈ RP.npart Es L i) := by simpa using hb2
        refine ⟨_, _, rfl, e9.trans e10, ?_⟩
        rw [e10 _ _ h9, hnx]
        unfold RP.nstep
        rw [if_neg hor]
    · rintro σ2 H9 ⟨q1, q2, rfl, e9, h9⟩
      rw [List.length_map, ← hEl] at h9
      exact ⟨q1, q2, rfl, e9, h9⟩
  · have hle : L.length ≤ bf := by
      have := of_decide_eq_false hb
      simp only [yes, List.length_map] at this
      omega
    refine s_ret (ev_var rfl) fun H8 e8 => ?_
    have e68 := e6.trans (e7.trans e8)
    refine q fd H8 L (fresh_back e03 hfd) (e03.trans e68) ((e7.trans e8) _ _ h6) hL ?_
    rcases hbf with rfl | ⟨L0, h0, rfl, rfl⟩
    · have := List.length_pos_of_mem hL.src
      omega
    · have hml := RP.npart_len Es L0 0 Es.length
      rw [Nat.zero_add] at hml
      have hml : L0.length ≤ (RP.npart Es L0 Es.length).length := hml
      have hsh := RP.nidle hE (L := L0) (by omega)
      have hsub : ∀ x ∈ L0, x ∈ RP.npart Es L0 Es.length := fun x hx => npart_sub Es L0 x hx _
      have hall := RP.sub_all h0.nd hsub hle
      intro r x y hm
      have := hsh r x y hm
      exact ⟨fun z => hsub y (this.mp (hall x z)), fun z => hsub x (this.mpr (hall y z))⟩
end
end RW
end

section
set_option maxRecDepth 100000
set_option maxHeartbeats 4000000
/-! the walk of the days: arrivals_from, days_from, day_rows -/
namespace RW
open PySem PySem.Spec PyProof.Rows L2 Evl

/-- what arrives: none, or the pair of day and walks -/
def IsAr (K : PySem.W.Frag) (H : Hp) (R : List RdS) (ρ Pl : List Str) (p0 : Str) (v : V) (q : Str) : Prop := match RP.look (RP.fin R ρ Pl p0) q with
  | none => v = .non
  | some t => IsMo K H v t
theorem IsAr.mono {K : PySem.W.Frag} {H H' : Hp} {R : List RdS} {ρ Pl : List Str} {p0 : Str} {v : V} {q : Str} (h : IsAr K H R ρ Pl p0 v q) (t : Tp K H H') : IsAr K H' R ρ Pl p0 v q := by
  unfold IsAr at h ⊢
  split
  · rename_i e
    rw [e] at h
    exact h
  · rename_i e
    rw [e] at h
    exact h.mono t
section
variable {P : Program} {w : World} {K : PySem.W.Frag} {mg : Str → Option Value} {base : Heap}
theorem sv_news {H : Hp} {a wk b : Addr} {Pl ρ : List Str} {R : List RdS} {p0 : Str} {Q : VK} {E : XK} (hg : Gd K H a Pl R) (hw : SqT K H wk [.ref b]) (hb : SqT K H b (ρ.map V.str)) (hW : RP.Whole R ρ) (hz : ρ.length < 1000) (hp : p0 ∈ Pl)
    (k : ∀ p H2 L, H p = none → Ex H H2 → H2 p = some (.dK (yes L)) → RP.NS R p0 L → RP.Shut R (fun q => q ∈ L) → Q (.ref p) H2) : spNews K [.ref a, .ref wk, .str p0] H Q E := ⟨a, wk, b, Pl, ρ, R, p0, rfl, hg, hw, hb, hW, hz, hp, k⟩
section
variable {σ : L2.St} {H : Hp} {D : Ends} {tz : TS} {sp : Sp} {E : XK} {ta : TA} {vs : List V} {i : Nat}
theorem q_lenCall (h : EvA ta σ H vs) (k : ∀ H1, Ex H H1 → sp vs H1 (fun v H2 => rLenDk [v] H2 fun u H3 => tz D (σ.set i (some u)) H3) E) : tSeq (tAsg (tCB rLenDk (tCons (tCall sp [] E ta) tNil)) (gName i)) tz D σ H := by
  refine h H (Ex.refl H) _ fun H1 e => ?_
  show sp (vs ++ []) H1 _ E
  rw [List.append_nil]
  exact k H1 e
end
theorem ev_dniT {σ : L2.St} {H : Hp} {td tk : TE} {ms : Addr} {d : Int} {r : Str} (h : EvU tk σ H [.int d, .str r]) (hd : Ev td σ H (.ref ms)) (hm : H ms = some (.dT [])) : Ev (tDNotIn tk td) σ H (.bl true) := fun H1 e Q k =>
  h H1 e _ fun p H2 _ e2 hp => hd H2 (e.trans e2) _ fun H3 e3 => ⟨ms, none, rfl, DGet.t (k := [Sum.inl d, Sum.inr r]) (((e.trans e2).trans e3) _ _ hm) (e3 _ _ hp), k H3 (e2.trans e3)⟩
theorem s_par {σ : L2.St} {H : Hp} {D : Ends} {ta : TA} {i j : Nat} {v w : V} (h : EvA ta σ H [v, w]) (k : ∀ H1, Ex H H1 → D.nx ((σ.set i (some v)).set j (some w)) H1) : tPar i j ta D σ H := h H (Ex.refl H) _ fun H1 e => ⟨v, w, rfl, k H1 e⟩
def spArr (K : PySem.W.Frag) : Sp := fun vs H Q _ => ∃ (a wk b mo ms : Addr) (Pl ρ : List Str) (R : List RdS) (p0 : Str), vs = [.ref a, .ref wk, .str p0, .ref mo, .ref ms] ∧ Gd K H a Pl R ∧ SqT K H wk [.ref b] ∧ SqT K H b (ρ.map V.str) ∧ RP.Whole R ρ ∧ ρ.length < 1000 ∧ p0 ∈ Pl ∧
  SqT K H mo [.int 1, .int 0] ∧ H ms = some (.dT []) ∧
  ∀ p H2 vs, H p = none → Ex H H2 → H2 p = some (.lst vs) → Paired (IsAr K H2 R ρ Pl p0) vs Pl → Q (.ref p) H2
theorem c_arr (Z : Frees mg) (hEndsByRoad : Cal P w K mg base CX0 1 "ends_by_road" ["web"] (spEnds K)) (hNewsPlaces : Cal P w K mg base CX0 2 "news_places" ["web", "week", "place"] (spNews K)) (hRoundOf : Cal P w K mg base CX0 1 "round_of" ["week", "day"] (spRound K))
    (F : HasD K mg "arrivals_from" sArrivalsFrom) : Cal P w K mg base CX0 3 "arrivals_from" ["web", "week", "place", "moment", "missed"] (spArr K) := by
  obtain ⟨_, _, GEndsByRoad, gEndsByRoad, kEndsByRoad, bEndsByRoad⟩ := hEndsByRoad
  obtain ⟨_, _, GNewsPlaces, gNewsPlaces, kNewsPlaces, bNewsPlaces⟩ := hNewsPlaces
  obtain ⟨_, _, GRoundOf, gRoundOf, kRoundOf, bRoundOf⟩ := hRoundOf
  refine cal_of F scArrivalsFrom (fun vs H Q E ⟨_, _, _, _, _, _, _, _, _, e, _⟩ => by rw [e]; rfl) (fun _ _ _ _ _ _ us hl => match us, hl with | [_, _, _, _, _], _ => rfl) fun f cdv A outer s H vs Q E hr h => ?_
  obtain ⟨a, wk, b, mo, ms, Pl, ρ, R, p0, rfl, hg, hwk, hb, hW, hz, hp0, hmo, hms, q⟩ := h
  have hu := hu_of hr
  refine ⟨_, (pss_cons (ps_set (i := 5) scArrivalsFrom.nd rfl (.inl rfl) (pe_call GEndsByRoad (hr.mono (by decide)) (by rfl) gEndsByRoad kEndsByRoad bEndsByRoad .nil pass0 (pa_cons (pv 0) pa_nil)))
    (pss_cons (ps_set (i := 6) scArrivalsFrom.nd rfl (.inl rfl) (pe_callB call_lenD (by rfl) Z.len_ PySem.boot_len (pa_cons (pe_call GNewsPlaces (hr.mono (by decide)) (by rfl) gNewsPlaces kNewsPlaces bNewsPlaces .nil pass0 (pa_cons (pv 0) (pa_cons (pv 1) (pa_cons (pv 2) pa_nil)))) pa_nil)))
    (pss_cons (ps_set (i := 7) scArrivalsFrom.nd rfl (.inr rfl) (pe_disp (pps_cons (pv 2) (pv 3) pps_nil) (by rfl) (by rfl) (fun z => by cases z) (by decide)))
    (pss_cons (ps_asg (pv 3) (pg_tup (n := 2) (by rfl) (pgs_cons (pg_name (i := 8) scArrivalsFrom.nd rfl (.inl rfl)) (pgs_cons (pg_name (i := 9) scArrivalsFrom.nd rfl (.inl rfl)) pgs_nil))))
    (pss_cons (ps_while PassesOwn.never (pt_cmpR op_lt (pe_callB call_lenD (by rfl) Z.len_ PySem.boot_len (pa_cons (pv 7) pa_nil)) (pv 6) (nomark _))
      (pss_cons (ps_for PassesOwn.never rfl (pi_enumT (by rfl) Z.enumerate_ (pa_cons (pe_call GRoundOf (hr.mono (by decide)) (by rfl) gRoundOf kRoundOf bRoundOf .nil pass0 (pa_cons (pv 1) (pa_cons (pv 8) pa_nil))) pa_nil)) (pg_tup (n := 2) (by rfl) (pgs_cons (pg_name (i := 10) scArrivalsFrom.nd rfl (.inl rfl)) (pgs_cons (pg_name (i := 11) scArrivalsFrom.nd rfl (.inl rfl)) pgs_nil)))
        (pss_cons (ps_asg (pe_dget hu (pv 5) (pv 11) (fun _ _ => rfl)) (pg_tup (n := 2) (by rfl) (pgs_cons (pg_name (i := 12) scArrivalsFrom.nd rfl (.inl rfl)) (pgs_cons (pg_name (i := 13) scArrivalsFrom.nd rfl (.inl rfl)) pgs_nil))))
        (pss_one (ps_if (PW.pt (pw_and (pt_cmpR op_ge (pv 10) (pv 9) (nomark _)) (pw_and (pt_cmpR op_ne (pe_cmp (pc_din hu (pv 12) (pv 7)) (by rfl)) (pe_cmp (pc_din hu (pv 13) (pv 7)) (by rfl)) (nomark _)) (pw_and1 (pt_cmp (pc_dnotin hu (pe_tup (pa_cons (pv 8) (pa_cons (pv 11) pa_nil))) (pv 4)))))))
          (pss_one (ps_dput hu (pv 7) (pe_ifExp (pt_cmp (pc_din hu (pv 12) (pv 7))) (pv 13) (pv 12)) (pe_tup (pa_cons (pv 8) (pa_cons (pe_op op_add (pv 10) pe_int) pa_nil))) rfl)) pss_nil))))
      (pss_one (ps_par (i := 8) (j := 9) (by rfl) scArrivalsFrom.nd rfl rfl (by decide) rfl rfl (pa_cons (pe_op op_add (pv 8) pe_int) (pa_cons pe_int pa_nil)) (by rfl)))))
    (pss_one (ps_ret (pe_lc (own := [("name", 14)]) (g := (gName 14)) (tt := tYes) (by rfl) scArrivalsFrom.nd (pi_tup (pe_ix (ix_tup : IxR _ (rIxT K)) (pv 0) pe_int (fun _ _ => rfl))) (blkOk_by (own := [("name", 14)]) (N := nArrivalsFrom) (sc := defScope sArrivalsFrom) (by decide +kernel)) (fun _ _ _ _ _ => (pg_name (i := 14) scArrivalsFrom.nd rfl (.inl rfl))) (fun _ _ _ _ _ => pts_nil) (fun _ _ _ _ _ => (pe_dget1 hu (pv 7) (pv 14) ⟨rfl, rfl, rfl, rfl⟩)))))))))), ?_⟩
  have hPl := hg.lenP
  -- ends
  refine q_call (ea_cons (ev_var rfl) ea_nil) fun H1 e1 => sv_ends (hg.mono (Tp.of e1)) fun ed H2 kvE _ e2 hed hkv => ?_
  have e02 := e1.trans e2
  -- many
  refine q_lenCall (ea_cons (ev_var rfl) (ea_cons (ev_var rfl) (ea_cons (ev_var rfl) ea_nil))) fun H3 e3 => ?_
  have e03 := e02.trans e3
  refine sv_news (E := E0) (hg.mono (Tp.of e03)) (ex_t e03 hwk) (ex_t e03 hb) hW hz hp0 fun nw H4 L _ e4 hnw hL hsh => ?_
  refine ⟨nw, yes L, rfl, hnw, ?_⟩
  have hyl : (yes L).length = L.length := by rw [yes, List.length_map]
  rw [hyl]
  have e04 := e03.trans e4
  have hLP := hL.len hg.inP hp0
  -- found; day, first
  refine q_of (s_asgK (ek_one (ev_var rfl) (ev_var rfl)) fun fd H5 hfd e5 h5 => ?_)
  have e05 := e04.trans e5
  refine q_of (s_asg2 (ev_var rfl) (ex_t e05 hmo) fun H6 e6 => ?_)
  have e06 := e05.trans e6
  have hedR : ∀ {H' : Hp}, Ex H4 H' → H' ed = some (.dK kvE) ∧ DkOf (IsEn K H') kvE R := fun e => ⟨((e3.trans e4).trans e) _ _ hed, hkv.mono fun v b hb => hb.mono (Tp.of ((e3.trans e4).trans e))⟩
  -- while
  refine q_while (fun m σ' H' => ∃ (n : Nat) (kvs : List (Key × V)) (o1 o2 o3 o4 : Option V), σ' = [some (.ref a), some (.ref wk), some (.str p0), some (.ref mo), some (.ref ms), some (.ref ed), some (.int (L.length : Nat)), some (.ref fd), some (.int (1 + n)), some (.int 0), o1, o2, o3, o4, none] ∧ m = L.length - (RP.dayS R ρ p0 n).length ∧ Ex H4 H' ∧ H' fd = some (.dK kvs) ∧ DkOf (IsMo K H') kvs (RP.dayS R ρ p0 n))
    (L.length - (RP.dayS R ρ p0 0).length) ⟨0, _, none, none, none, none, rfl, rfl, e5.trans e6, e6 _ _ h5, .cons ⟨rfl, mo, rfl, ex_t e06 hmo⟩ .nil⟩ ?_
  rintro m σ' H' ⟨n, kvs, o1, o2, o3, o4, rfl, rfl, e7, h7, hk7⟩
  have hS := RP.sound_dayS R ρ p0 n
  refine ⟨_, et_test (ev_op (ev_lenD (ev_var rfl) h7) (ev_var rfl) rv_I0), fun hbt H8 e8 => ?_, fun hbt H8 e8 => ?_⟩
  · have hlt : (RP.dayS R ρ p0 n).length < L.length := by
      have := of_decide_eq_true hbt
      rw [hk7.len] at this
      omega
    have hgr := RP.grows (d := n + 1) hW (RP.not_closed hL hS hlt)
    have e78 := e7.trans e8
    refine ⟨fun σ2 H2' => ∃ (kvs : List (Key × V)) (o1 o2 o3 o4 : Option V), σ2 = [some (.ref a), some (.ref wk), some (.str p0), some (.ref mo), some (.ref ms), some (.ref ed), some (.int (L.length : Nat)), some (.ref fd), some (.int (1 + (n + 1 : Nat))), some (.int 0), o1, o2, o3, o4, none] ∧ Ex H4 H2' ∧ H2' fd = some (.dK kvs) ∧ DkOf (IsMo K H2') kvs (RP.dayS R ρ p0 (n + 1)), ?_, ?_⟩
    · rintro σ2 H2' ⟨kvs', o1, o2, o3, o4, rfl, e9, h9, hk9⟩
      have hgr : (RP.dayS R ρ p0 n).length < (RP.dayS R ρ p0 (n + 1)).length := hgr
      exact ⟨_, by omega, n + 1, kvs', o1, o2, o3, o4, rfl, rfl, e9, h9, hk9⟩
    have hRd : ∀ {H' : Hp}, Ex H4 H' → SqT K H' b (ρ.map V.str) := fun e => ex_t (e04.trans e) hb
    refine q_of (s_forE (xs := ρ.map V.str) (ev_call (ea_cons (ev_var rfl) (ea_cons (ev_var rfl) ea_nil)) (sv_round (ex_t (e04.trans e78) hwk))) (hRd e78)
      (fun i σ2 H2' => ∃ (kvs : List (Key × V)) (o1 o2 o3 o4 : Option V), σ2 = [some (.ref a), some (.ref wk), some (.str p0), some (.ref mo), some (.ref ms), some (.ref ed), some (.int (L.length : Nat)), some (.ref fd), some (.int (1 + n)), some (.int 0), o1, o2, o3, o4, none] ∧ Ex H4 H2' ∧ H2' fd = some (.dK kvs) ∧ DkOf (IsMo K H2') kvs (RP.part R ρ (n + 1) (RP.dayS R ρ p0 n) i))
      (fun H9 e9 => ⟨kvs, o1, o2, o3, o4, rfl, e78.trans e9, (e8.trans e9) _ _ h7, hk7.mono fun v t ht => ht.mono (Tp.of (e8.trans e9))⟩) (fun i σ2 H2' _ ⟨_, _, _, _, _, _, e9, _⟩ => hRd e9) ?_ ?_)
    · rintro i x σ2 H9 H10 hx ⟨kvs9, q1, q2, q3, q4, rfl, e9, h9, hk9⟩ e10
      rw [List.getElem?_map] at hx
      cases hr9 : ρ[i]? with
      | none => rw [hr9] at hx; cases hx
      | some r =>
      rw [hr9] at hx
      cases hx
      have e9' := e9.trans e10
      obtain ⟨⟨x1, y1⟩, hlk⟩ : ∃ e, RP.look R r = some e := by
        have := RP.has_iff.mpr (hW.sub r (List.mem_of_getElem? hr9))
        unfold RP.has at this
        exact Option.isSome_iff_exists.mp this
      obtain ⟨hed', hkv'⟩ := hedR e9'
      obtain ⟨v, hv, t, rfl, ht⟩ := dk_some hkv' hlk
      have hpart : RP.part R ρ (n + 1) (RP.dayS R ρ p0 n) (i + 1) = RP.wstep R (n + 1) (RP.part R ρ (n + 1) (RP.dayS R ρ p0 n) i) i r := by
        rw [RP.part, hr9]
      have hSp := hS.part ρ (n + 1) i
      have hlen := hSp.len hg.inP hp0
      refine q_of (s_asg2 (ev_dget (ev_var rfl) (ev_var rfl) hed' hv) ht fun H11 e11 => ?_)
      have h11 := (e10.trans e11) _ _ h9
      have hk11 : DkOf (IsMo K H11) kvs9 (RP.part R ρ (n + 1) (RP.dayS R ρ p0 n) i) := hk9.mono fun v t ht => ht.mono (Tp.of (e10.trans e11))
      generalize hFd : RP.part R ρ (n + 1) (RP.dayS R ρ p0 n) i = Fd at *
      have hin : ∀ {σ : L2.St} {j : Nat} {z : Str}, σ[j]? = some (some (.str z)) → σ[7]? = some (some (.ref fd)) → Ev (tDIn (tVar j) (tVar 7)) σ H11 (.bl (RP.has Fd z)) := fun h1 h2 => by
        rw [← dk_isSome hk11]
        exact ev_din (ev_var h2) (ev_var h1) h11
      have hsub : ∀ q ∈ RP.keys Fd, q ∈ Pl := hSp.sub hg.inP hp0
      have hklen : kvs9.length < 100000 := by
        rw [hk11.len]
        omega
      refine s_when (et_and (et_test (ev_op (ev_var rfl) (ev_var rfl) rv_I0)) fun _ => et_and (et_test (ev_op (hin rfl rfl) (hin rfl rfl) (rv_ne rfl))) fun _ => et_B (ev_dniT (eu_tup (ea_cons (ev_var rfl) (ea_cons (ev_var rfl) ea_nil)) (by simp)) (ev_var rfl) (((e04.trans e9').trans e11) _ _ hms))) (fun hb2 H12 e12 => ?_) (fun hb2 H12 e12 => ?_)
      · have hne : ¬ RP.has Fd x1 = RP.has Fd y1 := fun z => by
          rw [z] at hb2
          simp at hb2
        have put : ∀ (z : Str) (H13 : Hp) (p : Addr), RP.has Fd z = false → RP.wstep R (n + 1) Fd i r = Fd ++ [(z, n + 1, i + 1)] → Ex H12 H13 → H13 p = some (.tup [.int (1 + n), .int ((i : Nat) + 1)]) →
            ∃ (kvs : List (Key × V)), Ex H4 (L2.upd H13 fd (.dK (putK kvs9 (Sum.inr z : Key) (.ref p)))) ∧ L2.upd H13 fd (.dK (putK kvs9 (Sum.inr z : Key) (.ref p))) fd = some (.dK kvs) ∧ DkOf (IsMo K (L2.upd H13 fd (.dK (putK kvs9 (Sum.inr z : Key) (.ref p))))) kvs (RP.part R ρ (n + 1) (RP.dayS R ρ p0 n) (i + 1)) := fun z H13 p hz hw e13 h13 => by
          have tp : Tp K H13 (L2.upd H13 fd (.dK (putK kvs9 (Sum.inr z : Key) (.ref p)))) := Tp.dk ((e12.trans e13) _ _ h11)
          refine ⟨_, Ex.mut ((e9'.trans e11).trans (e12.trans e13)) hfd, upd_same, ?_⟩
          rw [hpart, hw]
          refine dk_new (hk11.mono fun v t ht => ht.mono ((Tp.of (e12.trans e13)).trans tp)) (RP.has_false_iff.mp hz) ⟨p, rfl, tp.1 _ _ (st_of ?_)⟩
          rw [h13]
          congr 3
          · congr 1
            omega
        have hlen' : kvs9.length < 100000 := hklen
        cases hx1 : RP.has Fd x1 with
        | true =>
          have hy1 : RP.has Fd y1 = false := by
            rw [hx1] at hne
            simpa using fun z => hne (Eq.symm z)
          refine s_dputU (eu_tup (ea_cons (ev_var rfl) (ea_cons (ev_op (ev_var rfl) ev_c rv_I0) ea_nil)) (by simp)) (ev_var rfl) (ev_if (b := true) (et_is (et_B ((hin rfl rfl).mono e12)) hx1) (fun _ => ev_var rfl) (fun z => absurd z (by decide))) (e12 _ _ h11) hlen' fun p H13 e13 h13 => ?_
          obtain ⟨k1, k2, k3, k4⟩ := put y1 H13 p hy1 (by unfold RP.wstep; rw [hlk]; simp only [hx1, hy1]; rfl) e13 h13
          exact ⟨k1, _, _, _, _, rfl, k2, k3, k4⟩
        | false =>
          refine s_dputU (eu_tup (ea_cons (ev_var rfl) (ea_cons (ev_op (ev_var rfl) ev_c rv_I0) ea_nil)) (by simp)) (ev_var rfl) (ev_if (b := false) (et_is (et_B ((hin rfl rfl).mono e12)) hx1) (fun z => absurd z (by decide)) (fun _ => ev_var rfl)) (e12 _ _ h11) hlen' fun p H13 e13 h13 => ?_
          obtain ⟨k1, k2, k3, k4⟩ := put x1 H13 p hx1 (by unfold RP.wstep; rw [hlk]; simp only []; rw [if_neg hne, hx1]; rfl) e13 h13
          exact ⟨k1, _, _, _, _, rfl, k2, k3, k4⟩
      · have heq : RP.has Fd x1 = RP.has Fd y1 := by
          by_cases z : RP.has Fd x1 = RP.has Fd y1
          · exact z
          · have z2 : decide (V.bl (RP.has Fd x1) = V.bl (RP.has Fd y1)) = false := decide_eq_false fun w => z (V.bl.inj w)
            rw [z2] at hb2
            simp at hb2
        refine ⟨kvs9, _, _, _, _, rfl, (e9'.trans e11).trans e12, e12 _ _ h11, ?_⟩
        rw [hpart]
        unfold RP.wstep
        rw [hlk]
        simp only []
        rw [if_pos heq]
        exact hk11.mono fun v t ht => ht.mono (Tp.of e12)
    · rintro σ2 H9 ⟨kvs9, q1, q2, q3, q4, rfl, e9, h9, hk9⟩
      rw [List.length_map] at hk9
      refine s_par (ea_cons (ev_op (ev_var rfl) ev_c rv_I0) (ea_cons ev_c ea_nil)) fun H10 e10 => ?_
      refine ⟨kvs9, q1, q2, q3, q4, ?_, e9.trans e10, e10 _ _ h9, hk9.mono fun v t ht => ht.mono (Tp.of e10)⟩
      rw [show ((1 : Int) + ((n + 1 : Nat) : Int)) = 1 + (n : Int) + 1 by omega]
      rfl
  · have hle : L.length ≤ (RP.dayS R ρ p0 n).length := by
      have := of_decide_eq_false hbt
      rw [hk7.len] at this
      omega
    have hcl := RP.closed_of_len hL hsh hS hle
    have hfin := RP.fin_of hW hg.inP hp0 hcl
    rw [hfin] at hk7
    have e78 := e7.trans e8
    obtain ⟨ap, ar, rs, hw1, hap, hR, hrs⟩ := hg.wb
    have e0 := e04.trans e78
    refine s_retL (el_lcTy (Pl.map fun q => (valV kvs (Sum.inr q : Key)).getD .non) (ev_web0 (ev_var rfl) (ex_t e0 hw1)) (ex_t e0 hap.sq) (by rw [List.length_map]; exact Nat.lt_of_le_of_lt hPl (by decide)) (by simp) (fun _ => rfl) fun i x y H9 e9 hx hy => ?_) fun p H9 hp e9 h9 => ?_
    · rw [List.getElem?_map] at hx hy
      cases hr9 : Pl[i]? with
      | none => rw [hr9] at hx; cases hx
      | some r =>
        rw [hr9] at hx hy
        cases hx
        cases hy
        exact ev_dget1 (ev_var rfl) (ev_var rfl) ((e8.trans e9) _ _ h7)
    · refine q p H9 _ (fresh_back e0 hp) (e0.trans e9) h9 ?_
      have hk9 : DkOf (IsMo K H9) kvs (RP.fin R ρ Pl p0) := hk7.mono fun v t ht => ht.mono (Tp.of (e8.trans e9))
      have one : ∀ l : List Str, Paired (IsAr K H9 R ρ Pl p0) (l.map fun q => (valV kvs (Sum.inr q : Key)).getD .non) l := by
        intro l
        induction l with
        | nil => exact .nil
        | cons q t ih =>
          refine .cons ?_ ih
          unfold IsAr
          cases e : RP.look (RP.fin R ρ Pl p0) q with
          | none => simp only [dk_none hk9 e]; rfl
          | some t =>
            obtain ⟨v, hv, hm⟩ := dk_some hk9 e
            simp only [hv]
            exact hm
      exact one Pl
end
end RW
end

section
set_option maxRecDepth 100000
set_option maxHeartbeats 4000000
/-! the walk of the days: days_from, day_rows -/
namespace RW
open PySem PySem.Spec PyProof.Rows L2 Evl

def optV : Option Nat → V
  | none => .non
  | some n => .int (n : Nat)
def rowV (R : List RdS) (ρ Pl : List Str) (p : Str) : List V := Pl.map fun q => optV (RP.dayOf R ρ Pl p q)
section
variable {σ : L2.St} {H : Hp} {K : PySem.W.Frag} {ta tb te : TE} {x : V}
def rIsN : R2 := fun x y H Q => y = .non ∧ Q (.bl (decide (x = .non))) H
theorem rv_isN : RV rIsN x .non H (.bl (decide (x = .non))) := fun H1 _ _ q => ⟨rfl, q H1 (Ex.refl H1)⟩
/-- t.index(q) -/
theorem ev_tix {p : Addr} {ys : List Str} {z : Str} (ha : Ev ta σ H (.ref p)) (hb : Ev tb σ H (.str z)) (hp : Fz H p (ys.map V.str)) (hz : z ∈ ys) (hN : ys.Nodup) : Ev (tTix K ta (tCons tb tNil)) σ H (.int ((RP.pos ys z : Nat) : Int)) := fun H1 e Q q =>
  ha H1 e _ fun H2 e2 => ⟨⟨p, _, rfl, ((Tp.of (K := K) (e.trans e2)).2 _ _ hp)⟩, hb H2 (e.trans e2) _ fun H3 e3 => ⟨p, ys, z, RP.pos ys z, rfl, rfl, ex_t ((e.trans e2).trans e3) hp.sq, RP.get_pos hz, fun m hm h => by
    have := RP.pos_get hN h
    omega, q H3 (e2.trans e3)⟩⟩
theorem But.ex {D : Addr} {H H' : Hp} (hD : H D = none) (b : But D H H') : Ex H H' := fun a o h => b a o (ne_of_none h hD) h
/-- arguments some of which are new -/
def EvAP (ta : TA) (σ : L2.St) (H : Hp) (P : List V → Hp → Prop) : Prop := ∀ H1, Ex H H1 → ∀ Q : List V → Hp → Prop, (∀ vs H2, Ex H1 H2 → P vs H2 → Q vs H2) → ta σ H1 Q
theorem eap_nil : EvAP tNil σ H (fun vs _ => vs = []) := fun H1 _ Q q => q [] H1 (Ex.refl H1) rfl
theorem eap_v {tr : TA} {P : List V → Hp → Prop} (h : Ev ta σ H x) (hr : EvAP tr σ H P) : EvAP (tCons ta tr) σ H (fun vs H2 => ∃ ws, vs = x :: ws ∧ P ws H2) := fun H1 e Q q =>
  h H1 e _ fun H2 e2 => hr H2 (e.trans e2) _ fun ws H3 e3 hP => q (x :: ws) H3 (e2.trans e3) ⟨ws, rfl, hP⟩
theorem eap_u {tr : TA} {P : List V → Hp → Prop} {xs : List V} (h : EvU ta σ H xs) (hr : EvAP tr σ H P) : EvAP (tCons ta tr) σ H (fun vs H2 => ∃ p ws, vs = .ref p :: ws ∧ H2 p = some (.tup xs) ∧ P ws H2) := fun H1 e Q q =>
  h H1 e _ fun p H2 _ e2 hp => hr H2 (e.trans e2) _ fun ws H3 e3 hP => q (.ref p :: ws) H3 (e2.trans e3) ⟨p, ws, rfl, e3 _ _ hp, hP⟩
theorem eap_dT {tr : TA} {P : List V → Hp → Prop} (hr : EvAP tr σ H P) : EvAP (tCons tDNewT tr) σ H (fun vs H2 => ∃ p ws, vs = .ref p :: ws ∧ H2 p = some (.dT []) ∧ P ws H2) := fun H1 e Q q p hp =>
  hr _ (e.trans (Ex.new hp)) _ fun ws H3 e3 hP => q (.ref p :: ws) H3 ((Ex.new hp).trans e3) ⟨p, ws, rfl, e3 _ _ upd_same, hP⟩
theorem q_callP {D : Ends} {tz : TS} {sp : Sp} {E : XK} {i : Nat} {ta : TA} {P : List V → Hp → Prop} (h : EvAP ta σ H P) (k : ∀ vs H1, Ex H H1 → P vs H1 → sp vs H1 (fun v H2 => tz D (σ.set i (some v)) H2) E) : tSeq (tAsg (tCall sp [] E ta) (gName i)) tz D σ H := h H (Ex.refl H) _ fun vs H1 e hP => by
  show sp (vs ++ []) H1 _ E
  rw [List.append_nil]
  exact k vs H1 e hP
/-- [e for x in a list], told by the values -/
theorem el_lcLy {tl : TE} {a : Addr} {xs : List V} {j : Nat} {vs : List Nat} (ys : List V) (h : Ev tl σ H (.ref a)) (hx : SqL K H a xs) (hz : xs.length < 100000) (hl : ys.length = xs.length) (hw : ∀ x, wipe ((wipe σ vs).set j (some x)) vs = wipe σ vs)
    (he : ∀ (i : Nat) (x y : V) H1, Ex H H1 → xs[i]? = some x → ys[i]? = some y → Ev te ((wipe σ vs).set j (some x)) H1 y) : EvL (tLc (iList K tl) (gName j) tYes te vs) σ H ys := fun H0 e Q q => h H0 e _ fun H1 e1 => ⟨a, rfl, ⟨xs, ex_l (e.trans e1) hx⟩, fun D hD => by
  refine lc_it walk_list (Qd := fun H => Q (.ref D) H) (fun i H' => H' D = some (.lst (ys.take i)) ∧ Ex H1 H') ⟨upd_same, Ex.mut (Ex.refl H1) hD⟩ (fun i H' _ p => ex_l ((e.trans e1).trans p.2) hx) (fun i x H' H'' hi p hy => ?_) (fun H' p => ?_)
  · obtain ⟨h1, h2⟩ := p
    obtain ⟨rfl, hx1⟩ := hy
    obtain ⟨y, hy⟩ : ∃ y, ys[i]? = some y := ⟨_, List.getElem?_eq_getElem (by rw [hl]; exact hi)⟩
    refine ⟨hw _, he i x y H'' ((e.trans e1).trans h2) hx1 hy H'' (Ex.refl H'') _ fun H2 e2 => ⟨_, e2 _ _ h1, ?_, ?_, Ex.mut (h2.trans e2) hD⟩⟩
    · rw [List.length_take]
      exact sz_lt (by omega)
    · rw [upd_same, List.take_add_one, hy]
      rfl
  · obtain ⟨h1, h2⟩ := p
    rw [List.take_of_length_le (by omega)] at h1
    exact q D H' (fresh_back e1 hD) (e1.trans h2) h1⟩
/-- [e for x in t], a property of each -/
theorem el_lcTP {tl : TE} {a : Addr} {xs : List V} {j : Nat} {vs : List Nat} {Q : VK} (Pr : Addr → Nat → V → Hp → Prop) (h : Ev tl σ H (.ref a)) (hx : SqT K H a xs) (hz : xs.length < sizeLine) (hw : ∀ x, wipe ((wipe σ vs).set j (some x)) vs = wipe σ vs)
    (st : ∀ D i v H1 H2, But D H1 H2 → Pr D i v H1 → Pr D i v H2)
    (he : ∀ D i x H1 Q, xs[i]? = some x → Ex H H1 → (∃ l, H1 D = some (.lst l)) → (∀ v H2, Ex H1 H2 → Pr D i v H2 → Q v H2) → te ((wipe σ vs).set j (some x)) H1 Q)
    (hd : ∀ p H2 ys, H p = none → Ex H H2 → H2 p = some (.lst ys) → ys.length = xs.length → (∀ i v, ys[i]? = some v → Pr p i v H2) → Q (.ref p) H2) : tLc (iTup K tl) (gName j) tYes te vs σ H Q := h H (Ex.refl H) _ fun H1 e1 => ⟨a, rfl, ⟨xs, ex_t e1 hx⟩, fun D hD => by
  refine lcT_P (Pr D) hD (ex_t e1 hx) hz hw (st D) (fun i x H2 Q2 hi b hl k => he D i x H2 Q2 hi (e1.trans (But.ex hD b)) hl k) fun H2 ys e2 h2 hl hP => hd D H2 ys (fresh_back e1 hD) (e1.trans e2) h2 hl hP⟩
theorem paired_of {α β : Type} {F : α → β → Prop} : ∀ {xs : List α} {ys : List β}, xs.length = ys.length → (∀ (i : Nat) (x : α) (y : β), xs[i]? = some x → ys[i]? = some y → F x y) → Paired F xs ys
  | [], [], _, _ => .nil
  | [], _ :: _, h, _ => by cases h
  | _ :: _, [], h, _ => by cases h
  | x :: xs, y :: ys, h, f => .cons (f 0 x y rfl rfl) (paired_of (by simpa using h) fun i x y h1 h2 => f (i + 1) x y (by simpa using h1) (by simpa using h2))
end
section
variable {P : Program} {w : World} {K : PySem.W.Frag} {mg : Str → Option Value} {base : Heap}
theorem sv_arr {H : Hp} {a wk b mo ms : Addr} {Pl ρ : List Str} {R : List RdS} {p0 : Str} {Q : VK} {E : XK} (hg : Gd K H a Pl R) (hw : SqT K H wk [.ref b]) (hb : SqT K H b (ρ.map V.str)) (hW : RP.Whole R ρ) (hz : ρ.length < 1000) (hp : p0 ∈ Pl)
    (hmo : SqT K H mo [.int 1, .int 0]) (hms : H ms = some (.dT [])) (k : ∀ p H2 vs, H p = none → Ex H H2 → H2 p = some (.lst vs) → Paired (IsAr K H2 R ρ Pl p0) vs Pl → Q (.ref p) H2) : spArr K [.ref a, .ref wk, .str p0, .ref mo, .ref ms] H Q E := ⟨a, wk, b, mo, ms, Pl, ρ, R, p0, rfl, hg, hw, hb, hW, hz, hp, hmo, hms, k⟩
def spDays (K : PySem.W.Frag) : Sp := fun vs H Q _ => ∃ (a wk b : Addr) (Pl ρ : List Str) (R : List RdS) (p0 : Str), vs = [.ref a, .ref wk, .str p0] ∧ Gd K H a Pl R ∧ SqT K H wk [.ref b] ∧ SqT K H b (ρ.map V.str) ∧ RP.Whole R ρ ∧ ρ.length < 1000 ∧ p0 ∈ Pl ∧
  RetL (rowV R ρ Pl p0) H Q
theorem c_days (Z : Frees mg) (hArrivalsFrom : Cal P w K mg base CX0 3 "arrivals_from" ["web", "week", "place", "moment", "missed"] (spArr K)) (F : HasD K mg "days_from" sDaysFrom) : Cal P w K mg base CX0 4 "days_from" ["web", "week", "place"] (spDays K) := by
  obtain ⟨_, _, GArrivalsFrom, gArrivalsFrom, kArrivalsFrom, bArrivalsFrom⟩ := hArrivalsFrom
  refine cal_of F scDaysFrom (fun vs H Q E ⟨_, _, _, _, _, _, _, e, _⟩ => by rw [e]; rfl) (fun _ _ _ _ _ _ us hl => match us, hl with | [_, _, _], _ => rfl) fun f cdv A outer s H vs Q E hr h => ?_
  obtain ⟨a, wk, b, Pl, ρ, R, p0, rfl, hg, hwk, hb, hW, hz, hp0, q⟩ := h
  have hu := hu_of hr
  refine ⟨_, (pss_cons (ps_set (i := 3) scDaysFrom.nd rfl (.inl rfl) (pe_call GArrivalsFrom (hr.mono (by decide)) (by rfl) gArrivalsFrom kArrivalsFrom bArrivalsFrom .nil pass0 (pa_cons (pv 0) (pa_cons (pv 1) (pa_cons (pv 2) (pa_cons (pe_tup (pa_cons pe_int (pa_cons pe_int pa_nil))) (pa_cons pe_dnewT pa_nil)))))))
    (pss_cons (ps_setLc (own := [("moment", 5)]) (g := (gName 5)) (tt := tYes) (i := 4) (by rfl) scDaysFrom.nd rfl rfl (sw_true rfl rfl rfl (by decide +kernel)) (pi_list (pv 3)) (blkOk_by (own := [("moment", 5)]) (N := nDaysFrom) (sc := defScope sDaysFrom) (by decide +kernel)) (fun _ _ _ _ _ => (pg_name (i := 5) scDaysFrom.nd rfl (.inl rfl))) (fun _ _ _ _ _ => pts_nil) (fun _ _ _ _ _ => (pe_ifExp (pt_cmpR op_isN (pv 5) pe_non (nomark _)) pe_non (pe_ix (ix_tup : IxR _ (rIxT K)) (pv 5) pe_int (fun _ _ => rfl)))))
    (pss_cons (ps_asg pe_int (pg_sub (pv 4) (pe_tix (pe_ix (ix_tup : IxR _ (rIxT K)) (pv 0) pe_int (fun _ _ => rfl)) (pa_cons (pv 2) pa_nil)) set_list))
    (pss_one (ps_ret (pv 4)))))), ?_⟩
  have hPl := hg.lenP
  refine q_callP (eap_v (ev_var rfl) (eap_v (ev_var rfl) (eap_v (ev_var rfl) (eap_u (eu_tup (ea_cons ev_c (ea_cons ev_c ea_nil)) (by simp)) (eap_dT eap_nil))))) fun vs H1 e1 hvs => ?_
  obtain ⟨_, rfl, _, rfl, _, rfl, mo, _, rfl, hmo, ms, _, rfl, hms, rfl⟩ := hvs
  refine sv_arr (E := E0) (hg.mono (Tp.of e1)) (ex_t e1 hwk) (ex_t e1 hb) hW hz hp0 (st_of hmo) hms fun ar H2 vs hp2 e2 h2 hA => ?_
  have e02 := e1.trans e2
  have hlen := paired_len hA
  refine q_asgL (el_lcLy (Pl.map fun q => optV ((RP.look (RP.fin R ρ Pl p0) q).map (·.1))) (ev_var rfl) (sq_of h2) (by rw [hlen]; omega) (by simp [hlen]) (fun _ => rfl) fun i x y H3 e3 hx hy => ?_) fun fl H3 hf3 e3 h3 => ?_
  · obtain ⟨q', hq', hv⟩ := paired_at' hA hx
    rw [List.getElem?_map, hq'] at hy
    have hy : optV ((RP.look (RP.fin R ρ Pl p0) q').map (·.1)) = y := Option.some.inj hy
    unfold IsAr at hv
    cases hl : RP.look (RP.fin R ρ Pl p0) q' with
    | none =>
      rw [hl] at hv hy
      have hv : x = .non := hv
      subst hv hy
      exact ev_if (b := true) (et_test (ev_op (ev_var rfl) ev_c rv_isN)) (fun _ => ev_c) (fun z => absurd z (by decide))
    | some t =>
      rw [hl] at hv hy
      obtain ⟨t', rfl, ht⟩ : IsMo K H2 x t := hv
      subst hy
      exact ev_if (b := false) (et_test (ev_op (ev_var rfl) ev_c rv_isN)) (fun z => absurd z (by decide)) (fun _ => ev_op (ev_var rfl) ev_c (rv_ixT (ex_t e3 ht) rfl))
  have e03 := e02.trans e3
  obtain ⟨ap, ar', rs, hw1, hap, hR, hrs⟩ := (hg.mono (Tp.of (K := K) e03)).wb
  have hpos := RP.pos_lt hp0
  refine q_of (s_setL h3 ev_c (ev_var rfl) (ev_tix (ev_web0 (ev_var rfl) hw1) (ev_var rfl) hap hp0 hg.inP.nd) (by simpa using hpos) fun H4 e4 => ?_)
  refine s_ret (ev_var rfl) fun H5 e5 => ?_
  have hrow : (Pl.map fun q => optV ((RP.look (RP.fin R ρ Pl p0) q).map (·.1))).set (RP.pos Pl p0) (.int 0) = rowV R ρ Pl p0 := by
    refine List.ext_getElem? fun i => ?_
    rw [List.getElem?_set, rowV, List.getElem?_map, List.getElem?_map]
    by_cases hi : RP.pos Pl p0 = i
    · rw [if_pos hi, ← hi, RP.get_pos hp0]
      simp [RP.dayOf, optV, hpos]
    · rw [if_neg hi]
      cases hq' : Pl[i]? with
      | none => rfl
      | some q' =>
        have hne : ¬ q' = p0 := fun z => by
          subst z
          exact hi (RP.pos_get hg.inP.nd hq')
        simp only [Option.map_some, RP.dayOf, if_neg hne]
  rw [hrow] at e5
  exact q fl H5 (fresh_back e02 hf3) ((Ex.mut ((e02.trans e3).trans e4) (fresh_back e02 hf3)).trans e5) (e5 _ _ upd_same)
def spRows (K : PySem.W.Frag) : Sp := fun vs H Q _ => ∃ (a wk b : Addr) (Pl ρ : List Str) (R : List RdS), vs = [.ref a, .ref wk] ∧ Gd K H a Pl R ∧ SqT K H wk [.ref b] ∧ SqT K H b (ρ.map V.str) ∧ RP.Whole R ρ ∧ ρ.length < 1000 ∧
  ∀ p H2 vs, H p = none → Ex H H2 → H2 p = some (.lst vs) → Paired (fun v q => ∃ l, v = .ref l ∧ H2 l = some (.lst (rowV R ρ Pl q))) vs Pl → Q (.ref p) H2
theorem c_rows (hDaysFrom : Cal P w K mg base CX0 4 "days_from" ["web", "week", "place"] (spDays K)) (F : HasD K mg "day_rows" sDayRows) : Cal P w K mg base CX0 5 "day_rows" ["web", "week"] (spRows K) := by
  obtain ⟨_, _, GDaysFrom, gDaysFrom, kDaysFrom, bDaysFrom⟩ := hDaysFrom
  refine cal_of F scDayRows (fun vs H Q E ⟨_, _, _, _, _, _, e, _⟩ => by rw [e]; rfl) (fun _ _ _ _ _ _ us hl => match us, hl with | [_, _], _ => rfl) fun f cdv A outer s H vs Q E hr h => ?_
  obtain ⟨a, wk, b, Pl, ρ, R, rfl, hg, hwk, hb, hW, hz, q⟩ := h
  refine ⟨_, (pss_one (ps_ret (pe_lc (own := [("place", 2)]) (g := (gName 2)) (tt := tYes) (by rfl) scDayRows.nd (pi_tup (pe_ix (ix_tup : IxR _ (rIxT K)) (pv 0) pe_int (fun _ _ => rfl))) (blkOk_by (own := [("place", 2)]) (N := nDayRows) (sc := defScope sDayRows) (by decide +kernel)) (fun _ _ _ _ _ => (pg_name (i := 2) scDayRows.nd rfl (.inl rfl))) (fun _ _ _ _ _ => pts_nil) (fun _ _ _ _ _ => (pe_call GDaysFrom (hr.mono (by decide)) (by rfl) gDaysFrom kDaysFrom bDaysFrom .nil pass0 (pa_cons (pv 0) (pa_cons (pv 1) (pa_cons (pv 2) pa_nil)))))))), ?_⟩
  have hPl := hg.lenP
  obtain ⟨ap, ar', rs, hw1, hap, hR, hrs⟩ := hg.wb
  refine el_lcTP (te := _) (fun Dd i v H' => ∃ l q, v = .ref l ∧ l ≠ Dd ∧ Pl[i]? = some q ∧ H' l = some (.lst (rowV R ρ Pl q))) (ev_web0 (ev_var rfl) hw1) hap.sq (by rw [List.length_map]; exact Nat.lt_of_le_of_lt hPl (by decide)) (fun _ => rfl) (fun Dd i v H1 H2 b ⟨l, q, h1, h2, h3, h4⟩ => ⟨l, q, h1, h2, h3, b _ _ h2 h4⟩) (fun Dd i x H1 Q2 hx e1 hDd k => ?_) (fun p H2 ys hp e2 h2 hl hP => q p H2 ys hp e2 h2 (paired_of (by simpa using hl) fun i v q' hv hq' => ?_))
  · rw [List.getElem?_map] at hx
    cases hq' : Pl[i]? with
    | none => rw [hq'] at hx; cases hx
    | some p0 =>
      rw [hq'] at hx
      cases hx
      refine (ea_cons (ev_var rfl) (ea_cons (ev_var rfl) (ea_cons (ev_var rfl) ea_nil)) : EvA _ _ H1 [.ref a, .ref wk, .str p0]) H1 (Ex.refl H1) _ fun H2 e2 => ?_
      have e02 := e1.trans e2
      refine ⟨a, wk, b, Pl, ρ, R, p0, rfl, hg.mono (Tp.of e02), ex_t e02 hwk, ex_t e02 hb, hW, hz, List.mem_of_getElem? hq', fun l H3 hl e3 h3 => k _ H3 (e2.trans e3) ⟨l, p0, rfl, ?_, hq', h3⟩⟩
      rintro rfl
      obtain ⟨z, hz⟩ := hDd
      rw [e2 _ _ hz] at hl
      cases hl
  · obtain ⟨l, q2, h1, _, h3, h4⟩ := hP i v hv
    rw [hq'] at h3
    cases h3
    exact ⟨l, h1, h4⟩
end
end RW
end

section
set_option maxRecDepth 100000
set_option maxHeartbeats 4000000
/-! the walk of exchanged and swap_days -/
namespace RW
open PySem PySem.Spec PyProof.Rows L2 Evl

theorem cut_pre {α : Type} (xs : List α) (i : Nat) : cutA xs none (some (i : Int)) = xs.take i := by
  unfold cutA
  rw [HT.sIx_none, HT.sIx_nat]
  simp [Nat.min_comm]
theorem cut_suf {α : Type} (xs : List α) (i : Nat) : cutA xs (some (i : Int)) none = xs.drop i := by
  unfold cutA
  rw [HT.sIx_none, HT.sIx_nat]
  by_cases h : i ≤ xs.length
  · rw [Nat.min_eq_left h]
    exact List.take_of_length_le (by simp)
  · rw [Nat.min_eq_right (by omega), Nat.sub_self, List.take_zero, List.drop_eq_nil_of_le (by omega)]
def IsDu (K : PySem.W.Frag) (H : Hp) (v : V) (e : Str × Str × Int) : Prop := ∃ a, v = .ref a ∧ SqT K H a [.str e.1, .str e.2.1, .int e.2.2]
theorem IsDu.mono {K : PySem.W.Frag} {H H' : Hp} {v : V} {e : Str × Str × Int} (h : IsDu K H v e) (t : Tp K H H') : IsDu K H' v e := let ⟨a, x, y⟩ := h; ⟨a, x, t.1 _ _ y⟩
section
variable {P : Program} {w : World} {K : PySem.W.Frag} {mg : Str → Option Value} {base : Heap}
def spExch (K : PySem.W.Frag) : Sp := fun vs H Q _ => ∃ (a : Addr) (ρ : List Str) (i : Nat) (r s : Str), vs = [.ref a, .int i] ∧ SqT K H a (ρ.map V.str) ∧ ρ.length < 1000 ∧ ρ[i]? = some r ∧ ρ[i + 1]? = some s ∧
  ∀ p H2, Ex H H2 → SqT K H2 p ((RP.swp ρ i r s).map V.str) → Q (.ref p) H2
theorem dp_strs {H : Hp} {a : Addr} {l : List Str} (h : SqT K H a (l.map V.str)) : Dp K H (.ref a) (.tuple (l.map PyData.str)) := .tup h (dpa_strs l)
theorem ed_exch {σ : L2.St} {H : Hp} {t1 t3 t4 t5 : TE} {e1 e2 : TE} {ρ : List Str} {i : Nat} {r s : Str} (hr : ρ[i]? = some r) (hs : ρ[i + 1]? = some s) (hz : ρ.length < 1000)
    (h1 : EvD K t1 σ H (.tuple (ρ.map PyData.str))) (i1 : Ev e1 σ H (.int i)) (h3 : EvD K t3 σ H (.str s)) (h4 : EvD K t4 σ H (.str r)) (h5 : EvD K t5 σ H (.tuple (ρ.map PyData.str))) (i5 : Ev e2 σ H (.int (i + 2 : Nat))) :
    EvD K (tOp (rCatA K) (tOp (rCatA K) (tSl (rSlA K) t1 tNoPart (tPart e1)) (tTup (tCons t3 (tCons t4 tNil)))) (tSl (rSlA K) t5 (tPart e2) tNoPart)) σ H (.tuple ((RP.swp ρ i r s).map PyData.str)) := by
  have q1 := ed_sl h1 eo_none (eo_some i1)
  have q2 := ed_sl h5 (eo_some i5) eo_none
  rw [cut_pre] at q1
  rw [cut_suf] at q2
  have q := ed_cat (ed_cat q1 (ed_tup (ed_cons h3 (ed_cons h4 ed_nil)) (by simp)) (by simp; omega)) q2 (by simp; omega)
  have e : (RP.swp ρ i r s).map PyData.str = (ρ.map PyData.str).take i ++ [PyData.str s, PyData.str r] ++ (ρ.map PyData.str).drop (i + 2) := by
    unfold RP.swp
    simp
  rw [e]
  exact q
theorem q_calld {σ : L2.St} {H : Hp} {D : Ends} {tz : TS} {sp : Sp} {E : XK} {ta : TA} {vs : List V} (h : EvA ta σ H vs) (k : ∀ H1, Ex H H1 → sp vs H1 (fun _ H2 => tz D σ H2) E) : tSeq (tDrop (tCall sp [] E ta)) tz D σ H := h H (Ex.refl H) _ fun H1 e => by
  show sp (vs ++ []) H1 _ E
  rw [List.append_nil]
  exact k H1 e
/-- a value of a kind -/
def EvP (te : TE) (σ : L2.St) (H : Hp) (P0 : V → Hp → Prop) : Prop := ∀ H1, Ex H H1 → ∀ Q : VK, (∀ v H2, Ex H1 H2 → P0 v H2 → Q v H2) → te σ H1 Q
theorem ep_call {σ : L2.St} {H : Hp} {sp : Sp} {E : XK} {ta : TA} {vs : List V} {P0 : V → Hp → Prop} (h : EvA ta σ H vs) (hs : ∀ H1, Ex H H1 → ∀ Q : VK, (∀ v H2, Ex H1 H2 → P0 v H2 → Q v H2) → sp vs H1 Q E) : EvP (tCall sp [] E ta) σ H P0 := fun H1 e Q q => h H1 e _ fun H2 e2 => by
  show sp (vs ++ []) H2 _ E
  rw [List.append_nil]
  exact hs H2 (e.trans e2) Q fun v H3 e3 hv => q v H3 (e2.trans e3) hv
theorem ep_tup1 {σ : L2.St} {H : Hp} {te : TE} {P0 : V → Hp → Prop} (h : EvP te σ H P0) (hm : ∀ v H1 H2, Ex H1 H2 → P0 v H1 → P0 v H2) : EvP (tTup (tCons te tNil)) σ H (fun u H2 => ∃ p v, u = .ref p ∧ H2 p = some (.tup [v]) ∧ P0 v H2) := fun H1 e Q q =>
  h H1 e _ fun v H2 e2 hv => ⟨sz_of (by simp), fun p hp => q (.ref p) _ (e2.trans (Ex.new hp)) ⟨p, v, rfl, upd_same, hm v _ _ (Ex.new hp) hv⟩⟩
theorem eap_p {σ : L2.St} {H : Hp} {te : TE} {tr : TA} {P : List V → Hp → Prop} {P0 : V → Hp → Prop} (h : EvP te σ H P0) (hm : ∀ v H1 H2, Ex H1 H2 → P0 v H1 → P0 v H2) (hr : EvAP tr σ H P) : EvAP (tCons te tr) σ H (fun vs H2 => ∃ v ws, vs = v :: ws ∧ P0 v H2 ∧ P ws H2) := fun H1 e Q q =>
  h H1 e _ fun v H2 e2 hv => hr H2 (e.trans e2) _ fun ws H3 e3 hP => q (v :: ws) H3 (e2.trans e3) ⟨v, ws, rfl, hm v _ _ e3 hv, hP⟩
theorem c_exch (F : HasD K mg "exchanged" sExchanged) : Cal P w K mg base CX0 1 "exchanged" ["rota", "index"] (spExch K) := by
  refine cal_of F scExchanged (fun vs H Q E ⟨_, _, _, _, _, e, _⟩ => by rw [e]; rfl) (fun _ _ _ _ _ _ us hl => match us, hl with | [_, _], _ => rfl) fun f cdv A outer s H vs Q E hr h => ?_
  obtain ⟨a, ρ, i, r, s, rfl, ha, hz, hr0, hs0, q⟩ := h
  refine ⟨_, (pss_one (ps_ret (pe_op (op_catA : OpR _ (binaryOp .Add) (rCatA K)) (pe_op (op_catA : OpR _ (binaryOp .Add) (rCatA K)) (pe_slice (sl_tupA : SlR _ (rSlA K)) (pv 0) po_none (po_some (pv 1))) (pe_tup (pa_cons (pe_ix (ix_tup : IxR _ (rIxT K)) (pv 0) (pe_op op_add (pv 1) pe_int) (fun _ _ => rfl)) (pa_cons (pe_ix (ix_tup : IxR _ (rIxT K)) (pv 0) (pv 1) (fun _ _ => rfl)) pa_nil)))) (pe_slice (sl_tupA : SlR _ (rSlA K)) (pv 0) (po_some (pe_op op_add (pv 1) pe_int)) po_none)))), ?_⟩
  have hd := dp_strs ha
  refine (ed_exch hr0 hs0 hz (ed_var rfl hd) (ev_var rfl) (ed_ix (i := i + 1) (ed_var rfl hd) (ev_op (ev_var rfl) ev_c rv_I0) (by rw [List.getElem?_map, hs0]; rfl)) (ed_ix (i := i) (ed_var rfl hd) (ev_var rfl) (by rw [List.getElem?_map, hr0]; rfl)) (ed_var rfl hd) (ev_op (ev_var rfl) ev_c rv_I0)) H (Ex.refl H) _ fun v H2 e2 hv => ?_
  obtain ⟨p, rfl, hp⟩ := dp_strsI hv
  exact q p H2 e2 hp
def spSwap (K : PySem.W.Frag) (C1 C2 C3 : Addr) : Sp := fun vs H Q E => ∃ (v u x : V) (dw dr di : PyData), vs = [v, u, x] ∧ Dp K H v dw ∧ Sm 3 dw ∧ Dp K H u dr ∧ Sm 1 dr ∧ Dp K H x di ∧
  ((webD dw = false ∧ ∀ H2, Ex H H2 → E (.ref C1) none H2) ∨
   (webD dw = true ∧ ∃ (a : Addr) (Pl : List Str) (R : List RdS), v = .ref a ∧ Gd K H a Pl R ∧
     ((rotaD (R.map (·.1)) dr = false ∧ ∀ H2, Ex H H2 → E (.ref C2) none H2) ∨
      (∃ ρ, dr = .tuple (ρ.map PyData.str) ∧ rotaD (R.map (·.1)) dr = true ∧ RP.Whole R ρ ∧
        ((idxD ρ.length di = false ∧ ∀ H2, Ex H H2 → E (.ref C3) none H2) ∨
         (∃ (i : Nat) (r s : Str), di = .int i ∧ ρ[i]? = some r ∧ ρ[i + 1]? = some s ∧
           ∀ p H2 vs, H p = none → Ex H H2 → H2 p = some (.lst vs) → Paired (IsDu K H2) vs (RP.due R Pl ρ (RP.swp ρ i r s)) → Q (.ref p) H2))))))
/-- the same, and which def it is -/
def CalK (P : Program) (w : World) (K : PySem.W.Frag) (mg : Str → Option Value) (base : Heap) (CX : CXT) (k : Nat) (x : Str) (st : Stmt) (ps : List Str) (sp : Sp) : Prop :=
  ∃ (f : Addr) (fd : FuncData), FnOk P w K mg base CX k f fd ps sp ∧ mg x = some (.ref f) ∧ PySem.W.keepIn K (.ref f) = true ∧ Binds K fd ps [] ∧ Fun K x x st f fd
theorem cal_ofXF {x : Str} {st : Stmt} {N ps : List Str} {k : Nat} {sp : Sp} (F : HasD K mg x st) (S : FnScope N ps (defScope st)) (len : ∀ vs H Q E, sp vs H Q E → vs.length = ps.length)
    (bd : ∀ (kV doc pm : Value) (an : Option Addr) (cdv ct : Value) (us : List Value), us.length = ps.length → bindArgs (PySem.W.fnOf x x (defArgs st) (defBody st) (defScope st) .none kV doc pm an cdv ct) ⟨us, []⟩ = pure (ps.zip us))
    (body : ∀ (f : Addr) (cdv : Value) (A : Around) (outer : List Env) (s : Shared) (H : Hp) (vs : List V) (Q : VK) (E : XK), Room k (A.deeper (envOfC x (defScope st) s.heap.objs.size f cdv)) → sp vs H Q E →
      ∃ t, PSs (cxOf (L2.CX P w) P w K mg base N x (defScope st) f cdv A outer s H E) (defBody st) t ∧ t { nx := fun _ H' => Q .non H', rt := Q } (start N vs) H) : CalK P w K mg base (L2.CX P w) (k + 1) x st ps sp := by
  obtain ⟨f, fd, F, g⟩ := F
  exact ⟨f, fd, F.okX S len fun cdv A outer s H vs Q E hr h => body f cdv A outer s H vs Q E hr h, g, F.kp, F.binds bd, F⟩
theorem c_swap {C1 C2 C3 : Addr} (Z : Frees mg) (hNeedWeb : Cal P w K mg base (L2.CX P w) 4 "need_web" ["web"] (spNeedWeb K C1)) (hNeedRota : Cal P w K mg base (L2.CX P w) 3 "need_rota" ["web", "rota"] (spNeedRota K C2)) (hNeedIndex : Cal P w K mg base (L2.CX P w) 2 "need_index" ["rota", "index"] (spNeedIndex K C3))
    (hDayRows : Cal P w K mg base CX0 5 "day_rows" ["web", "week"] (spRows K)) (hExchanged : Cal P w K mg base CX0 1 "exchanged" ["rota", "index"] (spExch K)) (F : HasD K mg "swap_days" sSwapDays) : CalK P w K mg base (L2.CX P w) 6 "swap_days" sSwapDays ["web", "rota", "index"] (spSwap K C1 C2 C3) := by
  obtain ⟨_, _, GNeedWeb, gNeedWeb, kNeedWeb, bNeedWeb⟩ := hNeedWeb
  obtain ⟨_, _, GNeedRota, gNeedRota, kNeedRota, bNeedRota⟩ := hNeedRota
  obtain ⟨_, _, GNeedIndex, gNeedIndex, kNeedIndex, bNeedIndex⟩ := hNeedIndex
  obtain ⟨_, _, GDayRows, gDayRows, kDayRows, bDayRows⟩ := hDayRows
  obtain ⟨_, _, GExchanged, gExchanged, kExchanged, bExchanged⟩ := hExchanged
  refine cal_ofXF F scSwapDays (fun vs H Q E ⟨_, _, _, _, _, _, e, _⟩ => by rw [e]; rfl) (fun _ _ _ _ _ _ us hl => match us, hl with | [_, _, _], _ => rfl) fun f cdv A outer s H vs Q E hr h => ?_
  obtain ⟨v, u, x, dw, dr, di, rfl, hdw, hsw, hdr, hsr, hdi, h⟩ := h
  refine ⟨_, (pss_cons (ps_expr (pe_call GNeedWeb (hr.mono (by decide)) (by rfl) gNeedWeb kNeedWeb bNeedWeb .nil (passes_call (takes_of rfl rfl rfl rfl) (fun _ _ _ _ h => h)) (pa_cons (pv 0) pa_nil)))
    (pss_cons (ps_expr (pe_call GNeedRota (hr.mono (by decide)) (by rfl) gNeedRota kNeedRota bNeedRota .nil (passes_call (takes_of rfl rfl rfl rfl) (fun _ _ _ _ h => h)) (pa_cons (pv 0) (pa_cons (pv 1) pa_nil))))
    (pss_cons (ps_expr (pe_call GNeedIndex (hr.mono (by decide)) (by rfl) gNeedIndex kNeedIndex bNeedIndex .nil (passes_call (takes_of rfl rfl rfl rfl) (fun _ _ _ _ h => h)) (pa_cons (pv 1) (pa_cons (pv 2) pa_nil))))
    (PSs.nox (pss_cons (ps_set (i := 3) scSwapDays.nd rfl (.inl rfl) (pe_call GDayRows (hr.mono (by decide)) (by rfl) gDayRows kDayRows bDayRows .nil pass0 (pa_cons (pv 0) (pa_cons (pe_tup (pa_cons (pv 1) pa_nil)) pa_nil))))
    (pss_cons (ps_set (i := 4) scSwapDays.nd rfl (.inl rfl) (pe_call GDayRows (hr.mono (by decide)) (by rfl) gDayRows kDayRows bDayRows .nil pass0 (pa_cons (pv 0) (pa_cons (pe_tup (pa_cons (pe_call GExchanged (hr.mono (by decide)) (by rfl) gExchanged kExchanged bExchanged .nil pass0 (pa_cons (pv 1) (pa_cons (pv 2) pa_nil))) pa_nil)) pa_nil))))
    (pss_cons (ps_set (i := 5) scSwapDays.nd rfl (.inl rfl) (pe_lst pa_nil))
    (pss_cons (ps_for PassesOwn.never rfl (pi_enumT (by rfl) Z.enumerate_ (pa_cons (pe_ix (ix_tup : IxR _ (rIxT K)) (pv 0) pe_int (fun _ _ => rfl)) pa_nil)) (pg_tup (n := 2) (by rfl) (pgs_cons (pg_name (i := 6) scSwapDays.nd rfl (.inl rfl)) (pgs_cons (pg_name (i := 7) scSwapDays.nd rfl (.inl rfl)) pgs_nil)))
      (pss_one (ps_for PassesOwn.never rfl (pi_enumT (by rfl) Z.enumerate_ (pa_cons (pe_ix (ix_tup : IxR _ (rIxT K)) (pv 0) pe_int (fun _ _ => rfl)) pa_nil)) (pg_tup (n := 2) (by rfl) (pgs_cons (pg_name (i := 8) scSwapDays.nd rfl (.inl rfl)) (pgs_cons (pg_name (i := 9) scSwapDays.nd rfl (.inl rfl)) pgs_nil)))
        (pss_one (ps_if (pt_cmpR op_ne (pe_ix (ix_list : IxR _ (rIxL K)) (pe_ix (ix_list : IxR _ (rIxL K)) (pv 3) (pv 6) (fun _ _ => rfl)) (pv 8) (fun _ _ => rfl)) (pe_ix (ix_list : IxR _ (rIxL K)) (pe_ix (ix_list : IxR _ (rIxL K)) (pv 4) (pv 6) (fun _ _ => rfl)) (pv 8) (fun _ _ => rfl)) (nomark _))
          (pss_one (ps_expr (pe_bm PySem.F.plainAttrs_list PySem.F.slot_list_append PySem.F.type_list_append mt_append (pv 5) (pa_cons (pe_tup (pa_cons (pv 7) (pa_cons (pv 9) (pa_cons (pe_op op_sub (pe_ix (ix_list : IxR _ (rIxL K)) (pe_ix (ix_list : IxR _ (rIxL K)) (pv 4) (pv 6) (fun _ _ => rfl)) (pv 8) (fun _ _ => rfl)) (pe_ix (ix_list : IxR _ (rIxL K)) (pe_ix (ix_list : IxR _ (rIxL K)) (pv 3) (pv 6) (fun _ _ => rfl)) (pv 8) (fun _ _ => rfl))) pa_nil)))) pa_nil)))) pss_nil)))))
    (pss_one (ps_ret (pv 5))))))))))), ?_⟩
  refine q_calld (E := E) (ea_cons (ev_var rfl) ea_nil) fun H1 e1 => ⟨v, dw, rfl, dp_mono e1 hdw, hsw, ?_⟩
  rcases h with ⟨hb, k⟩ | ⟨hgw, a, Pl, R, rfl, hg, h⟩
  · exact ⟨fun z => absurd z (by rw [hb]; decide), fun _ H2 e2 => k H2 (e1.trans e2)⟩
  refine ⟨fun _ H2 e2 => ?_, fun z => absurd z (by rw [hgw]; decide)⟩
  have hRl := hg.lenR
  have e02 := e1.trans e2
  refine q_calld (E := E) (ea_cons (ev_var rfl) (ea_cons (ev_var rfl) ea_nil)) fun H3 e3 => ⟨a, u, Pl, R, dr, rfl, hg.wb.mono (Tp.of (e02.trans e3)), by omega, dp_mono (e02.trans e3) hdr, hsr, ?_⟩
  rcases h with ⟨hb, k⟩ | ⟨ρ, rfl, hgr, hW, h⟩
  · exact ⟨fun z => absurd z (by rw [hb]; decide), fun _ H4 e4 => k H4 ((e02.trans e3).trans e4)⟩
  refine ⟨fun _ H4 e4 => ?_, fun z => absurd z (by rw [hgr]; decide)⟩
  have e04 := (e02.trans e3).trans e4
  obtain ⟨b, rfl, hb⟩ := dp_strsI hdr
  refine q_calld (E := E) (ea_cons (ev_var rfl) (ea_cons (ev_var rfl) ea_nil)) fun H5 e5 => ⟨b, x, ρ.map V.str, di, rfl, ex_t (e04.trans e5) hb, dp_mono (e04.trans e5) hdi, ?_⟩
  rw [List.length_map]
  rcases h with ⟨hbi, k⟩ | ⟨i, r, s', rfl, hr0, hs0, k⟩
  · exact ⟨fun z => absurd z (by rw [hbi]; decide), fun _ H6 e6 => k H6 ((e04.trans e5).trans e6)⟩
  have hil : i + 1 < ρ.length := (List.getElem?_eq_some_iff.mp hs0).1
  refine ⟨fun _ H6 e6 => ?_, fun z => absurd z (by
    have : idxD ρ.length (.int (i : Int)) = true := decide_eq_true ⟨by omega, by omega⟩
    rw [this]; decide)⟩
  cases hdi
  have e06 := (e04.trans e5).trans e6
  have hρ : ρ.length < 1000 := by
    have := RP.sub_len hW.ndr (fun r hr => hW.sub r hr)
    have hk : (RP.keys R).length = R.length := by simp [RP.keys]
    omega
  have hP := RP.swp_perm hr0 hs0
  have hW' : RP.Whole R (RP.swp ρ i r s') := hW.perm hP
  -- before
  refine q_callP (eap_v (ev_var rfl) (eap_u (eu_tup (ea_cons (ev_var rfl) ea_nil) (by simp)) eap_nil)) fun vs H7 e7 hvs => ?_
  obtain ⟨_, rfl, w1, _, rfl, hw1, rfl⟩ := hvs
  have e07 := e06.trans e7
  refine ⟨a, w1, b, Pl, ρ, R, rfl, hg.mono (Tp.of e07), st_of hw1, ex_t e07 hb, hW, hρ, fun bf H8 vB _ e8 hbf hB => ?_⟩
  have e08 := e07.trans e8
  -- behind
  refine q_callP (eap_v (ev_var rfl) (eap_p (ep_tup1 (ep_call (P0 := fun v H => ∃ p, v = .ref p ∧ SqT K H p ((RP.swp ρ i r s').map V.str)) (ea_cons (ev_var rfl) (ea_cons (ev_var rfl) ea_nil)) fun H9 e9 Q' k' => ⟨b, ρ, i, r, s', rfl, ex_t (e08.trans e9) hb, hρ, hr0, hs0, fun p H10 e10 hp => k' _ H10 e10 ⟨p, rfl, hp⟩⟩) (fun v H1 H2 e ⟨p, h1, h2⟩ => ⟨p, h1, ex_t e h2⟩)) (fun v H1 H2 e ⟨p, v', h1, h2, p', h3, h4⟩ => ⟨p, v', h1, e _ _ h2, p', h3, ex_t e h4⟩) eap_nil)) fun vs H9 e9 hvs => ?_
  obtain ⟨_, rfl, _, _, rfl, ⟨w2, _, rfl, hw2, b2, rfl, hb2⟩, rfl⟩ := hvs
  have e09 := e08.trans e9
  refine ⟨a, w2, b2, Pl, RP.swp ρ i r s', R, rfl, hg.mono (Tp.of e09), st_of hw2, hb2, hW', by rw [RP.swp_len hil]; exact hρ, fun bh H10 vA _ e10 hbh hA => ?_⟩
  have e010 := e09.trans e10
  -- found
  refine q_asgL (el_lst ea_nil (by simp)) fun fl H11 hfl e11 h11 => ?_
  have hPl := hg.lenP
  obtain ⟨ap, ar, rs, hwb, hap, _, _⟩ := (hg.mono (Tp.of (K := K) e010)).wb
  have hcell : ∀ (H' : Hp), Ex H10 H' → ∀ (i1 i2 : Nat) (p q : Str) (σ : L2.St), Pl[i1]? = some p → Pl[i2]? = some q → σ[3]? = some (some (.ref bf)) → σ[4]? = some (some (.ref bh)) → σ[6]? = some (some (.int i1)) → σ[8]? = some (some (.int i2)) →
      Ev (tOp (rIxL K) (tOp (rIxL K) (tVar 3) (tVar 6)) (tVar 8)) σ H' (optV (RP.dayOf R ρ Pl p q)) ∧ Ev (tOp (rIxL K) (tOp (rIxL K) (tVar 4) (tVar 6)) (tVar 8)) σ H' (optV (RP.dayOf R (RP.swp ρ i r s') Pl p q)) := by
    intro H' e i1 i2 p q σ hi1 hi2 h3 h4 h6 h8
    obtain ⟨x1, hx1, l1, rfl, hl1⟩ := paired_at hB hi1
    obtain ⟨x2, hx2, l2, rfl, hl2⟩ := paired_at hA hi1
    refine ⟨ev_op (ev_op (ev_var h3) (ev_var h6) (rv_ixL (sq_of (((e9.trans e10).trans e) _ _ hbf)) (atI_nat hx1))) (ev_var h8) (rv_ixL (sq_of (((e9.trans e10).trans e) _ _ hl1)) (atI_nat ?_)), ev_op (ev_op (ev_var h4) (ev_var h6) (rv_ixL (sq_of (e _ _ hbh)) (atI_nat hx2))) (ev_var h8) (rv_ixL (sq_of (e _ _ hl2)) (atI_nat ?_))⟩
    · rw [rowV, List.getElem?_map, hi2]; rfl
    · rw [rowV, List.getElem?_map, hi2]; rfl
  have hbound : ∀ n m : Nat, n ≤ Pl.length → m ≤ Pl.length → ∀ p, (((Pl.take n).flatMap fun p => Pl.filterMap fun q => RP.cell R Pl ρ (RP.swp ρ i r s') p q) ++ (Pl.take m).filterMap fun q => RP.cell R Pl ρ (RP.swp ρ i r s') p q).length < 100000 := by
    intro n m hn hm p
    have h1 : ∀ l : List Str, (l.flatMap fun p => Pl.filterMap fun q => RP.cell R Pl ρ (RP.swp ρ i r s') p q).length ≤ l.length * 10 := by
      intro l
      induction l with
      | nil => simp
      | cons a t ih =>
        rw [List.flatMap_cons, List.length_append, List.length_cons]
        have := List.length_filterMap_le (fun q => RP.cell R Pl ρ (RP.swp ρ i r s') a q) Pl
        omega
    have h2 := h1 (Pl.take n)
    have h3 := List.length_filterMap_le (fun q => RP.cell R Pl ρ (RP.swp ρ i r s') p q) (Pl.take m)
    rw [List.length_append]
    rw [List.length_take] at h2 h3
    omega
  refine q_of (s_forE (xs := Pl.map V.str) (ev_web0 (ev_var rfl) (ex_t e11 hwb)) (ex_t e11 hap.sq)
    (fun n σ' H' => ∃ (vs : List V) (o1 o2 o3 o4 : Option V), σ' = [some (.ref a), some (.ref b), some (.int i), some (.ref bf), some (.ref bh), some (.ref fl), o1, o2, o3, o4] ∧ Ex H10 H' ∧ H' fl = some (.lst vs) ∧ Paired (IsDu K H') vs ((Pl.take n).flatMap fun p => Pl.filterMap fun q => RP.cell R Pl ρ (RP.swp ρ i r s') p q))
    (fun H12 e12 => ⟨[], none, none, none, none, rfl, e11.trans e12, e12 _ _ h11, .nil⟩) (fun n σ' H' _ ⟨_, _, _, _, _, _, e, _⟩ => ex_t e hap.sq) ?_ ?_)
  · rintro n x σ' H' H12 hx ⟨vs, o1, o2, o3, o4, rfl, e12, h12, hP12⟩ e12'
    rw [List.getElem?_map] at hx
    cases hpn : Pl[n]? with
    | none => rw [hpn] at hx; cases hx
    | some p =>
    rw [hpn] at hx
    cases hx
    have hnl : n < Pl.length := (List.getElem?_eq_some_iff.mp hpn).1
    refine s_forE (xs := Pl.map V.str) (ev_web0 (ev_var rfl) (ex_t (e12.trans e12') hwb)) (ex_t (e12.trans e12') hap.sq)
      (fun m σ' H' => ∃ (vs : List V) (o3 o4 : Option V), σ' = [some (.ref a), some (.ref b), some (.int i), some (.ref bf), some (.ref bh), some (.ref fl), some (.int n), some (.str p), o3, o4] ∧ Ex H10 H' ∧ H' fl = some (.lst vs) ∧ Paired (IsDu K H') vs (((Pl.take n).flatMap fun p => Pl.filterMap fun q => RP.cell R Pl ρ (RP.swp ρ i r s') p q) ++ (Pl.take m).filterMap fun q => RP.cell R Pl ρ (RP.swp ρ i r s') p q))
      (fun H13 e13 => ⟨vs, o3, o4, rfl, (e12.trans e12').trans e13, (e12'.trans e13) _ _ h12, by
        simpa using paired_mono hP12 fun v e h => h.mono (Tp.of (e12'.trans e13))⟩) (fun m σ' H' _ ⟨_, _, _, _, e, _⟩ => ex_t e hap.sq) ?_ ?_
    · rintro m x σ' H' H13 hx ⟨vs, o3, o4, rfl, e13, h13, hP13⟩ e13'
      rw [List.getElem?_map] at hx
      cases hqm : Pl[m]? with
      | none => rw [hqm] at hx; cases hx
      | some q =>
      rw [hqm] at hx
      cases hx
      have hml : m < Pl.length := (List.getElem?_eq_some_iff.mp hqm).1
      obtain ⟨c1, c2⟩ := hcell H13 (e13.trans e13') n m p q [some (.ref a), some (.ref b), some (.int i), some (.ref bf), some (.ref bh), some (.ref fl), some (.int n), some (.str p), some (.int m), some (.str q)] hpn hqm rfl rfl rfl rfl
      have htk : (Pl.take (m + 1)).filterMap (fun q => RP.cell R Pl ρ (RP.swp ρ i r s') p q) = (Pl.take m).filterMap (fun q => RP.cell R Pl ρ (RP.swp ρ i r s') p q) ++ (RP.cell R Pl ρ (RP.swp ρ i r s') p q).toList := by
        rw [List.take_add_one, hqm, List.filterMap_append]
        cases hc : RP.cell R Pl ρ (RP.swp ρ i r s') p q <;> simp [hc]
      have hsome := RP.dayOf_some hW hW' hg.inP (List.mem_of_getElem? hpn) q
      have hlenv := paired_len hP13
      have hbd := hbound n m (Nat.le_of_lt hnl) (Nat.le_of_lt hml) p
      generalize hd1 : RP.dayOf R ρ Pl p q = d1 at *
      generalize hd2 : RP.dayOf R (RP.swp ρ i r s') Pl p q = d2 at *
      refine s_when (et_test (ev_op c1 c2 (rv_ne (by cases d1 <;> cases d2 <;> rfl)))) (fun hbt H14 e14 => ?_) (fun hbt H14 e14 => ?_)
      · have hne : ¬ d1 = d2 := fun z => by
          rw [z] at hbt
          simp at hbt
        obtain ⟨n1, rfl⟩ : ∃ n1, d1 = some n1 := by
          cases d1 with
          | none =>
            cases d2 with
            | none => exact absurd rfl hne
            | some _ => cases hsome
          | some n1 => exact ⟨n1, rfl⟩
        obtain ⟨n2, rfl⟩ : ∃ n2, d2 = some n2 := Option.isSome_iff_exists.mp (hsome.symm.trans rfl)
        have hc : RP.cell R Pl ρ (RP.swp ρ i r s') p q = some (p, q, (n2 : Int) - (n1 : Int)) := by
          unfold RP.cell
          rw [hd1, hd2, if_neg hne]
          rfl
        refine s_appU ((e13'.trans e14) _ _ h13) (ev_var rfl) (eu_tup (ea_cons (ev_var rfl) (ea_cons (ev_var rfl) (ea_cons (ev_op (c2.mono e14) (c1.mono e14) rv_I0) ea_nil))) (by simp)) (by rw [hlenv]; exact hbd) fun t H15 ht e15 h15 => ?_
        have tp : Tp K H15 (L2.upd H15 fl (.lst (vs ++ [.ref t]))) := Tp.lst ((e13'.trans (e14.trans e15)) _ _ h13)
        refine ⟨_, _, _, rfl, Ex.mut ((e13.trans e13').trans (e14.trans e15)) hfl, upd_same, ?_⟩
        rw [htk, hc, ← List.append_assoc]
        exact paired_snoc (paired_mono hP13 fun v e h => h.mono ((Tp.of (e13'.trans (e14.trans e15))).trans tp)) ⟨t, rfl, tp.1 _ _ (st_of h15)⟩
      · have heq : d1 = d2 := by
          cases d1 with
          | none =>
            cases d2 with
            | none => rfl
            | some _ => cases hsome
          | some n1 =>
            cases d2 with
            | none => cases hsome
            | some n2 =>
              by_cases z : n1 = n2
              · rw [z]
              · have z2 : decide (optV (some n1) = optV (some n2)) = false := decide_eq_false fun w => z (by
                  have := V.int.inj w
                  omega)
                rw [z2] at hbt
                simp at hbt
        have hc : RP.cell R Pl ρ (RP.swp ρ i r s') p q = none := by
          unfold RP.cell
          rw [hd1, hd2, if_pos heq]
        refine ⟨vs, _, _, rfl, (e13.trans e13').trans e14, (e13'.trans e14) _ _ h13, ?_⟩
        rw [htk, hc]
        simpa using paired_mono hP13 fun v e h => h.mono (Tp.of (e13'.trans e14))
    · rintro σ' H' ⟨vs, o3, o4, rfl, e13, h13, hP13⟩
      rw [List.length_map, List.take_length] at hP13
      refine ⟨vs, _, _, _, _, rfl, e13, h13, ?_⟩
      rw [List.take_add_one, hpn, List.flatMap_append]
      simpa using hP13
  · rintro σ' H' ⟨vs, o1, o2, o3, o4, rfl, e12, h12, hP12⟩
    rw [List.length_map, List.take_length] at hP12
    refine s_ret (ev_var rfl) fun H13 e13 => ?_
    exact k fl H13 vs (fresh_back e010 hfl) ((e010.trans e12).trans e13) (e13 _ _ h12) (paired_mono hP12 fun v e h => h.mono (Tp.of e13))
end
end RW
end

section
set_option maxRecDepth 100000
set_option maxHeartbeats 4000000
/-! the walk of the law's draws -/
namespace RW
open PySem PySem.Spec PyProof.Rows L2 Evl

/-- the feed: what is left of the number, the seed, how many were drawn -/
def Feed (F : Addr) (H : Hp) (n : Nat) : Prop := ∃ (x y : Int) (c : Nat), H F = some (.lst [.int x, .int y, .int c]) ∧ 0 ≤ x ∧ 0 ≤ y ∧ y < 10 ^ 39 + 23 ∧ c ≤ n
section
variable {F l : Addr} {H H' : Hp} {n m : Nat} {o : HO}
theorem Feed.mono (h : Feed F H n) (e : Ex H H') : Feed F H' n := let ⟨x, y, c, h1, h2⟩ := h; ⟨x, y, c, e _ _ h1, h2⟩
theorem Feed.le (h : Feed F H n) (e : n ≤ m) : Feed F H m := let ⟨x, y, c, h1, h2, h3, h4, h5⟩ := h; ⟨x, y, c, h1, h2, h3, h4, Nat.le_trans h5 e⟩
theorem Feed.upd (h : Feed F H n) (hl : l ≠ F) : Feed F (L2.upd H l o) n := let ⟨x, y, c, h1, h2⟩ := h; ⟨x, y, c, by rw [upd_ne (fun z => hl z.symm)]; exact h1, h2⟩
theorem Feed.ne (h : Feed F H n) (hl : H l = none) : l ≠ F := fun z => by
  subst z
  obtain ⟨x, y, c, h1, _⟩ := h
  rw [hl] at h1
  cases h1
theorem Feed.tp {K : PySem.W.Frag} (h : Feed F H n) (b : But F H H') : Tp K H H' := let ⟨_, _, _, h1, _⟩ := h; Tp.but b h1
theorem Feed.free (h : Feed F H n) (b : But F H H') (hl : H' l = none) (h2 : Feed F H' m) : H l = none := b.free (h2.ne hl) hl
end
section
variable {K : PySem.W.Frag} {σ : L2.St} {H : Hp} {ta te : TE}
def rInt1 : List V → Hp → VK → Prop := fun xs H Q => (∃ i, xs = [.int i] ∧ Q (.int i) H) ∨ ∃ k, xs = [.bl k] ∧ Q (.int (if k then 1 else 0)) H
theorem ev_int {i : Int} (h : Ev ta σ H (.int i)) : Ev (tCB rInt1 (tCons ta tNil)) σ H (.int i) := fun H1 e Q q => h H1 e _ fun H2 e2 => .inl ⟨i, rfl, q H2 e2⟩
theorem ev_sumN {ns : List Int} (h : EvL ta σ H (ns.map V.int)) : Ev (tCB (rSum K) (tCons ta tNil)) σ H (.int ns.sum) := fun H1 e Q q => h H1 e _ fun p H2 _ e2 hp => ⟨p, ns, rfl, sq_of hp, q H2 e2⟩
theorem rv_pow {i : Int} {k : Nat} (h : i.natAbs < 2 ^ 64) (hk : k ≤ 1000000) : RV (rI CPow fun i j => .int (i ^ j.toNat)) (.int i) (.int (k : Nat)) H (.int (i ^ k)) := rv_I (g := fun i j => .int (i ^ j.toNat)) (j := (k : Nat)) ⟨by omega, by omega, h⟩
theorem rv_mod {i j : Int} (h : 0 < j) : RV (rI (fun _ j => 0 < j) fun i j => .int (i % j)) (.int i) (.int j) H (.int (i % j)) := rv_I (g := fun i j => .int (i % j)) (C := fun _ j => 0 < j) h
theorem rv_fdiv {i j : Int} (h : 0 < j ∧ j < 1073741824) : RV (rI CDiv fun i j => .int (i / j)) (.int i) (.int j) H (.int (i / j)) := rv_I (g := fun i j => .int (i / j)) h
theorem rv_mul {i j : Int} (h : (-(2 ^ 64) < i ∧ i < 2 ^ 64) ∨ (-(2 ^ 64) < j ∧ j < 2 ^ 64)) : RV (rI CMul fun i j => .int (i * j)) (.int i) (.int j) H (.int (i * j)) := rv_I (g := fun i j => .int (i * j)) h
end
section
variable {P : Program} {w : World} {K : PySem.W.Frag} {mg : Str → Option Value} {base : Heap}
def spFeed (K : PySem.W.Frag) : Sp := fun vs H Q _ => ∃ (a : Addr) (ns : List Int) (k : Nat), vs = [.ref a, .int k] ∧ SqL K H a (ns.map V.int) ∧ k < 1000 ∧ ∀ p H2, H p = none → Ex H H2 → Feed p H2 0 → Q (.ref p) H2
theorem c_feed (Z : Frees mg) (F : HasD K mg "_law_feed" sWFeed) : Cal P w K mg base CX0 1 "_law_feed" ["_law_script", "_law_k"] (spFeed K) := by
  refine cal_of F scWFeed (fun vs H Q E ⟨_, _, _, e, _⟩ => by rw [e]; rfl) (fun _ _ _ _ _ _ us hl => match us, hl with | [_, _], _ => rfl) fun f cdv A outer s H vs Q E hr h => ?_
  obtain ⟨a, ns, k, rfl, ha, hk, q⟩ := h
  refine ⟨_, (pss_cons (ps_set (i := 2) scWFeed.nd rfl (.inl rfl) (pe_op op_add (pe_op op_mul pe_int (pv 1)) (pe_callB (cr_sum rfl : CallR _ (.builtin "sum") (rSum K)) (by rfl) Z.sum_ (by decide +kernel) (pa_cons (pe_slice (sl_list : SlR _ (rSlL K)) (pv 0) po_none (po_some pe_int)) pa_nil))))
    (pss_cons (ps_if (pt_cmpR op_lt (pv 1) (pe_callB (call_len_seq : CallR _ (.builtin "len") (Evl.rLenS K)) (by rfl) Z.len_ PySem.boot_len (pa_cons (pv 0) pa_nil)) (nomark _))
      (pss_one (ps_set (i := 2) scWFeed.nd rfl (.inl rfl) (pe_ix (ix_list : IxR _ (rIxL K)) (pv 0) (pv 1) (fun _ _ => rfl)))) pss_nil)
    (pss_one (ps_ret (pe_lst (pa_cons (pe_callB (call_max2 rfl : CallR _ (.builtin "max") Evl.rMax2) (by rfl) Z.max_ (by decide +kernel) (pa_cons pe_int (pa_cons (pe_op op_sub (pv 2) (pe_op op_pow pe_int pe_int)) pa_nil))) (pa_cons (pe_op op_mod (pe_callTy call_int1 (by rfl) Z.int_ (by decide +kernel) (pa_cons (pe_op op_add (pe_op op_mul (pv 2) pe_int) (pe_op op_mul pe_int (pv 1))) pa_nil)) (pe_op op_add (pe_op op_pow pe_int pe_int) pe_int)) (pa_cons pe_int pa_nil)))))))), ?_⟩
  refine q_asg (ev_op (ev_op ev_c (ev_var rfl) (rv_mul (i := 977) (j := k) (.inl (by decide)))) (ev_sumN (ns := ns.take 1) (by
    have := el_sl (K := K) (xs := ns.map V.int) (te := tVar 0) (σ := start nWFeed [.ref a, .int k]) (ev_var rfl) eo_none (eo_some (i := 1) ev_c) ha
    rw [show cutV (ns.map V.int) none (some 1) = (ns.take 1).map V.int from (cut_pre (ns.map V.int) 1).trans (List.map_take).symm] at this
    exact this)) rv_I0) fun H1 e1 => ?_
  have tail : ∀ (cell : Int) (σ1 : L2.St), σ1 = [some (.ref a), some (.int k), some (.int cell)] → ∀ H2, Ex H H2 → ∀ p H3, H2 p = none → Ex H2 H3 → H3 p = some (.lst [.int (if cell - 10 ^ 18 > 0 then cell - 10 ^ 18 else 0), .int ((cell * 19 + 7 * k) % (10 ^ 39 + 23)), .int 0]) → Q (.ref p) H3 := fun cell σ1 _ H2 e p H3 hp e3 h3 => by
    refine q p H3 (fresh_back e hp) (e.trans e3) ⟨_, _, 0, h3, ?_, ?_, ?_, Nat.le_refl _⟩
    · split <;> omega
    · exact Int.emod_nonneg _ (by decide)
    · exact Int.emod_lt_of_pos _ (by decide)
  refine q_ifAsg (v := .int (if h : k < ns.length then ns[k] else 977 * (k : Int) + (ns.take 1).sum)) (et_test (ev_op (ev_var rfl) (ev_len (ev_var rfl) (ex_l e1 ha)) rv_I0)) (fun hb => ?_) (fun hb => ?_) fun H2 e2 => ?_
  · have hlt : k < ns.length := by
      have := of_decide_eq_true hb
      rw [List.length_map] at this
      omega
    rw [dif_pos hlt]
    exact ev_op (ev_var rfl) (ev_var rfl) (rv_ixL (ex_l e1 ha) (v := .int ns[k]) (atI_nat (by simp [hlt])))
  · have hlt : ¬ k < ns.length := fun z => by
      have := of_decide_eq_false hb
      rw [List.length_map] at this
      omega
    rw [dif_neg hlt]
    rfl
  · generalize (if h : k < ns.length then ns[k] else 977 * (k : Int) + (ns.take 1).sum) = cell
    refine s_retL (el_lst (ea_cons (ev_max2 ev_c (ev_op (ev_var rfl) (ev_op ev_c ev_c (rv_pow (i := 10) (k := 18) (by decide) (by decide))) rv_I0)) (ea_cons (ev_op (ev_int (ev_op (ev_op (ev_var rfl) ev_c (rv_mul (i := cell) (j := 19) (.inr (by decide)))) (ev_op ev_c (ev_var rfl) (rv_mul (i := 7) (j := k) (.inl (by decide)))) rv_I0)) (ev_op (ev_op ev_c ev_c (rv_pow (i := 10) (k := 39) (by decide) (by decide))) ev_c rv_I0) (rv_mod (j := 10 ^ 39 + 23) (by decide))) (ea_cons ev_c ea_nil))) (by simp)) fun p H3 hp e3 h3 => tail cell _ rfl H2 (e1.trans e2) p H3 hp e3 h3
end
end RW
end

section
set_option maxRecDepth 100000
set_option maxHeartbeats 4000000
/-! the walk of the law's draws: draw, one, mixed -/
namespace RW
open PySem PySem.Spec PyProof.Rows L2 Evl

section
variable {P : Program} {w : World} {K : PySem.W.Frag} {mg : Str → Option Value} {base : Heap}
def spDraw : Sp := fun vs H Q _ => ∃ (F : Addr) (m : Int) (n : Nat), vs = [.ref F, .int m] ∧ 0 < m ∧ m < 1073741824 ∧ Feed F H n ∧ n ≤ 1000000 ∧ ∀ (g : Int) H2, But F H H2 → Feed F H2 (n + 1) → 0 ≤ g → g < m → Q (.int g) H2
theorem rv_mulW {H : Hp} {i j : Int} {a b : Nat} (ha : i.natAbs < 2 ^ a) (hb : j.natAbs < 2 ^ b) (h0 : 0 < a) (h1 : 0 < b) (h : a + b ≤ 1000000) : RV (rI CMulW fun i j => .int (i * j)) (.int i) (.int j) H (.int (i * j)) := rv_I (g := fun i j => .int (i * j)) (wide_mul ha hb h0 h1 h)
theorem c_draw (Z : Frees mg) (F : HasD K mg "_law_draw" sWDraw) : Cal P w K mg base CX0 1 "_law_draw" ["_law_feed_here", "_law_many"] spDraw := by
  refine cal_of F scWDraw (fun vs H Q E ⟨_, _, _, e, _⟩ => by rw [e]; rfl) (fun _ _ _ _ _ _ us hl => match us, hl with | [_, _], _ => rfl) fun f cdv A outer s H vs Q E hr h => ?_
  obtain ⟨F, m, n, rfl, hm, hm2, ⟨x, y, c, hF, hx, hy, hy2, hc⟩, hn, q⟩ := h
  refine ⟨_, (pss_cons (ps_if (pt_cmpR op_gt (pe_ix (ix_list : IxR _ (rIxL K)) (pv 0) pe_int (fun _ _ => rfl)) pe_int (nomark _))
      (pss_cons (ps_set (i := 2) scWDraw.nd rfl (.inl rfl) (pe_op op_fdiv (pe_ix (ix_list : IxR _ (rIxL K)) (pv 0) pe_int (fun _ _ => rfl)) (pv 1)))
      (pss_cons (ps_set (i := 3) scWDraw.nd rfl (.inl rfl) (pe_op op_sub (pe_ix (ix_list : IxR _ (rIxL K)) (pv 0) pe_int (fun _ _ => rfl)) (pe_op op_mul (pv 2) (pv 1))))
      (pss_cons (ps_asg (pv 2) (pg_sub (pv 0) pe_int set_list))
      (pss_one (ps_ret (pv 3)))))) pss_nil)
    (pss_cons (ps_asg (pe_op op_add (pe_ix (ix_list : IxR _ (rIxL K)) (pv 0) pe_int (fun _ _ => rfl)) pe_int) (pg_sub (pv 0) pe_int set_list))
    (pss_cons (ps_set (i := 4) scWDraw.nd rfl (.inl rfl) (pe_op op_add (pe_ix (ix_list : IxR _ (rIxL K)) (pv 0) pe_int (fun _ _ => rfl)) (pe_op op_mul pe_int (pe_ix (ix_list : IxR _ (rIxL K)) (pv 0) pe_int (fun _ _ => rfl)))))
    (pss_cons (ps_set (i := 4) scWDraw.nd rfl (.inl rfl) (pe_op op_mod (pe_callTy call_int1 (by rfl) Z.int_ (by decide +kernel) (pa_cons (pe_op op_add (pe_op op_mulW (pe_op op_mulW (pv 4) (pv 4)) (pv 4)) (pe_op op_mul pe_int (pe_ix (ix_list : IxR _ (rIxL K)) (pv 0) pe_int (fun _ _ => rfl)))) pa_nil)) (pe_op op_add (pe_op op_pow pe_int pe_int) pe_int)))
    (pss_cons (ps_set (i := 4) scWDraw.nd rfl (.inl rfl) (pe_op op_mod (pe_callTy call_int1 (by rfl) Z.int_ (by decide +kernel) (pa_cons (pe_op op_add (pe_op op_mulW (pv 4) (pv 4)) pe_int) pa_nil)) (pe_op op_add (pe_op op_pow pe_int pe_int) pe_int)))
    (pss_one (ps_ret (pe_op op_mod (pe_callTy call_int1 (by rfl) Z.int_ (by decide +kernel) (pa_cons (pe_op op_fdiv (pv 4) (pe_op op_pow pe_int pe_int)) pa_nil)) (pv 1))))))))), ?_⟩
  refine q_when (et_test (ev_op (ev_op (ev_var rfl) ev_c (rv_ixL (sq_of hF) (v := .int x) rfl)) ev_c rv_I0)) (fun hb H1 e1 => ?_) (fun hb H1 e1 => ?_)
  · have h1 := e1 _ _ hF
    refine q_asg (ev_op (ev_op (ev_var rfl) ev_c (rv_ixL (sq_of h1) (v := .int x) rfl)) (ev_var rfl) (rv_fdiv ⟨hm, hm2⟩)) fun H2 e2 => ?_
    have h2 := e2 _ _ h1
    refine q_asg (ev_op (ev_op (ev_var rfl) ev_c (rv_ixL (sq_of h2) (v := .int x) rfl)) (ev_op (ev_var rfl) (ev_var rfl) (rv_mul (i := x / m) (j := m) (.inr ⟨by omega, by omega⟩))) rv_I0) fun H3 e3 => ?_
    have h3 := e3 _ _ h2
    refine q_of (s_setL (j := 0) h3 (ev_var rfl) (ev_var rfl) ev_c (by simp) fun H4 e4 => ?_)
    refine s_ret (ev_var rfl) fun H5 e5 => ?_
    have hg : x - x / m * m = x % m := by
      have := Int.emod_def x m
      rw [Int.mul_comm m] at this
      omega
    rw [hg]
    refine q _ H5 ?_ (Feed.mono ⟨_, y, c, upd_same, Int.ediv_nonneg hx (by omega), hy, hy2, by omega⟩ e5) (Int.emod_nonneg _ (by omega)) (Int.emod_lt_of_pos _ hm)
    exact ((But.of (((e1.trans e2).trans e3).trans e4)).upd).trans (But.of e5)
  · have h1 := e1 _ _ hF
    refine q_of (s_setL (j := 2) h1 (ev_op (ev_op (ev_var rfl) ev_c (rv_ixL (sq_of h1) (v := .int c) rfl)) ev_c rv_I0) (ev_var rfl) ev_c (by simp) fun H2 e2 => ?_)
    have h2 : (upd H2 F (.lst ([V.int x, .int y, .int c].set 2 (.int ((c : Int) + 1))))) F = some (.lst [V.int x, .int y, .int ((c + 1 : Nat) : Int)]) := upd_same
    have b2 : But F H (upd H2 F (.lst ([V.int x, .int y, .int c].set 2 (.int ((c : Int) + 1))))) := (But.of (e1.trans e2)).upd
    generalize upd H2 F (.lst ([V.int x, .int y, .int c].set 2 (.int ((c : Int) + 1)))) = H3 at h2 b2
    refine q_asg (ev_op (ev_op (ev_var rfl) ev_c (rv_ixL (sq_of h2) (v := .int y) rfl)) (ev_op ev_c (ev_op (ev_var rfl) ev_c (rv_ixL (sq_of h2) (v := .int ((c + 1 : Nat) : Int)) rfl)) (rv_mul (i := 6700417) (.inl (by decide)))) rv_I0) fun H4 e4 => ?_
    have hs : (y + 6700417 * ((c + 1 : Nat) : Int)).natAbs < 2 ^ 140 := by
      have : y + 6700417 * ((c + 1 : Nat) : Int) < 2 ^ 140 := by omega
      omega
    generalize y + 6700417 * ((c + 1 : Nat) : Int) = s1 at hs
    have h4 := e4 _ _ h2
    have hss := wide_lt hs hs
    refine q_asg (ev_op (ev_int (ev_op (ev_op (ev_op (ev_var rfl) (ev_var rfl) (rv_mulW hs hs (by decide) (by decide) (by decide))) (ev_var rfl) (rv_mulW hss hs (by decide) (by decide) (by decide))) (ev_op ev_c (ev_op (ev_var rfl) ev_c (rv_ixL (sq_of h4) (v := .int ((c + 1 : Nat) : Int)) rfl)) (rv_mul (i := 15485863) (.inl (by decide)))) rv_I0)) (ev_op (ev_op ev_c ev_c (rv_pow (i := 10) (k := 43) (by decide) (by decide))) ev_c rv_I0) (rv_mod (j := 10 ^ 43 + 57) (by decide))) fun H5 e5 => ?_
    have hb2 : ((s1 * s1 * s1 + 15485863 * ((c + 1 : Nat) : Int)) % (10 ^ 43 + 57)).natAbs < 2 ^ 144 := by
      have h1 := Int.emod_nonneg (s1 * s1 * s1 + 15485863 * ((c + 1 : Nat) : Int)) (show (10 : Int) ^ 43 + 57 ≠ 0 by decide)
      have h2 := Int.emod_lt_of_pos (s1 * s1 * s1 + 15485863 * ((c + 1 : Nat) : Int)) (show (0 : Int) < 10 ^ 43 + 57 by decide)
      have h3 : (10 : Int) ^ 43 + 57 < 2 ^ 144 := by decide
      omega
    generalize (s1 * s1 * s1 + 15485863 * ((c + 1 : Nat) : Int)) % (10 ^ 43 + 57) = s2 at hb2
    refine q_asg (ev_op (ev_int (ev_op (ev_op (ev_var rfl) (ev_var rfl) (rv_mulW hb2 hb2 (by decide) (by decide) (by decide))) ev_c rv_I0)) (ev_op (ev_op ev_c ev_c (rv_pow (i := 10) (k := 38) (by decide) (by decide))) ev_c rv_I0) (rv_mod (j := 10 ^ 38 + 133) (by decide))) fun H6 e6 => ?_
    generalize (s2 * s2 + 32452843) % (10 ^ 38 + 133) = s3
    refine s_ret (ev_op (ev_int (ev_op (ev_var rfl) (ev_op ev_c ev_c (rv_pow (i := 10) (k := 9) (by decide) (by decide))) (rv_fdiv (j := 10 ^ 9) (by decide)))) (ev_var rfl) (rv_mod hm)) fun H7 e7 => ?_
    refine q _ H7 (b2.trans (But.of (((e4.trans e5).trans e6).trans e7))) ⟨x, y, c + 1, (((e4.trans e5).trans e6).trans e7) _ _ h2, hx, hy, hy2, by omega⟩ (Int.emod_nonneg _ (by omega)) (Int.emod_lt_of_pos _ hm)
end
end RW
end

section
set_option maxRecDepth 100000
set_option maxHeartbeats 4000000
/-! the walk of the law's draws: one, mixed, names, rota -/
namespace RW
open PySem PySem.Spec PyProof.Rows L2 Evl

section
variable {K : PySem.W.Frag} {σ : L2.St} {H : Hp} {ta : TA} {E : XK} {Q : VK} {F : Addr} {m : Int} {n : Nat}
theorem draw_go (h : EvA ta σ H [.ref F, .int m]) (hm : 0 < m) (hm2 : m < 1073741824) (hF : Feed F H n) (hn : n ≤ 1000000) (k : ∀ (g : Nat) H2, But F H H2 → Feed F H2 (n + 1) → (g : Int) < m → Q (.int (g : Int)) H2) : tCall spDraw [] E ta σ H Q := h H (Ex.refl H) _ fun H1 e1 => by
  show spDraw ([.ref F, .int m] ++ []) H1 _ E
  rw [List.append_nil]
  refine ⟨F, m, n, rfl, hm, hm2, hF.mono e1, hn, fun g H2 b hf h0 hg => ?_⟩
  obtain ⟨g, rfl⟩ := Int.eq_ofNat_of_zero_le h0
  exact k g H2 ((But.of e1).trans b) hf hg
end
section
variable {P : Program} {w : World} {K : PySem.W.Frag} {mg : Str → Option Value} {base : Heap}
def spOne : Sp := fun vs H Q _ => ∃ (F l : Addr) (xs : List V) (n : Nat), vs = [.ref F, .ref l] ∧ H l = some (.lst xs) ∧ l ≠ F ∧ 0 < xs.length ∧ xs.length < 100000 ∧ Feed F H n ∧ n ≤ 1000000 ∧ ∀ (i : Nat) v H2, But F H H2 → Feed F H2 (n + 1) → xs[i]? = some v → Q v H2
theorem c_one (Z : Frees mg) (hWDraw : Cal P w K mg base CX0 1 "_law_draw" ["_law_feed_here", "_law_many"] spDraw) (F : HasD K mg "_law_one" sWOne) : Cal P w K mg base CX0 2 "_law_one" ["_law_feed_here", "_law_things"] spOne := by
  obtain ⟨_, _, GWDraw, gWDraw, kWDraw, bWDraw⟩ := hWDraw
  refine cal_of F scWOne (fun vs H Q E ⟨_, _, _, _, e, _⟩ => by rw [e]; rfl) (fun _ _ _ _ _ _ us hl => match us, hl with | [_, _], _ => rfl) fun f cdv A outer s H vs Q E hr h => ?_
  obtain ⟨F, l, xs, n, rfl, hl, hlF, h0, hz, hf, hn, q⟩ := h
  refine ⟨_, (pss_one (ps_ret (pe_ix (ix_list : IxR _ (rIxL K)) (pv 1) (pe_call GWDraw (hr.mono (by decide)) (by rfl) gWDraw kWDraw bWDraw .nil pass0 (pa_cons (pv 0) (pa_cons (pe_callB (call_len_seq : CallR _ (.builtin "len") (Evl.rLenS K)) (by rfl) Z.len_ PySem.boot_len (pa_cons (pv 1) pa_nil)) pa_nil))) (fun _ _ => rfl)))), ?_⟩
  refine ⟨_, rfl, draw_go (ea_cons (ev_var rfl) (ea_cons (ev_len (ev_var rfl) (sq_of hl)) ea_nil)) (by omega) (by omega) hf hn fun g H2 b hf2 hg => ?_⟩
  have hg' : g < xs.length := by omega
  exact ⟨l, xs, (g : Nat), xs[g], rfl, rfl, sq_of (b _ _ hlF hl), atI_nat (by simp [hg']), q g _ H2 b hf2 (by simp [hg'])⟩

def spMixed : Sp := fun vs H Q _ => ∃ (F l : Addr) (xs : List V) (n : Nat), vs = [.ref F, .ref l] ∧ H l = some (.lst xs) ∧ l ≠ F ∧ xs.length < 1000 ∧ Feed F H n ∧ n ≤ 500000 ∧
  ∀ p H2 ys, H p = none → But F H H2 → Feed F H2 (n + xs.length) → H2 p = some (.lst ys) → ys.Perm xs → Q (.ref p) H2
theorem erase_perm : ∀ (k : Nat) {xs : List V} {y : V}, xs[k]? = some y → (y :: xs.eraseIdx k).Perm xs
  | _, [], _, h => by simp at h
  | 0, x :: t, y, h => by
    simp at h
    subst h
    exact List.Perm.refl _
  | k + 1, x :: t, y, h => by
    have ih := erase_perm k (xs := t) (y := y) (by simpa using h)
    exact (List.Perm.swap x y _).trans (ih.cons x)
theorem c_mixed (Z : Frees mg) (hWDraw : Cal P w K mg base CX0 1 "_law_draw" ["_law_feed_here", "_law_many"] spDraw) (F : HasD K mg "_law_mixed" sWMixed) : Cal P w K mg base CX0 2 "_law_mixed" ["_law_feed_here", "_law_things"] spMixed := by
  obtain ⟨_, _, GWDraw, gWDraw, kWDraw, bWDraw⟩ := hWDraw
  refine cal_of F scWMixed (fun vs H Q E ⟨_, _, _, _, e, _⟩ => by rw [e]; rfl) (fun _ _ _ _ _ _ us hl => match us, hl with | [_, _], _ => rfl) fun f cdv A outer s H vs Q E hr h => ?_
  obtain ⟨F, l, xs, n, rfl, hl, hlF, hz, hf, hn, q⟩ := h
  refine ⟨_, (pss_cons (ps_par (i := 2) (j := 3) (by rfl) scWMixed.nd rfl rfl (by decide) rfl rfl (pa_cons (pe_callTy (call_list_of : CallR _ (.type "list") (Evl.rListS K)) (by rfl) Z.list_ (by decide +kernel) (pa_cons (pv 1) pa_nil)) (pa_cons (pe_lst pa_nil) pa_nil)) (by rfl))
    (pss_cons (ps_for PassesOwn.never rfl (pi_range1 (by rfl) Z.range_ (pa_cons (pe_callB (call_len_seq : CallR _ (.builtin "len") (Evl.rLenS K)) (by rfl) Z.len_ PySem.boot_len (pa_cons (pv 1) pa_nil)) pa_nil)) (pg_name (i := 4) scWMixed.nd rfl (.inl rfl))
      (pss_one (ps_expr (pe_bm PySem.F.plainAttrs_list PySem.F.slot_list_append PySem.F.type_list_append mt_append (pv 3) (pa_cons (pe_bm PySem.F.plainAttrs_list PySem.F.slot_list_pop PySem.F.type_list_pop mt_popAt (pv 2) (pa_cons (pe_call GWDraw (hr.mono (by decide)) (by rfl) gWDraw kWDraw bWDraw .nil pass0 (pa_cons (pv 0) (pa_cons (pe_callB (call_len_seq : CallR _ (.builtin "len") (Evl.rLenS K)) (by rfl) Z.len_ PySem.boot_len (pa_cons (pv 2) pa_nil)) pa_nil))) pa_nil)) pa_nil)))))
    (pss_one (ps_ret (pv 3))))), ?_⟩
  -- pool, got = list(things), []
  refine el_list (ev_var rfl) (sq_of hl) H (Ex.refl H) _ fun pl H1 hpl e1 h1 => ?_
  refine el_lst ea_nil (by simp) H1 (Ex.refl H1) _ fun gt H2 hgt e2 h2 => ⟨_, _, rfl, ?_⟩
  have e02 := e1.trans e2
  have hp2 := e2 _ _ h1
  have hne : pl ≠ gt := ne_of_none h1 hgt
  have hplF : pl ≠ F := hf.ne hpl
  have hplH : H pl = none := hpl
  have hgtH : H gt = none := fresh_back e1 hgt
  have hgtF : gt ≠ F := hf.ne hgtH
  refine q_of (s_forR1 (n := xs.length) (ea_cons (ev_len (ev_var rfl) (sq_of (e02 _ _ hl))) ea_nil) ⟨by omega, by omega⟩
    (fun i σ' H' => ∃ (ps gs : List V) (o : Option V), σ' = [some (.ref F), some (.ref l), some (.ref pl), some (.ref gt), o] ∧ But F H H' ∧ Feed F H' (n + i) ∧ H' pl = some (.lst ps) ∧ H' gt = some (.lst gs) ∧ gs.length = i ∧ (gs ++ ps).Perm xs)
    (fun H3 e3 => ⟨xs, [], none, rfl, But.of (e02.trans e3), hf.mono (e02.trans e3), e3 _ _ hp2, e3 _ _ h2, rfl, List.Perm.refl _⟩) ?_ ?_)
  · rintro i σ' H' hi ⟨ps, gs, o, rfl, b, hf', hp', hg', hgl, hP⟩
    have hpl : gs.length + ps.length = xs.length := by
      have := hP.length_eq
      rwa [List.length_append] at this
    have hp0 : 0 < ps.length := by omega
    refine ⟨_, rfl, .inl ⟨rfl, gs, sq_of hg'⟩, ⟨_, rfl, .inl ⟨rfl, ps, sq_of hp'⟩, draw_go (ea_cons (ev_var rfl) (ea_cons (ev_len (ev_var rfl) (sq_of hp')) ea_nil)) (by omega) (by omega) hf' (by omega) fun g H3 b3 hf3 hg3 => ?_⟩⟩
    have hgk : g < ps.length := by omega
    have hgk2 : ps[g]? = some ps[g] := List.getElem?_eq_getElem hgk
    have hp3 := b3 _ _ hplF hp'
    have hg3' := b3 _ _ hgtF hg'
    refine ⟨pl, ps, (g : Nat), g, ps[g], rfl, rfl, hp3, by omega, by omega, ?_, hgk2, ?_⟩
    · exact (ixN_seq (ixN_nat hgk)).1
    refine ⟨gt, gs, ps[g], rfl, rfl, ?_, sz_lt (by omega), ?_⟩
    · rw [upd_ne hne.symm]
      exact hg3'
    refine ⟨ps.eraseIdx g, gs ++ [ps[g]], _, rfl, ((b.trans b3).mut hplH).mut hgtH, ?_, ?_, upd_same, by simp [hgl], ?_⟩
    · exact ((hf3.upd hplF).upd hgtF)
    · rw [upd_ne hne, upd_same]
    · have := erase_perm g hgk2
      have h4 : (gs ++ (ps[g] :: ps.eraseIdx g)).Perm (gs ++ ps) := this.append_left gs
      rw [List.append_assoc]
      exact h4.trans hP
  · rintro σ' H' ⟨ps, gs, o, rfl, b, hf', hp', hg', hgl, hP⟩
    refine s_ret (ev_var rfl) fun H3 e3 => ?_
    have hps : ps = [] := by
      have := hP.length_eq
      rw [List.length_append] at this
      have h0 : ps.length = 0 := by
        simp only [Int.toNat_natCast] at hgl
        omega
      exact List.length_eq_zero_iff.mp h0
    rw [hps, List.append_nil] at hP
    exact q gt H3 gs hgtH (b.trans (But.of e3)) ((hf'.mono e3).le (by simp)) (e3 _ _ hg') hP
end
end RW
end

section
set_option maxRecDepth 100000
set_option maxHeartbeats 4000000
/-! the walk of the law's names, rota, round, swapped -/
namespace RW
open PySem PySem.Spec PyProof.Rows L2 Evl

def NMS : List Str := ["a", "b10", "b9", "zz", "c", "q1w2e3r4", "d", "x", "m0", "road", "k", "e5", "y", "i2"]
abbrev rnm (R : List RdS) : List Str := R.map (·.1)
theorem nms_nd : NMS.Nodup := by decide +kernel
def unS : V → Str
  | .str s => s
  | _ => ""
theorem perm_strs {ys : List V} {l : List Str} (h : ys.Perm (l.map V.str)) : ∃ l' : List Str, ys = l'.map V.str ∧ l'.Perm l := by
  refine ⟨ys.map unS, ?_, ?_⟩
  · rw [List.map_map]
    refine ((List.map_congr_left (g := id) fun y hy => ?_).trans (List.map_id _)).symm
    obtain ⟨s, _, rfl⟩ := List.mem_map.mp (h.mem_iff.mp hy)
    rfl
  · have := h.map unS
    rw [List.map_map] at this
    have e : l.map (unS ∘ V.str) = l := (List.map_congr_left (g := id) fun _ _ => rfl).trans (List.map_id _)
    rwa [e] at this
section
variable {P : Program} {w : World} {K : PySem.W.Frag} {mg : Str → Option Value} {base : Heap}
/-- a call of mixed of a new list -/
theorem mixed_go {σ : L2.St} {H : Hp} {tf tl : TE} {E : XK} {Q : VK} {F : Addr} {n : Nat} {xs : List V} (h : Ev tf σ H (.ref F)) (hl : EvL tl σ H xs) (hz : xs.length < 1000) (hF : Feed F H n) (hn : n ≤ 500000)
    (k : ∀ p H2 ys, H p = none → But F H H2 → Feed F H2 (n + xs.length) → H2 p = some (.lst ys) → ys.Perm xs → Q (.ref p) H2) : tCall spMixed [] E (tCons tf (tCons tl tNil)) σ H Q :=
  h H (Ex.refl H) _ fun H1 e1 => hl H1 e1 _ fun l H2 hl2 e2 h2 => by
    have hf1 := hF.mono e1
    exact ⟨F, l, xs, n, rfl, h2, hf1.ne hl2, hz, hf1.mono e2, hn, fun p H3 ys hp b hf3 hp3 hP => k p H3 ys (fresh_back (e1.trans e2) hp) ((But.of (e1.trans e2)).trans b) hf3 hp3 hP⟩
def spNms : Sp := fun vs H Q _ => ∃ (F : Addr) (m n : Nat), vs = [.ref F, .int m] ∧ m ≤ 14 ∧ Feed F H n ∧ n ≤ 500000 ∧ ∀ p H2 (ns : List Str), H p = none → But F H H2 → Feed F H2 (n + 14) → H2 p = some (.lst (ns.map V.str)) → ns.length = m → ns.Nodup → (∀ s ∈ ns, s ∈ NMS) → Q (.ref p) H2
theorem c_nms (hWMixed : Cal P w K mg base CX0 2 "_law_mixed" ["_law_feed_here", "_law_things"] spMixed) (F : HasD K mg "_law_names" sWNames) : Cal P w K mg base CX0 3 "_law_names" ["_law_feed_here", "_law_many"] spNms := by
  obtain ⟨_, _, GWMixed, gWMixed, kWMixed, bWMixed⟩ := hWMixed
  refine cal_of F scWNames (fun vs H Q E ⟨_, _, _, e, _⟩ => by rw [e]; rfl) (fun _ _ _ _ _ _ us hl => match us, hl with | [_, _], _ => rfl) fun f cdv A outer s H vs Q E hr h => ?_
  obtain ⟨F, m, n, rfl, hm, hf, hn, q⟩ := h
  refine ⟨_, (pss_one (ps_ret (pe_slice (sl_list : SlR _ (rSlL K)) (pe_call GWMixed (hr.mono (by decide)) (by rfl) gWMixed kWMixed bWMixed .nil pass0 (pa_cons (pv 0) (pa_cons (pe_lst (pa_cons pe_str (pa_cons pe_str (pa_cons pe_str (pa_cons pe_str (pa_cons pe_str (pa_cons pe_str (pa_cons pe_str (pa_cons pe_str (pa_cons pe_str (pa_cons pe_str (pa_cons pe_str (pa_cons pe_str (pa_cons pe_str (pa_cons pe_str pa_nil))))))))))))))) pa_nil))) po_none (po_some (pv 1))))), ?_⟩
  refine mixed_go (xs := NMS.map V.str) (ev_var rfl) (el_lst (ea_cons ev_c (ea_cons ev_c (ea_cons ev_c (ea_cons ev_c (ea_cons ev_c (ea_cons ev_c (ea_cons ev_c (ea_cons ev_c (ea_cons ev_c (ea_cons ev_c (ea_cons ev_c (ea_cons ev_c (ea_cons ev_c (ea_cons ev_c ea_nil)))))))))))))) (by decide)) (by decide) hf hn fun p H2 ys hp b hf2 hp2 hP => ?_
  obtain ⟨l, rfl, hl⟩ := perm_strs hP
  refine ⟨_, rfl, m, rfl, p, _, rfl, sq_of hp2, fun p' hp' => ?_⟩
  have e : cutV (l.map V.str) none (some (m : Int)) = (l.take m).map V.str := (cut_pre (l.map V.str) m).trans List.map_take.symm
  rw [e]
  refine q p' _ (l.take m) (hf.free b hp' hf2) (b.trans (But.of (Ex.new hp'))) (hf2.mono (Ex.new hp')) upd_same ?_ ((List.take_sublist _ _).nodup (hl.nodup_iff.mpr nms_nd)) fun s hs => hl.mem_iff.mp (List.mem_of_mem_take hs)
  have h14 : l.length = 14 := hl.length_eq
  rw [List.length_take, h14]
  omega
def spRota (K : PySem.W.Frag) : Sp := fun vs H Q _ => ∃ (F a : Addr) (Pl : List Str) (R : List RdS) (n : Nat), vs = [.ref F, .ref a] ∧ IsWb K H a Pl R ∧ R.length < 1000 ∧ Feed F H n ∧ n ≤ 500000 ∧
  ∀ p H2 (ρ : List Str), But F H H2 → Feed F H2 (n + R.length) → SqT K H2 p (ρ.map V.str) → ρ.Perm (R.map (·.1)) → Q (.ref p) H2
theorem c_rota (Z : Frees mg) (hWMixed : Cal P w K mg base CX0 2 "_law_mixed" ["_law_feed_here", "_law_things"] spMixed) (F : HasD K mg "_law_rota" sWRota) : Cal P w K mg base CX0 3 "_law_rota" ["_law_feed_here", "_law_web_here"] (spRota K) := by
  obtain ⟨_, _, GWMixed, gWMixed, kWMixed, bWMixed⟩ := hWMixed
  refine cal_of F scWRota (fun vs H Q E ⟨_, _, _, _, _, e, _⟩ => by rw [e]; rfl) (fun _ _ _ _ _ _ us hl => match us, hl with | [_, _], _ => rfl) fun f cdv A outer s H vs Q E hr h => ?_
  obtain ⟨F, a, Pl, R, n, rfl, ⟨ap, ar, rs, hw, hp, hR, hrs⟩, hz, hf, hn, q⟩ := h
  refine ⟨_, (pss_one (ps_ret (pe_callTy call_tuple_of (by rfl) Z.tuple_ (by decide +kernel) (pa_cons (pe_call GWMixed (hr.mono (by decide)) (by rfl) gWMixed kWMixed bWMixed .nil pass0 (pa_cons (pv 0) (pa_cons (pe_lc (own := [("_law_road", 2)]) (g := (gName 2)) (tt := tYes) (by rfl) scWRota.nd (pi_tup (pe_ix (ix_tup : IxR _ (rIxT K)) (pv 1) pe_int (fun _ _ => rfl))) (blkOk_by (own := [("_law_road", 2)]) (N := nWRota) (sc := defScope sWRota) (by decide +kernel)) (fun _ _ _ _ _ => (pg_name (i := 2) scWRota.nd rfl (.inl rfl))) (fun _ _ _ _ _ => pts_nil) (fun _ _ _ _ _ => (pe_ix (ix_tup : IxR _ (rIxT K)) (pv 2) pe_int (fun _ _ => rfl)))) pa_nil))) pa_nil)))), ?_⟩
  have e := paired_len hrs
  refine mixed_go (xs := (rnm R).map V.str) (ev_var rfl) (el_lcTy ((rnm R).map V.str) (ev_web (ev_var rfl) hw) hR (by rw [e]; exact Nat.lt_trans hz (by decide)) (by simp [e]) (fun _ => rfl) fun i x y H1 e1 hi hy => ?_) (by simpa using hz) hf hn fun p H2 ys hp b hf2 hp2 hP => ?_
  · obtain ⟨r, hr, b, rfl, hb⟩ := paired_at' hrs hi
    rw [List.getElem?_map, List.getElem?_map, hr] at hy
    cases hy
    exact ev_op (ev_var rfl) ev_c (rv_ixT (ex_t e1 hb) rfl)
  · obtain ⟨l, rfl, hl⟩ := perm_strs hP
    refine ⟨p, _, rfl, .inl ⟨sq_of hp2, fun t ht => ?_⟩⟩
    exact q t _ l (b.trans (But.of (Ex.new ht))) ((hf2.mono (Ex.new ht)).le (by simp)) (st_of upd_same) hl
theorem c_lround (Z : Frees mg) (F : HasD K mg "_law_round" sWRound) : Cal P w K mg base CX0 1 "_law_round" ["_law_week", "_law_day"] (spRound K) := by
  refine cal_of F scWRound (fun vs H Q E ⟨_, _, _, e, _⟩ => by rw [e]; rfl) (fun _ _ _ _ _ _ us hl => match us, hl with | [_, _], _ => rfl) fun f cdv A outer s H vs Q E hr h => ?_
  obtain ⟨a, b, d, rfl, hw, q⟩ := h
  refine ⟨_, (pss_one (ps_ret (pe_ix (ix_tup : IxR _ (rIxT K)) (pv 0) (pe_op op_mod (pe_callTy call_int1 (by rfl) Z.int_ (by decide +kernel) (pa_cons (pe_op op_sub (pv 1) pe_int) pa_nil)) (pe_callB (call_len_seq : CallR _ (.builtin "len") (Evl.rLenS K)) (by rfl) Z.len_ PySem.boot_len (pa_cons (pv 0) pa_nil))) (fun _ _ => rfl)))), ?_⟩
  refine s_ret (ev_op (ev_var rfl) (ev_op (ev_int (ev_op (ev_var rfl) ev_c rv_I0)) (ev_lenT (ev_var rfl) hw) (rv_I (show (0 : Int) < ((1 : Nat) : Int) by decide))) (rv_ixT (i := (d - 1) % ((1 : Nat) : Int)) hw ?_)) q
  rw [show (d - 1) % ((1 : Nat) : Int) = 0 from Int.emod_one _]
  rfl
theorem c_lswapped (F : HasD K mg "_law_swapped" sWSwapped) : Cal P w K mg base CX0 1 "_law_swapped" ["_law_rota_here", "_law_at"] (spExch K) := by
  refine cal_of F scWSwapped (fun vs H Q E ⟨_, _, _, _, _, e, _⟩ => by rw [e]; rfl) (fun _ _ _ _ _ _ us hl => match us, hl with | [_, _], _ => rfl) fun f cdv A outer s H vs Q E hr h => ?_
  obtain ⟨a, ρ, i, r, s, rfl, ha, hz, hr0, hs0, q⟩ := h
  refine ⟨_, (pss_one (ps_ret (pe_op (op_catA : OpR _ (binaryOp .Add) (rCatA K)) (pe_op (op_catA : OpR _ (binaryOp .Add) (rCatA K)) (pe_slice (sl_tupA : SlR _ (rSlA K)) (pv 0) po_none (po_some (pv 1))) (pe_tup (pa_cons (pe_ix (ix_tup : IxR _ (rIxT K)) (pv 0) (pe_op op_add (pv 1) pe_int) (fun _ _ => rfl)) (pa_cons (pe_ix (ix_tup : IxR _ (rIxT K)) (pv 0) (pv 1) (fun _ _ => rfl)) pa_nil)))) (pe_slice (sl_tupA : SlR _ (rSlA K)) (pv 0) (po_some (pe_op op_add (pv 1) pe_int)) po_none)))), ?_⟩
  have hd := dp_strs ha
  refine (ed_exch hr0 hs0 hz (ed_var rfl hd) (ev_var rfl) (ed_ix (i := i + 1) (ed_var rfl hd) (ev_op (ev_var rfl) ev_c rv_I0) (by rw [List.getElem?_map, hs0]; rfl)) (ed_ix (i := i) (ed_var rfl hd) (ev_var rfl) (by rw [List.getElem?_map, hr0]; rfl)) (ed_var rfl hd) (ev_op (ev_var rfl) ev_c rv_I0)) H (Ex.refl H) _ fun v H2 e2 hv => ?_
  obtain ⟨p, rfl, hp⟩ := dp_strsI hv
  exact q p H2 e2 hp
end
end RW
end

section
set_option maxRecDepth 100000
set_option maxHeartbeats 4000000
/-! the walk of the law's arrivals -/
namespace RW
open PySem PySem.Spec PyProof.Rows L2 Evl

section
variable {K : PySem.W.Frag} {σ : L2.St} {H : Hp} {te tl : TE}
/-- a comprehension over a tuple that stays, a property of each (what stands at D is a list) -/
theorem el_lcTQ {a : Addr} {xs : List V} {j : Nat} {vs : List Nat} {Q : VK} (Pr : Nat → V → Hp → Prop) (h : Ev tl σ H (.ref a)) (hx : SqT K H a xs) (hz : xs.length < 100000) (hw : ∀ x, wipe ((wipe σ vs).set j (some x)) vs = wipe σ vs)
    (st : ∀ i v H1 H2, Tp K H1 H2 → Pr i v H1 → Pr i v H2)
    (he : ∀ i x H1 Q, xs[i]? = some x → Ex H H1 → (∀ v H2, Ex H1 H2 → Pr i v H2 → Q v H2) → te ((wipe σ vs).set j (some x)) H1 Q)
    (hd : ∀ p H2 ys, H p = none → Ex H H2 → H2 p = some (.lst ys) → ys.length = xs.length → (∀ i v, ys[i]? = some v → Pr i v H2) → Q (.ref p) H2) : tLc (iTup K tl) (gName j) tYes te vs σ H Q := h H (Ex.refl H) _ fun H1 e1 => ⟨a, rfl, ⟨xs, ex_t e1 hx⟩, fun D hD => by
  refine lc_tup (K := K) (a := a) (xs := xs) (Qd := fun H => Q (.ref D) H) (fun i H' => Ex H1 H' ∧ ∃ ys, H' D = some (.lst ys) ∧ ys.length = i ∧ ∀ k v, ys[k]? = some v → Pr k v H') ⟨Ex.mut (Ex.refl H1) hD, [], upd_same, rfl, by simp⟩ (fun i H' _ p => ex_t (e1.trans p.1) hx) (fun i x H' hi p => ?_) (fun H' p => ?_)
  · obtain ⟨e2, ys, h1, h2, hp⟩ := p
    have hlt : i < xs.length := (List.getElem?_eq_some_iff.mp hi).1
    refine ⟨hw x, he i x H' _ hi (e1.trans e2) fun v H2 e3 hv => ⟨ys, e3 _ _ h1, sz_lt (by omega), Ex.mut (e2.trans e3) hD, ys ++ [v], upd_same, by simp [h2], fun k u hk => ?_⟩⟩
    have tp : Tp K H2 (upd H2 D (.lst (ys ++ [v]))) := Tp.lst (e3 _ _ h1)
    by_cases hlt2 : k < ys.length
    · rw [List.getElem?_append_left hlt2] at hk
      exact st k u _ _ ((Tp.of e3).trans tp) (hp k u hk)
    · rw [List.getElem?_append_right (by omega)] at hk
      have hk0 : k - ys.length = 0 := by
        have := (List.getElem?_eq_some_iff.mp hk).1
        simp at this
        omega
      rw [hk0] at hk
      have : v = u := by simpa using hk
      subst this
      have : k = i := by omega
      subst this
      exact st k v _ _ tp hv
  · obtain ⟨e2, ys, h1, h2, hp⟩ := p
    exact hd D H' ys (fresh_back e1 hD) (e1.trans e2) h1 h2 hp⟩
def rDictP (K : PySem.W.Frag) : List V → Hp → VK → Prop := fun xs H Q => ∃ (a : Addr) (ps : List Addr) (kvs : List (Key × V)), xs = [.ref a] ∧ SqL K H a (ps.map V.ref) ∧ Paired (fun p kv => SqT K H p [kV kv.1, kv.2]) ps kvs ∧
    ∀ p, H p = none → Q (.ref p) (upd H p (.dK (mergeK [] kvs)))
theorem merge_of {β : Type} {G : V → β → Prop} : ∀ {more : List (Key × V)} {F2 : List (Str × β)} {acc : List (Key × V)} {F1 : List (Str × β)}, DkOf G acc F1 → DkOf G more F2 → (RP.keys (F1 ++ F2)).Nodup → DkOf G (mergeK acc more) (F1 ++ F2)
  | _, _, acc, F1, h, .nil, _ => by rw [List.append_nil]; exact h
  | (k, v) :: more, (q, b) :: F2, acc, F1, h, .cons ⟨e, g⟩ hs, hn => by
    have e : k = Sum.inr q := e
    subst e
    have hq : RP.look F1 q = none := by
      refine RP.look_none_iff.mpr fun hm => ?_
      simp only [RP.keys, List.map_append, List.map_cons] at hn
      have := (List.nodup_append.mp hn).2.2
      exact this q hm q (by simp) rfl
    have h2 := merge_of (dk_new (v := v) (b := b) h hq g) hs (by simpa [List.append_assoc] using hn)
    rw [List.append_assoc] at h2
    exact h2
/-- dict([(road[0], road[1:]) for road in web[1]]) -/
theorem ends_go {a : Addr} {Pl : List Str} {R : List RdS} {j : Nat} {vs : List Nat} {Q : VK} (hw0 : σ[0]? = some (some (.ref a))) (hg : Gd K H a Pl R) (hj : ∀ x : V, ((wipe σ vs).set j (some x))[j]? = some (some x)) (hw : ∀ x, wipe ((wipe σ vs).set j (some x)) vs = wipe σ vs)
    (k : ∀ p H2 kvs, H p = none → Ex H H2 → H2 p = some (.dK kvs) → DkOf (IsEn K H2) kvs R → Q (.ref p) H2) :
    tCB (rDictP K) (tCons (tLc (iTup K (tOp (rIxT K) (tVar 0) (tC (.int 1)))) (gName j) tYes (tTup (tCons (tOp (rIxT K) (tVar j) (tC (.int 0))) (tCons (tSl (rSlA K) (tVar j) (tPart (tC (.int 1))) tNoPart) tNil))) vs) tNil) σ H Q := by
  obtain ⟨ap, ar, rs, hw1, hap, hR, hrs⟩ := hg.wb
  have hl := paired_len hrs
  have hRl := hg.lenR
  show tLc (iTup K (tOp (rIxT K) (tVar 0) (tC (.int 1)))) (gName j) tYes _ vs σ H (fun v H1 => rDictP K [v] H1 Q)
  refine el_lcTQ (K := K) (fun i v H' => ∃ t u r, v = .ref t ∧ R[i]? = some r ∧ SqT K H' t [.str r.1, .ref u] ∧ SqT K H' u [.str r.2.1, .str r.2.2]) (ev_web (ev_var hw0) hw1) hR (by omega) hw (fun i v H1 H2 tp ⟨t, u, r, h1, h2, h3, h4⟩ => ⟨t, u, r, h1, h2, tp.1 _ _ h3, tp.1 _ _ h4⟩) (fun i x H1 Q2 hx e1 k2 => ?_) (fun p H2 ys hp e2 h2 hyl hP => ?_)
  · obtain ⟨r, hr, t, rfl, ht⟩ := paired_at' hrs hx
    have hd : Dp K H1 (.ref t) (.tuple [.str r.1, .str r.2.1, .str r.2.2]) := .tup (ex_t e1 ht) (.cons (.str _) (.cons (.str _) (.cons (.str _) .nil)))
    refine (ev_op (ev_var (hj _)) ev_c (rv_ixT (ex_t e1 ht) rfl)) H1 (Ex.refl H1) _ fun H2 e2 => ?_
    refine (ed_sl (ed_var (hj _) (dp_mono e2 hd)) (eo_some (i := 1) ev_c) eo_none) H2 (Ex.refl H2) _ fun v H3 e3 hv => ?_
    obtain ⟨u, us, rfl, hu1, hu2⟩ := dp_tupI hv
    have hu3 : SqT K H3 u [.str r.2.1, .str r.2.2] := by
      obtain ⟨x1, x2, rfl, q1, q2⟩ := dpa2 (d := .str r.2.1) (e := .str r.2.2) hu2
      cases q1
      cases q2
      exact hu1
    refine ⟨sz_of (by simp), fun q hq => ?_⟩
    exact k2 _ _ ((e2.trans e3).trans (Ex.new hq)) ⟨q, u, r, rfl, hr, st_of upd_same, ex_t (Ex.new hq) hu3⟩
  · have hch : ∀ (i : Nat) (v : V), ys[i]? = some v → ∃ t u, v = .ref t ∧ ∃ r, R[i]? = some r ∧ SqT K H2 t [.str r.1, .ref u] ∧ SqT K H2 u [.str r.2.1, .str r.2.2] := fun i v hv => let ⟨t, u, r, h1, h2, h3, h4⟩ := hP i v hv; ⟨t, u, h1, r, h2, h3, h4⟩
    have hex : ∀ (ys : List V) (R : List RdS), ys.length = R.length → (∀ (i : Nat) (v : V), ys[i]? = some v → ∃ t u, v = .ref t ∧ ∃ r, R[i]? = some r ∧ SqT K H2 t [.str r.1, .ref u] ∧ SqT K H2 u [.str r.2.1, .str r.2.2]) →
        ∃ (ps : List Addr) (kvs : List (Key × V)), ys = ps.map V.ref ∧ Paired (fun p kv => SqT K H2 p [kV kv.1, kv.2]) ps kvs ∧ DkOf (IsEn K H2) kvs R := by
      intro ys
      induction ys with
      | nil =>
        intro R hl _
        cases R with
        | nil => exact ⟨[], [], rfl, .nil, .nil⟩
        | cons _ _ => cases hl
      | cons y t ih =>
        intro R hl hc
        cases R with
        | nil => cases hl
        | cons r R =>
          obtain ⟨ps, kvs, h1, h2, h3⟩ := ih R (by simpa using hl) fun i v hv => hc (i + 1) v (by simpa using hv)
          obtain ⟨t', u, rfl, r', hr', h4, h5⟩ := hc 0 y rfl
          cases hr'
          exact ⟨t' :: ps, ((Sum.inr r.1 : Key), .ref u) :: kvs, by rw [h1]; rfl, .cons h4 h2, .cons ⟨rfl, u, rfl, h5⟩ h3⟩
    obtain ⟨ps, kvs, rfl, h3, h4⟩ := hex ys R (by omega) hch
    refine ⟨p, ps, kvs, rfl, sq_of h2, h3, fun q hq => k q _ _ (fresh_back e2 hq) (e2.trans (Ex.new hq)) upd_same ?_⟩
    exact (merge_of (F1 := []) .nil h4 hg.nd).mono fun v b hb => hb.mono (Tp.new hq)
theorem rv_leT {a b : Addr} {x y : Nat × Nat} (ha : SqT K H a [.int x.1, .int x.2]) (hb : SqT K H b [.int y.1, .int y.2]) (h : RP.leT x y) : RV (rLeT K) (.ref a) (.ref b) H (.bl true) := fun H1 e Q q => by
  refine ⟨a, b, [x.1, x.2], [y.1, y.2], rfl, rfl, ex_t e ha, ex_t e hb, ?_⟩
  have hv : Ob.lexAt (fun j => decide (([(x.1 : Int), x.2]).getD j 0 = ([(y.1 : Int), y.2]).getD j 0)) (fun j => decide (([(x.1 : Int), x.2]).getD j 0 ≤ ([(y.1 : Int), y.2]).getD j 0)) (decide (([(x.1 : Int), x.2]).length ≤ ([(y.1 : Int), y.2]).length)) 0 (min ([(x.1 : Int), x.2]).length ([(y.1 : Int), y.2]).length) = true := by
    show (if decide ((x.1 : Int) = y.1) = true then (if decide ((x.2 : Int) = y.2) = true then true else decide ((x.2 : Int) ≤ y.2)) else decide ((x.1 : Int) ≤ y.1)) = true
    rcases h with h | ⟨h1, h2⟩
    · rw [if_neg (by simp; omega)]
      exact decide_eq_true (by omega)
    · rw [if_pos (by simp [h1])]
      split
      · rfl
      · exact decide_eq_true (by omega)
  rw [hv]
  exact q H1 (Ex.refl H1)
end
end RW
end

section
set_option maxRecDepth 100000
set_option maxHeartbeats 4000000
/-! the walk of the law's arrivals -/
namespace RW
open PySem PySem.Spec PyProof.Rows L2 Evl

/-- one way of a road -/
def addT (d k : Nat) (Fd : RP.Fd Str) (h t : Str) : RP.Fd Str := if RP.has Fd t = false ∧ RP.has Fd h = true then Fd ++ [(t, d, k + 1)] else Fd
theorem addT_two {R : List RdS} {d k : Nat} {Fd : RP.Fd Str} {r x y : Str} (hl : RP.look R r = some (x, y)) : addT d k (addT d k Fd x y) y x = RP.wstep R d Fd k r := by
  unfold RP.wstep
  rw [hl]
  simp only []
  cases hx : RP.has Fd x with
  | true =>
    cases hy : RP.has Fd y with
    | true =>
      rw [if_pos rfl]
      simp [addT, hx, hy]
    | false =>
      have h1 : addT d k Fd x y = Fd ++ [(y, d, k + 1)] := by simp [addT, hx, hy]
      rw [h1]
      simp [addT, RP.has_append, hx, hy]
  | false =>
    have h1 : addT d k Fd x y = Fd := by simp [addT, hx]
    rw [h1]
    cases hy : RP.has Fd y with
    | true => simp [addT, hx, hy]
    | false => simp [addT, hx, hy]
theorem addT_len (d k : Nat) (Fd : RP.Fd Str) (h t : Str) : (addT d k Fd h t).length = Fd.length + (if RP.has Fd t = false ∧ RP.has Fd h = true then 1 else 0) := by
  unfold addT
  split <;> simp
section
variable {P : Program} {w : World} {K : PySem.W.Frag} {mg : Str → Option Value} {base : Heap}
theorem s_par3 {σ : L2.St} {H : Hp} {D : Ends} {ta : TA} {i j l : Nat} {P : List V → Hp → Prop} (h : EvAP ta σ H P) (k : ∀ vs H1, Ex H H1 → P vs H1 → ∃ u v w, vs = [u, v, w] ∧ D.nx (((σ.set i (some u)).set j (some v)).set l (some w)) H1) : tPar3 i j l ta D σ H := h H (Ex.refl H) _ fun vs H1 e hP => k vs H1 e hP
/-- the list of two pairs -/
theorem two_pairs {σ : L2.St} {H : Hp} {t1 t2 t3 t4 : TE} {x y : V} {Q : VK} (h1 : Ev t1 σ H x) (h2 : Ev t2 σ H y) (h3 : Ev t3 σ H y) (h4 : Ev t4 σ H x)
    (k : ∀ a p q H1, Ex H H1 → H1 a = some (.lst [.ref p, .ref q]) → SqT K H1 p [x, y] → SqT K H1 q [y, x] → Q (.ref a) H1) : tLst (tCons (tTup (tCons t1 (tCons t2 tNil))) (tCons (tTup (tCons t3 (tCons t4 tNil))) tNil)) σ H Q := by
  refine (eap_u (eu_tup (ea_cons h1 (ea_cons h2 ea_nil)) (by simp)) (eap_u (eu_tup (ea_cons h3 (ea_cons h4 ea_nil)) (by simp)) eap_nil)) H (Ex.refl H) _ fun vs H1 e1 hvs => ?_
  obtain ⟨p, _, rfl, hp, q, _, rfl, hq, rfl⟩ := hvs
  exact ⟨sz_of (by simp), fun a ha => k a p q _ (e1.trans (Ex.new ha)) upd_same (ex_t (Ex.new ha) (st_of hp)) (ex_t (Ex.new ha) (st_of hq))⟩
theorem eap_K {σ : L2.St} {H : Hp} {te : TE} {tr : TA} {P : List V → Hp → Prop} {kvs : List (Key × V)} (h : EvK te σ H kvs) (hr : EvAP tr σ H P) : EvAP (tCons te tr) σ H (fun vs H2 => ∃ p ws, vs = .ref p :: ws ∧ H p = none ∧ H2 p = some (.dK kvs) ∧ P ws H2) := fun H1 e Q q =>
  h H1 e _ fun p H2 hp e2 h2 => hr H2 (e.trans e2) _ fun ws H3 e3 hP => q (.ref p :: ws) H3 (e2.trans e3) ⟨p, ws, rfl, fresh_back e hp, e3 _ _ h2, hP⟩
theorem s_for2 {σ : L2.St} {H : Hp} {t1 t2 t3 t4 : TE} {x y : V} {g : TG} {tu : TS} {D : Ends} (h1 : Ev t1 σ H x) (h2 : Ev t2 σ H y) (h3 : Ev t3 σ H y) (h4 : Ev t4 σ H x)
    (k : ∀ l p q H1, Ex H H1 → H1 l = some (.lst [.ref p, .ref q]) → SqT K H1 p [x, y] → SqT K H1 q [y, x] → ∃ Pv : Nat → L2.St → Hp → Prop, Pv 0 σ H1 ∧ (∀ i σ' H', i ≤ [V.ref p, .ref q].length → Pv i σ' H' → SqL K H' l [.ref p, .ref q]) ∧
      (∀ i T σ' H', [V.ref p, .ref q][i]? = some T → Pv i σ' H' → g T σ' H' fun σ2 H2 => tu { D with nx := Pv (i + 1), ct := Pv (i + 1), bk := D.nx } σ2 H2) ∧ (∀ σ' H', Pv [V.ref p, .ref q].length σ' H' → D.nx σ' H')) :
    tFor (iList K (tLst (tCons (tTup (tCons t1 (tCons t2 tNil))) (tCons (tTup (tCons t3 (tCons t4 tNil))) tNil)))) g tu D σ H := by
  unfold tFor iList
  refine two_pairs (K := K) h1 h2 h3 h4 fun l p q H1 e hl hp hq => ?_
  obtain ⟨Pv, q0, q1, q2, q3⟩ := k l p q H1 e hl hp hq
  exact ⟨l, rfl, ⟨_, sq_of hl⟩, for_list Pv q0 q1 q2 q3⟩
def spLArr (K : PySem.W.Frag) : Sp := fun vs H Q _ => ∃ (a wk b mo : Addr) (Pl ρ : List Str) (R : List RdS) (p0 : Str), vs = [.ref a, .ref wk, .str p0, .ref mo] ∧ Gd K H a Pl R ∧ SqT K H wk [.ref b] ∧ SqT K H b (ρ.map V.str) ∧ RP.Whole R ρ ∧ ρ.length < 1000 ∧ p0 ∈ Pl ∧
  SqT K H mo [.int 1, .int 0] ∧ ∀ p H2 kvs, H p = none → Ex H H2 → H2 p = some (.dK kvs) → DkOf (IsMo K H2) kvs (RP.fin R ρ Pl p0) → Q (.ref p) H2
theorem c_larr (Z : Frees mg) (hWRound : Cal P w K mg base CX0 1 "_law_round" ["_law_week", "_law_day"] (spRound K)) (F : HasD K mg "_law_arrivals" sWArrivals) : Cal P w K mg base CX0 2 "_law_arrivals" ["_law_web_here", "_law_week", "_law_place", "_law_moment"] (spLArr K) := by
  obtain ⟨_, _, GWRound, gWRound, kWRound, bWRound⟩ := hWRound
  refine cal_of F scWArrivals (fun vs H Q E ⟨_, _, _, _, _, _, _, _, e, _⟩ => by rw [e]; rfl) (fun _ _ _ _ _ _ us hl => match us, hl with | [_, _, _, _], _ => rfl) fun f cdv A outer s H vs Q E hr h => ?_
  obtain ⟨a, wk, b, mo, Pl, ρ, R, p0, rfl, hg, hwk, hb, hW, hz, hp0, hmo, q⟩ := h
  have hu := hu_of hr
  refine ⟨_, (pss_cons (ps_set (i := 4) scWArrivals.nd rfl (.inl rfl) (pe_callTy (call_dictP rfl) (by rfl) Z.dict_ (by decide +kernel) (pa_cons (pe_lc (own := [("_law_road", 5)]) (g := (gName 5)) (tt := tYes) (by rfl) scWArrivals.nd (pi_tup (pe_ix (ix_tup : IxR _ (rIxT K)) (pv 0) pe_int (fun _ _ => rfl))) (blkOk_by (own := [("_law_road", 5)]) (N := nWArrivals) (sc := defScope sWArrivals) (by decide +kernel)) (fun _ _ _ _ _ => (pg_name (i := 5) scWArrivals.nd rfl (.inl rfl))) (fun _ _ _ _ _ => pts_nil) (fun _ _ _ _ _ => (pe_tup (pa_cons (pe_ix (ix_tup : IxR _ (rIxT K)) (pv 5) pe_int (fun _ _ => rfl)) (pa_cons (pe_slice (sl_tupA : SlR _ (rSlA K)) (pv 5) (po_some pe_int) po_none) pa_nil))))) pa_nil)))
    (pss_cons (ps_par3 (i := 6) (j := 7) (l := 8) (by rfl) scWArrivals.nd rfl rfl rfl (by decide) (by decide) (by decide) rfl rfl rfl (pa_cons (pe_disp (pps_cons (pv 2) (pv 3) pps_nil) (by rfl) (by rfl) (fun z => by cases z) (by decide)) (pa_cons (pe_ix (ix_tup : IxR _ (rIxT K)) (pv 3) pe_int (fun _ _ => rfl)) (pa_cons pe_int pa_nil))) (by rfl))
    (pss_cons (ps_while PassesOwn.never (pt_cmpR op_le (pv 8) (pe_callB (call_len_seq : CallR _ (.builtin "len") (Evl.rLenS K)) (by rfl) Z.len_ PySem.boot_len (pa_cons (pv 1) pa_nil)) (nomark _))
      (pss_cons (ps_set (i := 9) scWArrivals.nd rfl (.inl rfl) pe_int)
      (pss_cons (ps_for PassesOwn.never rfl (pi_enumT (by rfl) Z.enumerate_ (pa_cons (pe_call GWRound (hr.mono (by decide)) (by rfl) gWRound kWRound bWRound .nil pass0 (pa_cons (pv 1) (pa_cons (pv 7) pa_nil))) pa_nil)) (pg_tup (n := 2) (by rfl) (pgs_cons (pg_name (i := 10) scWArrivals.nd rfl (.inl rfl)) (pgs_cons (pg_name (i := 5) scWArrivals.nd rfl (.inl rfl)) pgs_nil)))
        (pss_cons (ps_asg (pe_dget hu (pv 4) (pv 5) (fun _ _ => rfl)) (pg_tup (n := 2) (by rfl) (pgs_cons (pg_name (i := 11) scWArrivals.nd rfl (.inl rfl)) (pgs_cons (pg_name (i := 12) scWArrivals.nd rfl (.inl rfl)) pgs_nil))))
        (pss_one (ps_for PassesOwn.never rfl (pi_list (pe_lst (pa_cons (pe_tup (pa_cons (pv 11) (pa_cons (pv 12) pa_nil))) (pa_cons (pe_tup (pa_cons (pv 12) (pa_cons (pv 11) pa_nil))) pa_nil)))) (pg_tup (n := 2) (by rfl) (pgs_cons (pg_name (i := 13) scWArrivals.nd rfl (.inl rfl)) (pgs_cons (pg_name (i := 14) scWArrivals.nd rfl (.inl rfl)) pgs_nil)))
          (pss_one (ps_if (PW.pt (pw_and (pt_cmp (pc_dnotin hu (pv 14) (pv 6))) (pw_and (pt_cmp (pc_din hu (pv 13) (pv 6))) (pw_and1 (pt_cmpR (op_leT hr.units0) (pe_dget hu (pv 6) (pv 13) (fun _ _ => rfl)) (pe_tup (pa_cons (pv 7) (pa_cons (pv 10) pa_nil))) (nomark _))))))
            (pss_cons (ps_dput hu (pv 6) (pv 14) (pe_tup (pa_cons (pv 7) (pa_cons (pe_op op_add (pv 10) pe_int) pa_nil))) rfl)
            (pss_one (ps_set (i := 9) scWArrivals.nd rfl (.inl rfl) (pe_op op_add (pv 9) pe_int)))) pss_nil))))))
      (pss_cons (ps_set (i := 8) scWArrivals.nd rfl (.inl rfl) (pe_ifExp (pt_cmpR op_eq (pv 9) pe_int (nomark _)) (pe_op op_add (pv 8) pe_int) pe_int))
      (pss_one (ps_set (i := 7) scWArrivals.nd rfl (.inl rfl) (pe_op op_add (pv 7) pe_int)))))))
    (pss_one (ps_ret (pv 6)))))), ?_⟩
  have hPl := hg.lenP
  refine q_of (ends_go (K := K) rfl hg (fun _ => rfl) (fun _ => rfl) fun ed H1 kvE _ e1 hed hkv => ?_)
  refine q_of (s_par3 (eap_K (ek_one (ev_var rfl) (ev_var rfl)) (eap_v (ev_op (ev_var rfl) ev_c (rv_ixT (ex_t e1 hmo) (v := .int 1) rfl)) (eap_v ev_c eap_nil))) fun vs H3 e3 hvs => ?_)
  obtain ⟨gd, _, rfl, hgd, h3, _, rfl, _, rfl, rfl⟩ := hvs
  refine ⟨_, _, _, rfl, ?_⟩
  have e03 := e1.trans e3
  have hgdH : H gd = none := fresh_back e1 hgd
  have hedR : ∀ {H' : Hp}, Ex H1 H' → H' ed = some (.dK kvE) ∧ DkOf (IsEn K H') kvE R := fun e => ⟨e _ _ hed, hkv.mono fun v b hb => hb.mono (Tp.of e)⟩
  have hlenS : ∀ n, (RP.dayS R ρ p0 n).length ≤ Pl.length := fun n => (RP.sound_dayS R ρ p0 n).len hg.inP hp0
  refine q_while (fun m σ' H' => ∃ (n s : Nat) (kvs : List (Key × V)) (o1 o2 o3 o4 o5 o6 o7 : Option V), σ' = [some (.ref a), some (.ref wk), some (.str p0), some (.ref mo), some (.ref ed), o1, some (.ref gd), some (.int (1 + n)), some (.int s), o2, o3, o4, o5, o6, o7] ∧
      m = 3 * (Pl.length - (RP.dayS R ρ p0 n).length) + (2 - s) ∧ s ≤ 2 ∧ (0 < s → RP.Closed R (RP.dayS R ρ p0 n)) ∧ Ex H1 H' ∧ H' gd = some (.dK kvs) ∧ DkOf (IsMo K H') kvs (RP.dayS R ρ p0 n))
    (3 * (Pl.length - (RP.dayS R ρ p0 0).length) + 2) ⟨0, 0, _, none, none, none, none, none, none, none, rfl, rfl, by omega, fun z => absurd z (by omega), e3, h3, .cons ⟨rfl, mo, rfl, ex_t e03 hmo⟩ .nil⟩ ?_
  rintro m σ' H' ⟨n, s, kvs, o1, o2, o3, o4, o5, o6, o7, rfl, rfl, hs2, hsc, e4, h4, hk4⟩
  have hS := RP.sound_dayS R ρ p0 n
  have hSt := RP.dayS_stamp (R := R) (ρ := ρ) (p := p0) n
  refine ⟨_, et_test (ev_op (ev_var rfl) (ev_lenT (ev_var rfl) (ex_t (e1.trans e4) hwk)) rv_I0), fun hbt H5 e5 => ?_, fun hbt H5 e5 => ?_⟩
  · have hs1 : s ≤ 1 := by
      have := of_decide_eq_true hbt
      simp only [List.length_singleton] at this
      omega
    refine ⟨fun σ2 H2' => ∃ (kvs : List (Key × V)) (o1 o2 o3 o4 o5 o6 o7 : Option V), σ2 = [some (.ref a), some (.ref wk), some (.str p0), some (.ref mo), some (.ref ed), o1, some (.ref gd), some (.int (1 + (n + 1 : Nat))), some (.int ((if (RP.dayS R ρ p0 (n + 1)).length = (RP.dayS R ρ p0 n).length then s + 1 else 0 : Nat) : Int)), o2, o3, o4, o5, o6, o7] ∧
      Ex H1 H2' ∧ H2' gd = some (.dK kvs) ∧ DkOf (IsMo K H2') kvs (RP.dayS R ρ p0 (n + 1)), ?_, ?_⟩
    · rintro σ2 H2' ⟨kvs', o1, o2, o3, o4, o5, o6, o7, rfl, e6, h6, hk6⟩
      have hl1 := hlenS n
      have hl2 := hlenS (n + 1)
      have hmono : (RP.dayS R ρ p0 n).length ≤ (RP.dayS R ρ p0 (n + 1)).length := RP.part_len R ρ (n + 1) (RP.dayS R ρ p0 n) ρ.length
      by_cases hidle : (RP.dayS R ρ p0 (n + 1)).length = (RP.dayS R ρ p0 n).length
      · rw [if_pos hidle]
        refine ⟨_, ?_, n + 1, s + 1, kvs', o1, o2, o3, o4, o5, o6, o7, rfl, rfl, by omega, fun _ => ?_, e6, h6, hk6⟩
        · rw [hidle]
          omega
        · have hc : RP.Closed R (RP.dayS R ρ p0 n) := RP.idle_closed hW hidle
          rw [RP.dayS_closed hc 1]
          exact hc
      · rw [if_neg hidle]
        exact ⟨_, by omega, n + 1, 0, kvs', o1, o2, o3, o4, o5, o6, o7, rfl, rfl, by omega, fun z => absurd z (by omega), e6, h6, hk6⟩
    refine q_asg ev_c fun H6 e6 => ?_
    have e46 := e4.trans (e5.trans e6)
    have hRd : ∀ {H' : Hp}, Ex H1 H' → SqT K H' b (ρ.map V.str) := fun e => ex_t (e1.trans e) hb
    refine q_of (s_forE (xs := ρ.map V.str) (ev_call (ea_cons (ev_var rfl) (ea_cons (ev_var rfl) ea_nil)) (sv_round (ex_t (e1.trans e46) hwk))) (hRd e46)
      (fun k σ2 H2' => ∃ (kvs : List (Key × V)) (o1 o3 o4 o5 o6 o7 : Option V), σ2 = [some (.ref a), some (.ref wk), some (.str p0), some (.ref mo), some (.ref ed), o1, some (.ref gd), some (.int (1 + n)), some (.int s), some (.int (((RP.part R ρ (n + 1) (RP.dayS R ρ p0 n) k).length - (RP.dayS R ρ p0 n).length : Nat) : Int)), o3, o4, o5, o6, o7] ∧
        Ex H1 H2' ∧ H2' gd = some (.dK kvs) ∧ DkOf (IsMo K H2') kvs (RP.part R ρ (n + 1) (RP.dayS R ρ p0 n) k))
      (fun H9 e9 => ⟨kvs, o1, o3, o4, o5, o6, o7, by simp only [RP.part, Nat.sub_self]; rfl, e46.trans e9, ((e5.trans e6).trans e9) _ _ h4, hk4.mono fun v t ht => ht.mono (Tp.of ((e5.trans e6).trans e9))⟩) (fun i σ2 H2' _ ⟨_, _, _, _, _, _, _, _, e9, _⟩ => hRd e9) ?_ ?_)
    · rintro i x σ2 H9 H10 hx ⟨kvs9, q1, q3, q4, q5, q6, q7, rfl, e9, h9, hk9⟩ e10
      rw [List.getElem?_map] at hx
      cases hr9 : ρ[i]? with
      | none => rw [hr9] at hx; cases hx
      | some r =>
      rw [hr9] at hx
      cases hx
      have e9' := e9.trans e10
      obtain ⟨⟨x1, y1⟩, hlk⟩ : ∃ e, RP.look R r = some e := by
        have := RP.has_iff.mpr (hW.sub r (List.mem_of_getElem? hr9))
        unfold RP.has at this
        exact Option.isSome_iff_exists.mp this
      obtain ⟨hed', hkv'⟩ := hedR e9'
      obtain ⟨v, hv, t, rfl, ht⟩ := dk_some hkv' hlk
      have hpart : RP.part R ρ (n + 1) (RP.dayS R ρ p0 n) (i + 1) = RP.wstep R (n + 1) (RP.part R ρ (n + 1) (RP.dayS R ρ p0 n) i) i r := by
        rw [RP.part, hr9]
      have hSp := hS.part ρ (n + 1) i
      have hlen := hSp.len hg.inP hp0
      have hst : ∀ e ∈ RP.part R ρ (n + 1) (RP.dayS R ρ p0 n) i, RP.leT e.2 (n + 1, i) := RP.part_stamp hSt
      have hL0 : (RP.dayS R ρ p0 n).length ≤ (RP.part R ρ (n + 1) (RP.dayS R ρ p0 n) i).length := RP.part_len R ρ (n + 1) _ i
      rw [hpart, ← addT_two hlk]
      refine q_of (s_asg2 (ev_dget (ev_var rfl) (ev_var rfl) hed' hv) ht fun H11 e11 => ?_)
      have h11 := (e10.trans e11) _ _ h9
      have hk11 := hk9.mono fun v t ht => ht.mono (Tp.of (K := K) (e10.trans e11))
      generalize hFd : RP.part R ρ (n + 1) (RP.dayS R ρ p0 n) i = Fd at *
      generalize hL : (RP.dayS R ρ p0 n).length = L0 at *
      refine s_for2 (K := K) (ev_var rfl) (ev_var rfl) (ev_var rfl) (ev_var rfl) fun l p q' H12 e12 hl hp hq => ?_
      have e112 := (e9'.trans e11).trans e12
      have hlgd : l ≠ gd := fun z => by
        have := e12 _ _ h11
        rw [← z, hl] at this
        cases this
      refine ⟨(fun j σ' H' => ∃ (kvs : List (Key × V)) (Fc : RP.Fd Str) (o6 o7 : Option V), σ' = [some (.ref a), some (.ref wk), some (.str p0), some (.ref mo), some (.ref ed), some (.str r), some (.ref gd), some (.int (1 + n)), some (.int s), some (.int ((Fc.length - L0 : Nat) : Int)), some (.int i), some (.str x1), some (.str y1), o6, o7] ∧
          Ex H1 H' ∧ Tp K H12 H' ∧ H' l = some (.lst [.ref p, .ref q']) ∧ H' gd = some (.dK kvs) ∧ DkOf (IsMo K H') kvs Fc ∧ L0 ≤ Fc.length ∧ Fc.length ≤ Fd.length + j ∧ Fc = (match j with | 0 => Fd | 1 => addT (n + 1) i Fd x1 y1 | _ => addT (n + 1) i (addT (n + 1) i Fd x1 y1) y1 x1)),
        ⟨kvs9, Fd, _, _, rfl, e112, Tp.refl H12, hl, e12 _ _ h11, hk11.mono fun v t ht => ht.mono (Tp.of e12), hL0, by omega, rfl⟩, (fun j σ' H' _ ⟨_, _, _, _, _, _, _, hl', _⟩ => sq_of hl'), ?_, ?_⟩
      · rintro j T σ' H' hT ⟨kvs, Fc, o6, o7, rfl, e13, tp13, hl13, h13, hk13, hLc, hLc2, hFc⟩
        obtain ⟨hh, tt, T', rfl, hTT, hnext, hstamp, hj2⟩ : ∃ hh tt T', T = .ref T' ∧ SqT K H' T' [.str hh, .str tt] ∧ addT (n + 1) i Fc hh tt = (match j + 1 with | 0 => Fd | 1 => addT (n + 1) i Fd x1 y1 | _ => addT (n + 1) i (addT (n + 1) i Fd x1 y1) y1 x1) ∧ (RP.has Fc tt = false → ∀ s, RP.look Fc hh = some s → RP.leT s (n + 1, i)) ∧ j < 2 := by
          match j, hT, hFc with
          | 0, hT, hFc =>
            cases hT
            have hFc : Fc = Fd := hFc
            subst hFc
            exact ⟨x1, y1, p, rfl, tp13.1 _ _ hp, rfl, fun _ s hs => hst _ (RP.look_mem hs), by decide⟩
          | 1, hT, hFc =>
            cases hT
            have hFc : Fc = addT (n + 1) i Fd x1 y1 := hFc
            subst hFc
            refine ⟨y1, x1, q', rfl, tp13.1 _ _ hq, rfl, fun hx s hs => ?_, by decide⟩
            have hx0 : ¬ (RP.has Fd y1 = false ∧ RP.has Fd x1 = true) := fun z => by
              unfold addT at hx
              rw [if_pos z, RP.has_append, z.2] at hx
              cases hx
            unfold addT at hs
            rw [if_neg hx0] at hs
            exact hst _ (RP.look_mem hs)
        have hgo : ∀ kvs' H2', Ex H1 H2' → Tp K H' H2' → H2' l = some (.lst [.ref p, .ref q']) → H2' gd = some (.dK kvs') → DkOf (IsMo K H2') kvs' (addT (n + 1) i Fc hh tt) → ∀ o6 o7, ∃ (kvs : List (Key × V)) (Fc' : RP.Fd Str) (o6' o7' : Option V), [some (.ref a), some (.ref wk), some (.str p0), some (.ref mo), some (.ref ed), some (.str r), some (.ref gd), some (.int (1 + n)), some (.int s), some (.int (((addT (n + 1) i Fc hh tt).length - L0 : Nat) : Int)), some (.int i), some (.str x1), some (.str y1), o6, o7] = [some (.ref a), some (.ref wk), some (.str p0), some (.ref mo), some (.ref ed), some (.str r), some (.ref gd), some (.int (1 + n)), some (.int s), some (.int ((Fc'.length - L0 : Nat) : Int)), some (.int i), some (.str x1), some (.str y1), o6', o7'] ∧
            Ex H1 H2' ∧ Tp K H12 H2' ∧ H2' l = some (.lst [.ref p, .ref q']) ∧ H2' gd = some (.dK kvs) ∧ DkOf (IsMo K H2') kvs Fc' ∧ L0 ≤ Fc'.length ∧ Fc'.length ≤ Fd.length + (j + 1) ∧ Fc' = (match j + 1 with | 0 => Fd | 1 => addT (n + 1) i Fd x1 y1 | _ => addT (n + 1) i (addT (n + 1) i Fd x1 y1) y1 x1) :=
          fun kvs' H2' e tp hl' hgd' hk' o6 o7 => ⟨kvs', addT (n + 1) i Fc hh tt, o6, o7, rfl, e, tp13.trans tp, hl', hgd', hk', by rw [addT_len]; omega, by rw [addT_len]; split <;> omega, hnext⟩
        refine g_two hTT ?_
        have hin : ∀ {σ : L2.St} {j : Nat} {z : Str}, σ[j]? = some (some (.str z)) → σ[6]? = some (some (.ref gd)) → Ev (tDIn (tVar j) (tVar 6)) σ H' (.bl (RP.has Fc z)) := fun h1 h2 => by
          rw [← dk_isSome hk13]
          exact ev_din (ev_var h2) (ev_var h1) h13
        have hni : ∀ {σ : L2.St} {j : Nat} {z : Str}, σ[j]? = some (some (.str z)) → σ[6]? = some (some (.ref gd)) → Ev (tDNotIn (tVar j) (tVar 6)) σ H' (.bl (!RP.has Fc z)) := fun h1 h2 => by
          rw [← dk_isSome hk13]
          exact ev_dni (ev_var h2) (ev_var h1) h13
        have hlt : kvs.length < 100000 := by
          rw [hk13.len]
          omega
        refine s_when (b := !RP.has Fc tt && (RP.has Fc hh && true)) (et_and (et_B (hni rfl rfl)) fun hb1 => et_and (et_B (hin rfl rfl)) fun hb2 => ?_) (fun hb3 H14 e14 => ?_) (fun hb3 H14 e14 => ?_)
        · obtain ⟨st, hst2⟩ : ∃ st, RP.look Fc hh = some st := by
            unfold RP.has at hb2
            exact Option.isSome_iff_exists.mp hb2
          obtain ⟨v2, hv2, t2, rfl, ht2⟩ := dk_some hk13 hst2
          refine et_test (ev_opU (ev_dget (ev_var rfl) (ev_var rfl) h13 hv2) (eu_tup (ea_cons (ev_var rfl) (ea_cons (ev_var rfl) ea_nil)) (by simp)) fun p2 H2' hp2 e2' => rv_leT (y := (n + 1, i)) (ex_t e2' ht2) ?_ (hstamp (by simpa using hb1) st hst2))
          have : ((n + 1 : Nat) : Int) = 1 + (n : Int) := by omega
          rw [this]
          exact st_of hp2
        · have hb3 : RP.has Fc tt = false ∧ RP.has Fc hh = true := by simpa using hb3
          have hadd : addT (n + 1) i Fc hh tt = Fc ++ [(tt, n + 1, i + 1)] := if_pos hb3
          refine q_of (s_dputU (eu_tup (ea_cons (ev_var rfl) (ea_cons (ev_op (ev_var rfl) ev_c rv_I0) ea_nil)) (by simp)) (ev_var rfl) (ev_var rfl) (e14 _ _ h13) hlt fun p2 H15 e15 h15 => ?_)
          have tp15 : Tp K H15 (L2.upd H15 gd (.dK (putK kvs (Sum.inr tt : Key) (.ref p2)))) := Tp.dk ((e14.trans e15) _ _ h13)
          refine s_asg (ev_op (ev_var rfl) ev_c rv_I0) fun H16 e16 => ?_
          have tpA := ((Tp.of (K := K) (e14.trans e15)).trans tp15).trans (Tp.of e16)
          have hnum : ((Fc.length - L0 : Nat) : Int) + 1 = (((addT (n + 1) i Fc hh tt).length - L0 : Nat) : Int) := by
            rw [hadd, List.length_append, List.length_singleton]
            omega
          rw [hnum]
          refine hgo _ H16 ((Ex.mut ((e13.trans e14).trans e15) hgd).trans e16) tpA ?_ (e16 _ _ upd_same) ?_ _ _
          · refine e16 _ _ ?_
            rw [upd_ne hlgd]
            exact (e14.trans e15) _ _ hl13
          · rw [hadd]
            refine dk_new (hk13.mono fun v t ht => ht.mono tpA) (RP.has_false_iff.mp hb3.1) ⟨p2, rfl, (tp15.trans (Tp.of e16)).1 _ _ (st_of ?_)⟩
            rw [h15]
            congr 3
            · congr 1
              omega
        · have hb3 : ¬ (RP.has Fc tt = false ∧ RP.has Fc hh = true) := by
            intro z
            rw [z.1, z.2] at hb3
            cases hb3
          have hadd : addT (n + 1) i Fc hh tt = Fc := if_neg hb3
          have := hgo kvs H14 (e13.trans e14) (Tp.of e14) (e14 _ _ hl13) (e14 _ _ h13) (by rw [hadd]; exact hk13.mono fun v t ht => ht.mono (Tp.of e14)) (some (.str hh)) (some (.str tt))
          rw [hadd] at this
          exact this
      · rintro σ' H' ⟨kvs, Fc, o6, o7, rfl, e13, _, _, h13, hk13, _, _, hFc⟩
        have hFc : Fc = addT (n + 1) i (addT (n + 1) i Fd x1 y1) y1 x1 := hFc
        subst hFc
        exact ⟨kvs, _, _, _, _, _, _, rfl, e13, h13, hk13⟩
    · rintro σ2 H9 ⟨kvs9, q1, q3, q4, q5, q6, q7, rfl, e9, h9, hk9⟩
      rw [List.length_map] at hk9 ⊢
      have hk9 : DkOf (IsMo K H9) kvs9 (RP.dayS R ρ p0 (n + 1)) := hk9
      have hmono : (RP.dayS R ρ p0 n).length ≤ (RP.dayS R ρ p0 (n + 1)).length := RP.part_len R ρ (n + 1) (RP.dayS R ρ p0 n) ρ.length
      have hD1 : RP.part R ρ (n + 1) (RP.dayS R ρ p0 n) ρ.length = RP.dayS R ρ p0 (n + 1) := rfl
      rw [hD1]
      refine q_asg (v := .int ((if (RP.dayS R ρ p0 (n + 1)).length = (RP.dayS R ρ p0 n).length then s + 1 else 0 : Nat) : Int)) (ev_if (b := decide ((RP.dayS R ρ p0 (n + 1)).length = (RP.dayS R ρ p0 n).length)) (et_is (et_test (ev_op (ev_var rfl) ev_c (rv_eq rfl))) ?_) (fun hz => ?_) (fun hz => ?_)) fun H10 e10 => ?_
      · refine decide_eq_decide.mpr ⟨fun z => ?_, fun z => ?_⟩
        · have := V.int.inj z
          omega
        · rw [z, Nat.sub_self]
          rfl
      · rw [if_pos (of_decide_eq_true hz)]
        exact ev_op (ev_var rfl) ev_c rv_I0
      · rw [if_neg (of_decide_eq_false hz)]
        exact ev_c
      · refine s_asg (ev_op (ev_var rfl) ev_c rv_I0) fun H11 e11 => ?_
        refine ⟨kvs9, q1, some (.int (((RP.dayS R ρ p0 (n + 1)).length - (RP.dayS R ρ p0 n).length : Nat) : Int)), q3, q4, q5, q6, q7, ?_, (e9.trans e10).trans e11, (e10.trans e11) _ _ h9, hk9.mono fun v t ht => ht.mono (Tp.of (e10.trans e11))⟩
        rw [show ((1 : Int) + ((n + 1 : Nat) : Int)) = 1 + (n : Int) + 1 by omega]
        rfl
  · have hs : 0 < s := by
      have := of_decide_eq_false hbt
      simp only [List.length_singleton] at this
      omega
    refine s_ret (ev_var rfl) fun H6 e6 => ?_
    have hfin := RP.fin_of hW hg.inP hp0 (hsc hs)
    rw [hfin] at hk4
    exact q gd H6 kvs hgdH (e1.trans (e4.trans (e5.trans e6))) ((e5.trans e6) _ _ h4) (hk4.mono fun v t ht => ht.mono (Tp.of (e5.trans e6)))
end
end RW
end

section
set_option maxRecDepth 100000
set_option maxHeartbeats 4000000
/-! the walk of the law's table and due -/
namespace RW
open PySem PySem.Spec PyProof.Rows L2 Evl

section
variable {P : Program} {w : World} {K : PySem.W.Frag} {mg : Str → Option Value} {base : Heap}
theorem sv_larr {H : Hp} {a wk b mo : Addr} {Pl ρ : List Str} {R : List RdS} {p0 : Str} {Q : VK} {E : XK} (hg : Gd K H a Pl R) (hw : SqT K H wk [.ref b]) (hb : SqT K H b (ρ.map V.str)) (hW : RP.Whole R ρ) (hz : ρ.length < 1000) (hp : p0 ∈ Pl)
    (hmo : SqT K H mo [.int 1, .int 0]) (k : ∀ p H2 kvs, H p = none → Ex H H2 → H2 p = some (.dK kvs) → DkOf (IsMo K H2) kvs (RP.fin R ρ Pl p0) → Q (.ref p) H2) : spLArr K [.ref a, .ref wk, .str p0, .ref mo] H Q E := ⟨a, wk, b, mo, Pl, ρ, R, p0, rfl, hg, hw, hb, hW, hz, hp, hmo, k⟩
def spTable (K : PySem.W.Frag) : Sp := fun vs H Q _ => ∃ (a b : Addr) (Pl ρ : List Str) (R : List RdS), vs = [.ref a, .ref b] ∧ Gd K H a Pl R ∧ SqT K H b (ρ.map V.str) ∧ RP.Whole R ρ ∧ ρ.length < 1000 ∧
  ∀ p H2 vs, H p = none → Ex H H2 → H2 p = some (.lst vs) → Paired (fun v q => ∃ l, v = .ref l ∧ H2 l = some (.lst (rowV R ρ Pl q))) vs Pl → Q (.ref p) H2
theorem c_table (Z : Frees mg) (hWArrivals : Cal P w K mg base CX0 2 "_law_arrivals" ["_law_web_here", "_law_week", "_law_place", "_law_moment"] (spLArr K)) (F : HasD K mg "_law_table" sWTable) : Cal P w K mg base CX0 3 "_law_table" ["_law_web_here", "_law_rota_here"] (spTable K) := by
  obtain ⟨_, _, GWArrivals, gWArrivals, kWArrivals, bWArrivals⟩ := hWArrivals
  refine cal_of F scWTable (fun vs H Q E ⟨_, _, _, _, _, e, _⟩ => by rw [e]; rfl) (fun _ _ _ _ _ _ us hl => match us, hl with | [_, _], _ => rfl) fun f cdv A outer s H vs Q E hr h => ?_
  obtain ⟨a, b, Pl, ρ, R, rfl, hg, hb, hW, hz, q⟩ := h
  have hu := hu_of hr
  refine ⟨_, (pss_cons (ps_set (i := 2) scWTable.nd rfl (.inl rfl) (pe_lst pa_nil))
    (pss_cons (ps_for PassesOwn.never rfl (pi_tup (pe_ix (ix_tup : IxR _ (rIxT K)) (pv 0) pe_int (fun _ _ => rfl))) (pg_name (i := 3) scWTable.nd rfl (.inr rfl))
      (pss_cons (ps_set (i := 4) scWTable.nd rfl (.inr rfl) (pe_call GWArrivals (hr.mono (by decide)) (by rfl) gWArrivals kWArrivals bWArrivals .nil pass0 (pa_cons (pv 0) (pa_cons (pe_tup (pa_cons (pv 1) pa_nil)) (pa_cons (pv 3) (pa_cons (pe_tup (pa_cons pe_int (pa_cons pe_int pa_nil))) pa_nil))))))
      (pss_one (ps_expr (pe_bm PySem.F.plainAttrs_list PySem.F.slot_list_append PySem.F.type_list_append mt_append (pv 2) (pa_cons (pe_lc (own := [("_law_other", 5)]) (g := (gName 5)) (tt := tYes) (by rfl) scWTable.nd (pi_tup (pe_ix (ix_tup : IxR _ (rIxT K)) (pv 0) pe_int (fun _ _ => rfl))) (blkOk_by (own := [("_law_other", 5)]) (N := nWTable) (sc := defScope sWTable) (by decide +kernel)) (fun _ _ _ _ _ => (pg_name (i := 5) scWTable.nd rfl (.inl rfl))) (fun _ _ _ _ _ => pts_nil) (fun _ _ _ _ _ => (pe_ifExp (pt_cmpR op_eq (pv 5) (pv 3) (nomark _)) pe_int (pe_ifExp (pt_cmp (pc_din hu (pv 5) (pv 4))) (pe_ix (ix_tup : IxR _ (rIxT K)) (pe_dget hu (pv 4) (pv 5) (fun _ _ => rfl)) pe_int (fun _ _ => rfl)) pe_non)))) pa_nil))))))
    (pss_one (ps_ret (pv 2))))), ?_⟩
  have hPl := hg.lenP
  obtain ⟨ap, ar, rs, hw1, hap, hR, hrs⟩ := hg.wb
  refine q_asgL (el_lst ea_nil (by simp)) fun gt H1 hgt e1 h1 => ?_
  refine q_of (s_forT (xs := Pl.map V.str) (ev_web0 (ev_var rfl) (ex_t e1 hw1)) (ex_t e1 hap.sq)
    (fun i σ' H' => ∃ (vs : List V) (o1 o2 : Option V), σ' = [some (.ref a), some (.ref b), some (.ref gt), o1, o2, none] ∧ Ex H H' ∧ H' gt = some (.lst vs) ∧ Paired (fun v q => ∃ l, v = .ref l ∧ l ≠ gt ∧ H' l = some (.lst (rowV R ρ Pl q))) vs (Pl.take i))
    (fun H2 e2 => ⟨[], none, none, rfl, e1.trans e2, e2 _ _ h1, .nil⟩) (fun i σ' H' _ ⟨_, _, _, _, e, _⟩ => ex_t e hap.sq) ?_ ?_)
  · rintro i x σ' H' hx ⟨vs, o1, o2, rfl, e2, h2, hP⟩
    rw [List.getElem?_map] at hx
    cases hp : Pl[i]? with
    | none => rw [hp] at hx; cases hx
    | some p =>
    rw [hp] at hx
    cases hx
    have hlv := paired_len hP
    have hli : (Pl.take i).length ≤ Pl.length := by
      rw [List.length_take]
      omega
    refine q_callP (eap_v (ev_var rfl) (eap_u (eu_tup (ea_cons (ev_var rfl) ea_nil) (by simp)) (eap_v (ev_var rfl) (eap_u (eu_tup (ea_cons ev_c (ea_cons ev_c ea_nil)) (by simp)) eap_nil)))) fun vs2 H3 e3 hvs => ?_
    obtain ⟨_, rfl, wk, _, rfl, hwk, _, rfl, mo, _, rfl, hmo, rfl⟩ := hvs
    have e03 := e2.trans e3
    refine sv_larr (E := E0) (hg.mono (Tp.of e03)) (st_of hwk) (ex_t e03 hb) hW hz (List.mem_of_getElem? hp) (st_of hmo) fun rw' H4 kvs hrw e4 h4 hk4 => ?_
    have e04 := e03.trans e4
    refine s_appL (ys := rowV R ρ Pl p) ((e3.trans e4) _ _ h2) (ev_var rfl) (el_lcTy (rowV R ρ Pl p) (ev_web0 (ev_var rfl) (ex_t e04 hw1)) (ex_t e04 hap.sq) (by rw [List.length_map]; exact Nat.lt_of_le_of_lt hPl (by decide)) (by simp [rowV]) (fun _ => rfl) fun j x y H5 e5 hx hy => ?_) (by omega) fun l H5 hl e5 h5 => ?_
    · rw [List.getElem?_map] at hx
      cases hq : Pl[j]? with
      | none => rw [hq] at hx; cases hx
      | some q' =>
      rw [hq] at hx
      cases hx
      rw [rowV, List.getElem?_map, hq] at hy
      have hy : optV (RP.dayOf R ρ Pl p q') = y := Option.some.inj hy
      subst hy
      by_cases hqp : q' = p
      · refine ev_if (b := true) (et_is (et_test (ev_op (ev_var rfl) (ev_var rfl) (rv_eq rfl))) (decide_eq_true (by rw [hqp]))) (fun _ => ?_) (fun z => absurd z (by decide))
        rw [RP.dayOf, if_pos hqp]
        exact ev_c
      · refine ev_if (b := false) (et_is (et_test (ev_op (ev_var rfl) (ev_var rfl) (rv_eq rfl))) (decide_eq_false fun z => hqp (V.str.inj z))) (fun z => absurd z (by decide)) (fun _ => ?_)
        rw [RP.dayOf, if_neg hqp]
        cases hlk : RP.look (RP.fin R ρ Pl p) q' with
        | none =>
          exact ev_if (b := false) (et_is (et_B (ev_din (ev_var rfl) (ev_var rfl) (e5 _ _ h4))) (by rw [dk_none hk4 hlk]; rfl)) (fun z => absurd z (by decide)) (fun _ => ev_c)
        | some t =>
          obtain ⟨v, hv, t', rfl, ht⟩ := dk_some hk4 hlk
          exact ev_if (b := true) (et_is (et_B (ev_din (ev_var rfl) (ev_var rfl) (e5 _ _ h4))) (by rw [hv]; rfl)) (fun _ => ev_op (ev_dget (ev_var rfl) (ev_var rfl) (e5 _ _ h4) hv) ev_c (rv_ixT (ex_t e5 ht) rfl)) (fun z => absurd z (by decide))
    · have hne : l ≠ gt := fun z => by
        subst z
        rw [(e3.trans e4) _ _ h2] at hl
        cases hl
      refine ⟨_, _, _, rfl, Ex.mut (e04.trans e5) hgt, upd_same, ?_⟩
      rw [List.take_add_one, hp]
      refine paired_snoc (paired_mono hP fun v q ⟨l', q1, q2, q3⟩ => ⟨l', q1, q2, ?_⟩) ⟨l, rfl, hne, ?_⟩
      · rw [upd_ne q2]
        exact ((e3.trans e4).trans e5) _ _ q3
      · rw [upd_ne hne]
        exact h5
  · rintro σ' H' ⟨vs, o1, o2, rfl, e2, h2, hP⟩
    rw [List.length_map, List.take_length] at hP
    refine s_ret (ev_var rfl) fun H3 e3 => ?_
    exact q gt H3 vs hgt (e2.trans e3) (e3 _ _ h2) (paired_mono hP fun v q ⟨l', q1, q2, q3⟩ => ⟨l', q1, e3 _ _ q3⟩)
def spDue (K : PySem.W.Frag) : Sp := fun vs H Q _ => ∃ (a b : Addr) (Pl ρ : List Str) (R : List RdS) (i : Nat) (r s : Str), vs = [.ref a, .ref b, .int i] ∧ Gd K H a Pl R ∧ Pl ≠ [] ∧ SqT K H b (ρ.map V.str) ∧ RP.Whole R ρ ∧ ρ.length < 1000 ∧ ρ[i]? = some r ∧ ρ[i + 1]? = some s ∧
  ∀ p H2 vs, H p = none → Ex H H2 → H2 p = some (.lst vs) → Paired (IsDu K H2) vs (RP.due R Pl ρ (RP.swp ρ i r s)) → Q (.ref p) H2
theorem eap_l {σ : L2.St} {H : Hp} {te : TE} {tr : TA} {P : List V → Hp → Prop} {xs : List V} (h : EvL te σ H xs) (hr : ∀ l H2, H l = none → Ex H H2 → H2 l = some (.lst xs) → EvAP tr σ H2 (fun ws H3 => P (.ref l :: ws) H3)) : EvAP (tCons te tr) σ H P := fun H1 e Q q =>
  h H1 e _ fun l H2 hl e2 h2 => hr l H2 (fresh_back e hl) (e.trans e2) h2 H2 (Ex.refl H2) _ fun ws H3 e3 hP => q (.ref l :: ws) H3 (e2.trans e3) hP
theorem eap_mono {σ : L2.St} {H : Hp} {ta : TA} {P P' : List V → Hp → Prop} (h : EvAP ta σ H P) (f : ∀ vs H2, Ex H H2 → P vs H2 → P' vs H2) : EvAP ta σ H P' := fun H1 e Q q => h H1 e _ fun vs H2 e2 hP => q vs H2 e2 (f vs H2 (e.trans e2) hP)
theorem ep_callP {σ : L2.St} {H : Hp} {sp : Sp} {E : XK} {ta : TA} {P : List V → Hp → Prop} {P0 : V → Hp → Prop} (h : EvAP ta σ H P) (hs : ∀ vs H1, Ex H H1 → P vs H1 → ∀ Q : VK, (∀ v H2, Ex H1 H2 → P0 v H2 → Q v H2) → sp vs H1 Q E) : EvP (tCall sp [] E ta) σ H P0 := fun H1 e Q q => h H1 e _ fun vs H2 e2 hP => by
  show sp (vs ++ []) H2 _ E
  rw [List.append_nil]
  exact hs vs H2 (e.trans e2) hP Q fun v H3 e3 hv => q v H3 (e2.trans e3) hv
theorem c_due (Z : Frees mg) (hWTable : Cal P w K mg base CX0 3 "_law_table" ["_law_web_here", "_law_rota_here"] (spTable K)) (hWSwapped : Cal P w K mg base CX0 1 "_law_swapped" ["_law_rota_here", "_law_at"] (spExch K)) (F : HasD K mg "_law_due" sWDue) : Cal P w K mg base CX0 4 "_law_due" ["_law_web_here", "_law_rota_here", "_law_at"] (spDue K) := by
  obtain ⟨_, _, GWTable, gWTable, kWTable, bWTable⟩ := hWTable
  obtain ⟨_, _, GWSwapped, gWSwapped, kWSwapped, bWSwapped⟩ := hWSwapped
  refine cal_of F scWDue (fun vs H Q E ⟨_, _, _, _, _, _, _, _, e, _⟩ => by rw [e]; rfl) (fun _ _ _ _ _ _ us hl => match us, hl with | [_, _, _], _ => rfl) fun f cdv A outer s H vs Q E hr h => ?_
  obtain ⟨a, b, Pl, ρ, R, i, r, s', rfl, hg, hP0, hb, hW, hρ, hr0, hs0, k⟩ := h
  refine ⟨_, (pss_cons (ps_par3 (i := 3) (j := 4) (l := 5) (by rfl) scWDue.nd rfl rfl rfl (by decide) (by decide) (by decide) rfl rfl rfl (pa_cons (pe_lst pa_nil) (pa_cons (pe_call GWTable (hr.mono (by decide)) (by rfl) gWTable kWTable bWTable .nil pass0 (pa_cons (pv 0) (pa_cons (pv 1) pa_nil))) (pa_cons (pe_call GWTable (hr.mono (by decide)) (by rfl) gWTable kWTable bWTable .nil pass0 (pa_cons (pv 0) (pa_cons (pe_call GWSwapped (hr.mono (by decide)) (by rfl) gWSwapped kWSwapped bWSwapped .nil pass0 (pa_cons (pv 1) (pa_cons (pv 2) pa_nil))) pa_nil))) pa_nil))) (by rfl))
    (pss_cons (ps_for PassesOwn.never rfl (pi_enumT (by rfl) Z.enumerate_ (pa_cons (pe_ix (ix_tup : IxR _ (rIxT K)) (pv 0) pe_int (fun _ _ => rfl)) pa_nil)) (pg_tup (n := 2) (by rfl) (pgs_cons (pg_name (i := 6) scWDue.nd rfl (.inl rfl)) (pgs_cons (pg_name (i := 7) scWDue.nd rfl (.inl rfl)) pgs_nil)))
      (pss_one (ps_for PassesOwn.never rfl (pi_enumT (by rfl) Z.enumerate_ (pa_cons (pe_ix (ix_tup : IxR _ (rIxT K)) (pv 0) pe_int (fun _ _ => rfl)) pa_nil)) (pg_tup (n := 2) (by rfl) (pgs_cons (pg_name (i := 8) scWDue.nd rfl (.inl rfl)) (pgs_cons (pg_name (i := 9) scWDue.nd rfl (.inl rfl)) pgs_nil)))
        (pss_one (ps_if (pt_cmpR op_ne (pe_ix (ix_list : IxR _ (rIxL K)) (pe_ix (ix_list : IxR _ (rIxL K)) (pv 4) (pv 6) (fun _ _ => rfl)) (pv 8) (fun _ _ => rfl)) (pe_ix (ix_list : IxR _ (rIxL K)) (pe_ix (ix_list : IxR _ (rIxL K)) (pv 5) (pv 6) (fun _ _ => rfl)) (pv 8) (fun _ _ => rfl)) (nomark _))
          (pss_one (ps_expr (pe_bm PySem.F.plainAttrs_list PySem.F.slot_list_append PySem.F.type_list_append mt_append (pv 3) (pa_cons (pe_tup (pa_cons (pv 7) (pa_cons (pv 9) (pa_cons (pe_op op_sub (pe_ix (ix_list : IxR _ (rIxL K)) (pe_ix (ix_list : IxR _ (rIxL K)) (pv 5) (pv 6) (fun _ _ => rfl)) (pv 8) (fun _ _ => rfl)) (pe_ix (ix_list : IxR _ (rIxL K)) (pe_ix (ix_list : IxR _ (rIxL K)) (pv 4) (pv 6) (fun _ _ => rfl)) (pv 8) (fun _ _ => rfl))) pa_nil)))) pa_nil)))) pss_nil)))))
    (pss_one (ps_ret (pv 3))))), ?_⟩
  have hil : i + 1 < ρ.length := (List.getElem?_eq_some_iff.mp hs0).1
  have hPm := RP.swp_perm hr0 hs0
  have hW' : RP.Whole R (RP.swp ρ i r s') := hW.perm hPm
  have hrow0 : ∀ ρ p, rowV R ρ Pl p ≠ [] := fun ρ p z => hP0 (List.map_eq_nil_iff.mp z)
  refine q_of (s_par3 (P := fun vs H10 => ∃ fl bf bh, vs = [.ref fl, .ref bf, .ref bh] ∧ Ex H H10 ∧ H fl = none ∧ H10 fl = some (.lst []) ∧ bf ≠ fl ∧ bh ≠ fl ∧ (∃ vB, H10 bf = some (.lst vB) ∧ Paired (fun v q => ∃ l, v = .ref l ∧ H10 l = some (.lst (rowV R ρ Pl q))) vB Pl) ∧ (∃ vA, H10 bh = some (.lst vA) ∧ Paired (fun v q => ∃ l, v = .ref l ∧ H10 l = some (.lst (rowV R (RP.swp ρ i r s') Pl q))) vA Pl)) ?_ ?_)
  · refine eap_l (el_lst ea_nil (by simp)) fun fl H1 hfl e1 h1 => ?_
    refine eap_mono (eap_p (P0 := fun v H4 => ∃ bf vB, v = .ref bf ∧ H1 bf = none ∧ H4 bf = some (.lst vB) ∧ Paired (fun v q => ∃ l, v = V.ref l ∧ H4 l = some (HO.lst (rowV R ρ Pl q))) vB Pl) (ep_call (ea_cons (ev_var rfl) (ea_cons (ev_var rfl) ea_nil)) (fun H3 e3 Q3 q3 => ⟨a, b, Pl, ρ, R, rfl, hg.mono (Tp.of (e1.trans e3)), ex_t (e1.trans e3) hb, hW, hρ, fun bf H4 vB hbf e4 h4 hB => q3 _ H4 e4 ⟨bf, vB, rfl, fresh_back e3 hbf, h4, hB⟩⟩))
      (fun v H1 H2 e ⟨bf, vB, h1, h2, h3, h4⟩ => ⟨bf, vB, h1, h2, e _ _ h3, paired_mono h4 fun v q ⟨l, q1, q2⟩ => ⟨l, q1, e _ _ q2⟩⟩)
      (eap_p (P0 := fun v H4 => ∃ bf vB, v = .ref bf ∧ H1 bf = none ∧ H4 bf = some (.lst vB) ∧ Paired (fun v q => ∃ l, v = V.ref l ∧ H4 l = some (HO.lst (rowV R (RP.swp ρ i r s') Pl q))) vB Pl)
        (ep_callP (eap_v (ev_var rfl) (eap_p (P0 := fun v H => ∃ p, v = .ref p ∧ SqT K H p ((RP.swp ρ i r s').map V.str)) (ep_call (ea_cons (ev_var rfl) (ea_cons (ev_var rfl) ea_nil)) fun H9 e9 Q' k' => ⟨b, ρ, i, r, s', rfl, ex_t (e1.trans e9) hb, hρ, hr0, hs0, fun p H10 e10 hp => k' _ H10 e10 ⟨p, rfl, hp⟩⟩) (fun v H1 H2 e ⟨p, h1, h2⟩ => ⟨p, h1, ex_t e h2⟩) eap_nil)) fun vs H3 e3 hvs Q3 q3 => by
          obtain ⟨_, rfl, _, _, rfl, ⟨p, rfl, hp⟩, rfl⟩ := hvs
          exact ⟨a, p, Pl, RP.swp ρ i r s', R, rfl, hg.mono (Tp.of (e1.trans e3)), hp, hW', by rw [RP.swp_len hil]; exact hρ, fun bf H4 vB hbf e4 h4 hB => q3 _ H4 e4 ⟨bf, vB, rfl, fresh_back e3 hbf, h4, hB⟩⟩)
        (fun v H1 H2 e ⟨bf, vB, h1, h2, h3, h4⟩ => ⟨bf, vB, h1, h2, e _ _ h3, paired_mono h4 fun v q ⟨l, q1, q2⟩ => ⟨l, q1, e _ _ q2⟩⟩) eap_nil)) fun vs H10 e10 hvs => ?_
    obtain ⟨_, _, rfl, ⟨bf, vB, rfl, hbn, hbf, hB⟩, _, _, rfl, ⟨bh, vA, rfl, hhn, hbh, hA⟩, rfl⟩ := hvs
    exact ⟨fl, bf, bh, rfl, e1.trans e10, hfl, e10 _ _ h1, (fun z => by rw [z, h1] at hbn; cases hbn), (fun z => by rw [z, h1] at hhn; cases hhn), ⟨vB, hbf, hB⟩, ⟨vA, hbh, hA⟩⟩
  · rintro vs H10 e10 ⟨fl, bf, bh, rfl, e010', hfl0, h11, hbf0, hbh0, ⟨vB, hbf, hB⟩, ⟨vA, hbh, hA⟩⟩
    refine ⟨_, _, _, rfl, ?_⟩
    obtain ⟨Hb, hHb⟩ : ∃ Hb : Hp, Hb = fun c => if c = fl then none else H10 c := ⟨_, rfl⟩
    have hin : ∀ c o, c ≠ fl → H10 c = some o → Hb c = some o := fun c o n h => by
      rw [hHb]
      show (if c = fl then none else H10 c) = _
      rw [if_neg n]
      exact h
    have hfl : Hb fl = none := by
      rw [hHb]
      exact if_pos rfl
    have e11 : Ex Hb H10 := fun c o h => by
      rw [hHb] at h
      by_cases z : c = fl
      · have h : (if c = fl then none else H10 c) = some o := h
        rw [if_pos z] at h
        cases h
      · have h : (if c = fl then none else H10 c) = some o := h
        rw [if_neg z] at h
        exact h
    have e010 : Ex H Hb := fun c o h => hin c o (ne_of_none h hfl0) (e010' _ _ h)
    have hbf := hin _ _ hbf0 hbf
    have hbh := hin _ _ hbh0 hbh
    have hB := paired_mono hB fun v q ⟨l, h1, h2⟩ => (⟨l, h1, hin _ _ (fun z => by rw [z, h11] at h2; exact hrow0 _ _ (HO.lst.inj (Option.some.inj h2)).symm) h2⟩ : ∃ l, v = V.ref l ∧ Hb l = some (HO.lst (rowV R ρ Pl q)))
    have hA := paired_mono hA fun v q ⟨l, h1, h2⟩ => (⟨l, h1, hin _ _ (fun z => by rw [z, h11] at h2; exact hrow0 _ _ (HO.lst.inj (Option.some.inj h2)).symm) h2⟩ : ∃ l, v = V.ref l ∧ Hb l = some (HO.lst (rowV R (RP.swp ρ i r s') Pl q)))
    generalize H10 = H11 at e11 h11
    have hPl := hg.lenP
    obtain ⟨ap, ar, rs, hwb, hap, _, _⟩ := (hg.mono (Tp.of (K := K) e010)).wb
    have hcell : ∀ (H' : Hp), Ex Hb H' → ∀ (i1 i2 : Nat) (p q : Str) (σ : L2.St), Pl[i1]? = some p → Pl[i2]? = some q → σ[4]? = some (some (.ref bf)) → σ[5]? = some (some (.ref bh)) → σ[6]? = some (some (.int i1)) → σ[8]? = some (some (.int i2)) →
        Ev (tOp (rIxL K) (tOp (rIxL K) (tVar 4) (tVar 6)) (tVar 8)) σ H' (optV (RP.dayOf R ρ Pl p q)) ∧ Ev (tOp (rIxL K) (tOp (rIxL K) (tVar 5) (tVar 6)) (tVar 8)) σ H' (optV (RP.dayOf R (RP.swp ρ i r s') Pl p q)) := by
      intro H' e i1 i2 p q σ hi1 hi2 h3 h4 h6 h8
      obtain ⟨x1, hx1, l1, rfl, hl1⟩ := paired_at hB hi1
      obtain ⟨x2, hx2, l2, rfl, hl2⟩ := paired_at hA hi1
      refine ⟨ev_op (ev_op (ev_var h3) (ev_var h6) (rv_ixL (sq_of (e _ _ hbf)) (atI_nat hx1))) (ev_var h8) (rv_ixL (sq_of (e _ _ hl1)) (atI_nat ?_)), ev_op (ev_op (ev_var h4) (ev_var h6) (rv_ixL (sq_of (e _ _ hbh)) (atI_nat hx2))) (ev_var h8) (rv_ixL (sq_of (e _ _ hl2)) (atI_nat ?_))⟩
      · rw [rowV, List.getElem?_map, hi2]; rfl
      · rw [rowV, List.getElem?_map, hi2]; rfl
    have hbound : ∀ n m : Nat, n ≤ Pl.length → m ≤ Pl.length → ∀ p, (((Pl.take n).flatMap fun p => Pl.filterMap fun q => RP.cell R Pl ρ (RP.swp ρ i r s') p q) ++ (Pl.take m).filterMap fun q => RP.cell R Pl ρ (RP.swp ρ i r s') p q).length < 100000 := by
      intro n m hn hm p
      have h1 : ∀ l : List Str, (l.flatMap fun p => Pl.filterMap fun q => RP.cell R Pl ρ (RP.swp ρ i r s') p q).length ≤ l.length * 10 := by
        intro l
        induction l with
        | nil => simp
        | cons a t ih =>
          rw [List.flatMap_cons, List.length_append, List.length_cons]
          have := List.length_filterMap_le (fun q => RP.cell R Pl ρ (RP.swp ρ i r s') a q) Pl
          omega
      have h2 := h1 (Pl.take n)
      have h3 := List.length_filterMap_le (fun q => RP.cell R Pl ρ (RP.swp ρ i r s') p q) (Pl.take m)
      rw [List.length_append]
      rw [List.length_take] at h2 h3
      omega
    refine q_of (s_forE (xs := Pl.map V.str) (ev_web0 (ev_var rfl) (ex_t e11 hwb)) (ex_t e11 hap.sq)
      (fun n σ' H' => ∃ (vs : List V) (o1 o2 o3 o4 : Option V), σ' = [some (.ref a), some (.ref b), some (.int i), some (.ref fl), some (.ref bf), some (.ref bh), o1, o2, o3, o4] ∧ Ex Hb H' ∧ H' fl = some (.lst vs) ∧ Paired (IsDu K H') vs ((Pl.take n).flatMap fun p => Pl.filterMap fun q => RP.cell R Pl ρ (RP.swp ρ i r s') p q))
      (fun H12 e12 => ⟨[], none, none, none, none, rfl, e11.trans e12, e12 _ _ h11, .nil⟩) (fun n σ' H' _ ⟨_, _, _, _, _, _, e, _⟩ => ex_t e hap.sq) ?_ ?_)
    · rintro n x σ' H' H12 hx ⟨vs, o1, o2, o3, o4, rfl, e12, h12, hP12⟩ e12'
      rw [List.getElem?_map] at hx
      cases hpn : Pl[n]? with
      | none => rw [hpn] at hx; cases hx
      | some p =>
      rw [hpn] at hx
      cases hx
      have hnl : n < Pl.length := (List.getElem?_eq_some_iff.mp hpn).1
      refine s_forE (xs := Pl.map V.str) (ev_web0 (ev_var rfl) (ex_t (e12.trans e12') hwb)) (ex_t (e12.trans e12') hap.sq)
        (fun m σ' H' => ∃ (vs : List V) (o3 o4 : Option V), σ' = [some (.ref a), some (.ref b), some (.int i), some (.ref fl), some (.ref bf), some (.ref bh), some (.int n), some (.str p), o3, o4] ∧ Ex Hb H' ∧ H' fl = some (.lst vs) ∧ Paired (IsDu K H') vs (((Pl.take n).flatMap fun p => Pl.filterMap fun q => RP.cell R Pl ρ (RP.swp ρ i r s') p q) ++ (Pl.take m).filterMap fun q => RP.cell R Pl ρ (RP.swp ρ i r s') p q))
        (fun H13 e13 => ⟨vs, o3, o4, rfl, (e12.trans e12').trans e13, (e12'.trans e13) _ _ h12, by
          simpa using paired_mono hP12 fun v e h => h.mono (Tp.of (e12'.trans e13))⟩) (fun m σ' H' _ ⟨_, _, _, _, e, _⟩ => ex_t e hap.sq) ?_ ?_
      · rintro m x σ' H' H13 hx ⟨vs, o3, o4, rfl, e13, h13, hP13⟩ e13'
        rw [List.getElem?_map] at hx
        cases hqm : Pl[m]? with
        | none => rw [hqm] at hx; cases hx
        | some q =>
        rw [hqm] at hx
        cases hx
        have hml : m < Pl.length := (List.getElem?_eq_some_iff.mp hqm).1
        obtain ⟨c1, c2⟩ := hcell H13 (e13.trans e13') n m p q [some (.ref a), some (.ref b), some (.int i), some (.ref fl), some (.ref bf), some (.ref bh), some (.int n), some (.str p), some (.int m), some (.str q)] hpn hqm rfl rfl rfl rfl
        have htk : (Pl.take (m + 1)).filterMap (fun q => RP.cell R Pl ρ (RP.swp ρ i r s') p q) = (Pl.take m).filterMap (fun q => RP.cell R Pl ρ (RP.swp ρ i r s') p q) ++ (RP.cell R Pl ρ (RP.swp ρ i r s') p q).toList := by
          rw [List.take_add_one, hqm, List.filterMap_append]
          cases hc : RP.cell R Pl ρ (RP.swp ρ i r s') p q <;> simp [hc]
        have hsome := RP.dayOf_some hW hW' hg.inP (List.mem_of_getElem? hpn) q
        have hlenv := paired_len hP13
        have hbd := hbound n m (Nat.le_of_lt hnl) (Nat.le_of_lt hml) p
        generalize hd1 : RP.dayOf R ρ Pl p q = d1 at *
        generalize hd2 : RP.dayOf R (RP.swp ρ i r s') Pl p q = d2 at *
        refine s_when (et_test (ev_op c1 c2 (rv_ne (by cases d1 <;> cases d2 <;> rfl)))) (fun hbt H14 e14 => ?_) (fun hbt H14 e14 => ?_)
        · have hne : ¬ d1 = d2 := fun z => by
            rw [z] at hbt
            simp at hbt
          obtain ⟨n1, rfl⟩ : ∃ n1, d1 = some n1 := by
            cases d1 with
            | none =>
              cases d2 with
              | none => exact absurd rfl hne
              | some _ => cases hsome
            | some n1 => exact ⟨n1, rfl⟩
          obtain ⟨n2, rfl⟩ : ∃ n2, d2 = some n2 := Option.isSome_iff_exists.mp (hsome.symm.trans rfl)
          have hc : RP.cell R Pl ρ (RP.swp ρ i r s') p q = some (p, q, (n2 : Int) - (n1 : Int)) := by
            unfold RP.cell
            rw [hd1, hd2, if_neg hne]
            rfl
          refine s_appU ((e13'.trans e14) _ _ h13) (ev_var rfl) (eu_tup (ea_cons (ev_var rfl) (ea_cons (ev_var rfl) (ea_cons (ev_op (c2.mono e14) (c1.mono e14) rv_I0) ea_nil))) (by simp)) (by rw [hlenv]; exact hbd) fun t H15 ht e15 h15 => ?_
          have tp : Tp K H15 (L2.upd H15 fl (.lst (vs ++ [.ref t]))) := Tp.lst ((e13'.trans (e14.trans e15)) _ _ h13)
          refine ⟨_, _, _, rfl, Ex.mut ((e13.trans e13').trans (e14.trans e15)) hfl, upd_same, ?_⟩
          rw [htk, hc, ← List.append_assoc]
          exact paired_snoc (paired_mono hP13 fun v e h => h.mono ((Tp.of (e13'.trans (e14.trans e15))).trans tp)) ⟨t, rfl, tp.1 _ _ (st_of h15)⟩
        · have heq : d1 = d2 := by
            cases d1 with
            | none =>
              cases d2 with
              | none => rfl
              | some _ => cases hsome
            | some n1 =>
              cases d2 with
              | none => cases hsome
              | some n2 =>
                by_cases z : n1 = n2
                · rw [z]
                · have z2 : decide (optV (some n1) = optV (some n2)) = false := decide_eq_false fun w => z (by
                    have := V.int.inj w
                    omega)
                  rw [z2] at hbt
                  simp at hbt
          have hc : RP.cell R Pl ρ (RP.swp ρ i r s') p q = none := by
            unfold RP.cell
            rw [hd1, hd2, if_pos heq]
          refine ⟨vs, _, _, rfl, (e13.trans e13').trans e14, (e13'.trans e14) _ _ h13, ?_⟩
          rw [htk, hc]
          simpa using paired_mono hP13 fun v e h => h.mono (Tp.of (e13'.trans e14))
      · rintro σ' H' ⟨vs, o3, o4, rfl, e13, h13, hP13⟩
        rw [List.length_map, List.take_length] at hP13
        refine ⟨vs, _, _, _, _, rfl, e13, h13, ?_⟩
        rw [List.take_add_one, hpn, List.flatMap_append]
        simpa using hP13
    · rintro σ' H' ⟨vs, o1, o2, o3, o4, rfl, e12, h12, hP12⟩
      rw [List.length_map, List.take_length] at hP12
      refine s_ret (ev_var rfl) fun H13 e13 => ?_
      exact k fl H13 vs (fresh_back e010 hfl) ((e010.trans e12).trans e13) (e13 _ _ h12) (paired_mono hP12 fun v e h => h.mono (Tp.of e13))
end
end RW
end

section
set_option maxRecDepth 100000
set_option maxHeartbeats 4000000
/-! the walk of the law's apart, path, tree_due -/
namespace RW
open PySem PySem.Spec PyProof.Rows L2 Evl

section
variable {K : PySem.W.Frag} {σ : L2.St} {H : Hp} {te tl : TE} {tt : TT}
/-- [x for x in t if ..] -/
theorem el_lcTF {a : Addr} {xs : List V} {j : Nat} {vs : List Nat} (p : V → Bool) (f : V → V) (h : Ev tl σ H (.ref a)) (hx : SqT K H a xs) (hz : xs.length < 100000) (hw : ∀ x, wipe ((wipe σ vs).set j (some x)) vs = wipe σ vs)
    (ht : ∀ (i : Nat) (x : V) H1, Ex H H1 → xs[i]? = some x → EvT tt ((wipe σ vs).set j (some x)) H1 (p x)) (he : ∀ (i : Nat) (x : V) H1, Ex H H1 → xs[i]? = some x → p x = true → Ev te ((wipe σ vs).set j (some x)) H1 (f x)) :
    EvL (tLc (iTup K tl) (gName j) tt te vs) σ H ((xs.filter p).map f) := fun H0 e Q q => h H0 e _ fun H1 e1 => ⟨a, rfl, ⟨xs, ex_t (e.trans e1) hx⟩, fun D hD => by
  have htk : ∀ (i : Nat) (x : V), xs[i]? = some x → ((xs.take (i + 1)).filter p).map f = ((xs.take i).filter p).map f ++ (if p x = true then [f x] else []) := fun i x hi => by
    rw [List.take_add_one, hi, List.filter_append]
    cases hp : p x <;> simp [hp]
  refine lc_tup (K := K) (a := a) (xs := xs) (Qd := fun H => Q (.ref D) H) (fun i H' => Ex H1 H' ∧ H' D = some (.lst (((xs.take i).filter p).map f))) ⟨Ex.mut (Ex.refl H1) hD, upd_same⟩ (fun i H' _ p => ex_t ((e.trans e1).trans p.1) hx) (fun i x H' hi p' => ?_) (fun H' p' => ?_)
  · obtain ⟨e2, h1⟩ := p'
    have hlt : i < xs.length := (List.getElem?_eq_some_iff.mp hi).1
    refine ⟨hw x, ht i x H' ((e.trans e1).trans e2) hi H' (Ex.refl H') _ fun H2 e3 => ?_⟩
    have hk := htk i x hi
    cases hp : p x with
    | true =>
      rw [hp, if_pos rfl] at hk
      refine he i x H2 (((e.trans e1).trans e2).trans e3) hi hp H2 (Ex.refl H2) _ fun H3 e4 => ⟨_, (e3.trans e4) _ _ h1, sz_lt ?_, Ex.mut (e2.trans (e3.trans e4)) hD, by rw [hk, upd_same]⟩
      rw [List.length_map]
      have h3 := List.length_filter_le p (xs.take i)
      rw [List.length_take] at h3
      omega
    | false =>
      rw [hp] at hk
      refine ⟨e2.trans e3, ?_⟩
      rw [hk]
      simpa using e3 _ _ h1
  · obtain ⟨e2, h1⟩ := p'
    rw [List.take_length] at h1
    exact q D H' (fresh_back e1 hD) (e1.trans e2) h1⟩
theorem rv_eqD {x y : V} {d e : PyData} (h1 : Dp K H x d) (h2 : Dp K H y e) (s1 : SeqAt.shaped d = true) (s2 : SeqAt.shaped e = true) : RV (rEqD K) x y H (.bl (PyData.eqv d e)) := fun H1 ex Q q => ⟨d, e, dp_mono ex h1, dp_mono ex h2, s1, s2, q H1 (Ex.refl H1)⟩
theorem rv_neD {x y : V} {d e : PyData} (h1 : Dp K H x d) (h2 : Dp K H y e) (s1 : SeqAt.shaped d = true) (s2 : SeqAt.shaped e = true) : RV (rNeD K) x y H (.bl (!PyData.eqv d e)) := fun H1 ex Q q => ⟨d, e, dp_mono ex h1, dp_mono ex h2, s1, s2, q H1 (Ex.refl H1)⟩
end
/-- texts that can be laid -/
def Ok (s : Str) : Prop := PyData.canLay0 (.str s) = true
theorem lay_strs : ∀ {l : List Str}, (∀ s ∈ l, Ok s) → PyData.canLayAll0 (l.map PyData.str) = true
  | [], _ => rfl
  | s :: t, h => by
    show (PyData.canLay0 (.str s) && PyData.canLayAll0 (t.map PyData.str)) = true
    rw [lay_strs fun s hs => h s (List.mem_cons_of_mem _ hs), Bool.and_true]
    exact h s List.mem_cons_self
theorem depth_strs : ∀ l : List Str, PyData.depthAll (l.map PyData.str) = 0
  | [] => rfl
  | s :: t => by
    show max 0 (PyData.depthAll (t.map PyData.str)) = 0
    rw [depth_strs t]
    rfl
theorem shaped_strs {l : List Str} (h : ∀ s ∈ l, Ok s) : SeqAt.shaped (.list (l.map PyData.str)) = true := by
  show (PyData.canLayAll0 (l.map PyData.str) && decide (PyData.depthAll (l.map PyData.str) + 1 ≤ 64)) = true
  rw [lay_strs h, depth_strs]
  rfl
theorem shaped_nil : SeqAt.shaped (.list []) = true := rfl
section
variable {P : Program} {w : World} {K : PySem.W.Frag} {mg : Str → Option Value} {base : Heap}
def spApart (K : PySem.W.Frag) : Sp := fun vs H Q _ => ∃ (a : Addr) (Pl : List Str) (R : List RdS) (r s x1 y1 x2 y2 : Str), vs = [.ref a, .str r, .str s] ∧ Gd K H a Pl R ∧ (∀ p ∈ Pl, Ok p) ∧ RP.look R r = some (x1, y1) ∧ RP.look R s = some (x2, y2) ∧
  ∀ ap : Bool, (ap = true ↔ RP.Apart x1 y1 x2 y2) → Rv (.bl ap) H Q
theorem c_apart (Z : Frees mg) (F : HasD K mg "_law_apart" sWApart) : Cal P w K mg base CX0 1 "_law_apart" ["_law_web_here", "_law_one_here", "_law_other"] (spApart K) := by
  refine cal_of F scWApart (fun vs H Q E ⟨_, _, _, _, _, _, _, _, _, e, _⟩ => by rw [e]; rfl) (fun _ _ _ _ _ _ us hl => match us, hl with | [_, _, _], _ => rfl) fun f cdv A outer s H vs Q E hr h => ?_
  obtain ⟨a, Pl, R, r, s', x1, y1, x2, y2, rfl, hg, hok, hl1, hl2, q⟩ := h
  have hu := hu_of hr
  refine ⟨_, (pss_cons (ps_set (i := 3) scWApart.nd rfl (.inr rfl) (pe_callTy (call_dictP rfl) (by rfl) Z.dict_ (by decide +kernel) (pa_cons (pe_lc (own := [("_law_road", 4)]) (g := (gName 4)) (tt := tYes) (by rfl) scWApart.nd (pi_tup (pe_ix (ix_tup : IxR _ (rIxT K)) (pv 0) pe_int (fun _ _ => rfl))) (blkOk_by (own := [("_law_road", 4)]) (N := nWApart) (sc := defScope sWApart) (by decide +kernel)) (fun _ _ _ _ _ => (pg_name (i := 4) scWApart.nd rfl (.inl rfl))) (fun _ _ _ _ _ => pts_nil) (fun _ _ _ _ _ => (pe_tup (pa_cons (pe_ix (ix_tup : IxR _ (rIxT K)) (pv 4) pe_int (fun _ _ => rfl)) (pa_cons (pe_slice (sl_tupA : SlR _ (rSlA K)) (pv 4) (po_some pe_int) po_none) pa_nil))))) pa_nil)))
    (pss_one (ps_ret (pe_cmpR (op_eqD hr.units) (pe_lc (own := [("_law_place", 5)]) (g := (gName 5)) (by rfl) scWApart.nd (pi_tup (pe_dget hu (pv 3) (pv 1) (fun _ _ => rfl))) (blkOk_by (own := [("_law_place", 5)]) (N := nWApart) (sc := defScope sWApart) (by decide +kernel)) (fun _ _ _ _ _ => (pg_name (i := 5) scWApart.nd rfl (.inl rfl))) (fun _ _ _ _ _ => (pts_one (pt_cmpR (op_in_seq : OpR _ (compareOp .In) (rIn K false)) (pv 5) (pe_dget hu (pv 3) (pv 2) (fun _ _ => rfl)) (by rfl)))) (fun _ _ _ _ _ => (pv 5))) (pe_lst pa_nil) (nomark _))))), ?_⟩
  refine q_of (ends_go (K := K) rfl hg (fun _ => rfl) (fun _ => rfl) fun ed H1 kvE _ e1 hed hkv => ?_)
  obtain ⟨v1, hv1, t1, rfl, ht1⟩ := dk_some hkv hl1
  obtain ⟨v2, hv2, t2, rfl, ht2⟩ := dk_some hkv hl2
  have hx : SqT K H1 t1 (([x1, y1] : List Str).map V.str) := ht1
  have hy : SqT K H1 t2 (([x2, y2] : List Str).map V.str) := ht2
  refine s_ret (ev_opLL (el_lcTF (fun v => inV v (([x2, y2] : List Str).map V.str)) id (ev_dget (ev_var rfl) (ev_var rfl) hed hv1) hx (by simp) (fun _ => rfl) (fun i x H2 e2 hi => ?_) (fun i x H2 e2 hi _ => ev_var rfl)) (el_lst ea_nil (by simp)) fun p q' H2 hp hq e2 => rv_eqD (d := .list ((([x1, y1] : List Str).filter fun z => decide (z ∈ [x2, y2])).map PyData.str)) (e := .list []) ?_ (.lst (sq_of hq) .nil) (shaped_strs fun z hz => ?_) shaped_nil) fun H2 e2 => ?_
  · have hm := List.mem_of_getElem? hi
    obtain ⟨z, _, rfl⟩ := List.mem_map.mp hm
    exact et_test (ev_op (ev_var rfl) (ev_dget (ev_var rfl) (ev_var rfl) (e2 _ _ hed) hv2) (rv_isT (ex_t e2 hy) rfl (flat_strs _)))
  · refine .lst (sq_of hp) ?_
    have e0 : (([x1, y1] : List Str).map V.str).filter (fun v => inV v (([x2, y2] : List Str).map V.str)) = (([x1, y1] : List Str).filter fun z => decide (z ∈ [x2, y2])).map V.str := by
      rw [List.filter_map]
      congr 1
      refine List.filter_congr fun z _ => ?_
      exact inV_strs z [x2, y2]
    rw [List.map_id, e0]
    exact dpa_strs _
  · have hz := (List.mem_filter.mp hz).1
    have h1 := hg.inP.ends r x1 y1 (RP.look_mem hl1)
    refine hok z ?_
    rcases List.mem_cons.mp hz with rfl | hz
    · exact h1.1
    · rw [List.mem_singleton.mp hz]
      exact h1.2
  · refine q (PyData.eqv (.list ((([x1, y1] : List Str).filter fun z => decide (z ∈ [x2, y2])).map PyData.str)) (.list [])) ?_ H2 (e1.trans e2)
    show PyData.eqvAll _ _ = true ↔ _
    cases hfl : ([x1, y1] : List Str).filter fun z => decide (z ∈ [x2, y2]) with
      | nil =>
        have hn := List.filter_eq_nil_iff.mp hfl
        refine ⟨fun _ => ?_, fun _ => rfl⟩
        have h1 := hn x1 (by simp)
        have h2 := hn y1 (by simp)
        simp at h1 h2
        exact ⟨h1.1, h1.2, h2.1, h2.2⟩
      | cons z t =>
        refine ⟨fun h => (by cases h), fun hA => ?_⟩
        exfalso
        have hz : z ∈ ([x1, y1] : List Str).filter fun z => decide (z ∈ [x2, y2]) := by
          rw [hfl]
          exact List.mem_cons_self
        have h1 := List.mem_filter.mp hz
        obtain ⟨a1, a2, a3, a4⟩ := hA
        have h2 : z = x2 ∨ z = y2 := by simpa using h1.2
        have h3 : z = x1 ∨ z = y1 := by simpa using h1.1
        rcases h3 with rfl | rfl <;> rcases h2 with rfl | rfl
        · exact a1 rfl
        · exact a2 rfl
        · exact a3 rfl
        · exact a4 rfl
end
end RW
end

section
set_option maxRecDepth 100000
set_option maxHeartbeats 4000000
/-! the walk of the law's path, tree_due -/
namespace RW
open PySem PySem.Spec PyProof.Rows L2 Evl

def IsWy (H : Hp) (v : V) (w : List Str) : Prop := ∃ a, v = .ref a ∧ Fz H a (w.map V.str)
theorem IsWy.mono {K : PySem.W.Frag} {H H' : Hp} {v : V} {w : List Str} (h : IsWy H v w) (t : Tp K H H') : IsWy H' v w := let ⟨a, x, y⟩ := h; ⟨a, x, t.2 _ _ y⟩
/-- no way is longer than the list of ways -/
def Shorter (W : RP.Wy Str) : Prop := ∀ q w, RP.look W q = some w → w.length < W.length
theorem shorter_add {W : RP.Wy Str} {x y f : Str} {w : List Str} (h : Shorter W) (hx : RP.look W x = some w) (hy : RP.look W y = none) : Shorter (W ++ [(y, w ++ [f])]) := by
  intro q v hv
  rw [RP.look_append] at hv
  rw [List.length_append, List.length_singleton]
  cases hq : RP.look W q with
  | some u =>
    rw [hq] at hv
    have : u = v := Option.some.inj hv
    subst this
    exact Nat.lt_succ_of_lt (h q u hq)
  | none =>
    rw [hq, RP.look_one] at hv
    simp only [Option.none_or] at hv
    split at hv
    · have := Option.some.inj hv
      subst this
      rw [List.length_append, List.length_singleton]
      exact Nat.succ_lt_succ (h x w hx)
    · cases hv
theorem shorter_step {W : RP.Wy Str} (h : Shorter W) (e : RdS) : Shorter (RP.pstep W e) := by
  unfold RP.pstep
  split
  · rename_i w h1 h2
    exact shorter_add h h1 h2
  · rename_i w h1 h2
    exact shorter_add h h2 h1
  · exact h
theorem shorter_part {R : List RdS} {W : RP.Wy Str} (h : Shorter W) : ∀ k, Shorter (RP.ppart R W k)
  | 0 => h
  | k + 1 => by
    rw [RP.ppart]
    split
    · exact shorter_part h k
    · exact shorter_step (shorter_part h k) _
theorem shorter_turns (R : List RdS) (p : Str) : ∀ n, Shorter (RP.turns R p n)
  | 0 => fun q w hw => by
    rw [RP.turns, RP.look_one] at hw
    split at hw
    · have := Option.some.inj hw
      subst this
      exact Nat.zero_lt_one
    · cases hw
  | n + 1 => shorter_part (shorter_turns R p n) _
section
variable {K : PySem.W.Frag} {σ : L2.St} {H : Hp} {ta tk td tv te : TE} {D : Ends}
theorem s_dputP {P0 : V → Hp → Prop} {d : Addr} {kvs : List (Key × V)} {q : Str} (h0 : EvP tv σ H P0) (h1 : Ev td σ H (.ref d)) (h2 : Ev tk σ H (.str q)) (hd : H d = some (.dK kvs)) (hl : kvs.length < 100000) (k : ∀ v H1 H3, Ex H H1 → P0 v H1 → Ex H1 H3 → D.nx σ (upd H3 d (.dK (putK kvs (Sum.inr q : Key) v)))) : sDPut td tk tv D σ H :=
  h0 H (Ex.refl H) _ fun v H1 e1 hv => h1 H1 e1 _ fun H2 e2 => h2 H2 (e1.trans e2) _ fun H3 e3 => ⟨d, _, rfl, DPut.k (k := (Sum.inr q : Key)) (((e1.trans e2).trans e3) _ _ hd) (sz_lt hl), k v H1 H3 e1 hv (e2.trans e3)⟩
/-- way + (road,) -/
theorem ep_way {w : List Str} {r : Str} {a : Addr} (h : Ev ta σ H (.ref a)) (ha : Fz H a (w.map V.str)) (hr : Ev te σ H (.str r)) (hz : w.length < 1000) : EvP (tOp (rCatZ K) ta (tTupZ (tCons te tNil))) σ H (fun v H2 => IsWy H2 v (w ++ [r])) := fun H1 e Q q =>
  h H1 e _ fun H2 e2 => hr H2 (e.trans e2) _ fun H3 e3 => ⟨sz_of (by simp), fun p o hp ho => by
    have ex := (e2.trans e3).trans (Ex.new (o := .frz o (.tup [V.str r])) hp)
    have hf : Fz (upd H3 p (.frz o (.tup [V.str r]))) p (([r] : List Str).map V.str) := ⟨o, upd_same, ho⟩
    refine ⟨a, p, w.map V.str, ([r] : List Str).map V.str, rfl, rfl, ex_t (e.trans ex) ha.sq, hf.sq, by simp, sz_of (by simp; omega), fun hw => ?_, fun hw p2 o2 hp2 ho2 => ?_⟩
    · have : w = [] := List.map_eq_nil_iff.mp hw
      subst this
      exact q (.ref p) _ ex ⟨p, rfl, hf⟩
    · refine q (.ref p2) _ (ex.trans (Ex.new hp2)) ⟨p2, rfl, o2, ?_, ho2⟩
      rw [upd_same, List.map_append]⟩
theorem ek_oneZ {q : Str} {Q : VK} (h1 : Ev tk σ H (.str q)) (k : ∀ d p H2, H d = none → Ex H H2 → Fz H2 p (([] : List Str).map V.str) → H2 d = some (.dK [((Sum.inr q : Key), .ref p)]) → Q (.ref d) H2) : tDisp [(tk, tTupZ tNil)] σ H Q := fun d hd =>
  h1 _ (Ex.new hd) _ fun H2 e2 => ⟨sz_of (by simp), fun p o hp ho => by
    have hne : p ≠ d := fun z => by
      subst z
      have := e2 _ _ (upd_same (H := H) (a := p) (o := HO.dK []))
      rw [hp] at this
      cases this
    have e3 := e2.trans (Ex.new (o := .frz o (.tup [])) hp)
    refine ⟨e3 _ _ upd_same, [((Sum.inr q : Key), .ref p)], rfl, by simp, ?_⟩
    refine k d p _ hd (Ex.mut ((Ex.new hd).trans e3) hd) ⟨o, ?_, ho⟩ upd_same
    rw [upd_ne hne, upd_same]
    rfl⟩
end
section
variable {P : Program} {w : World} {K : PySem.W.Frag} {mg : Str → Option Value} {base : Heap}
def spPath (K : PySem.W.Frag) : Sp := fun vs H Q _ => ∃ (a : Addr) (Pl : List Str) (R : List RdS) (p0 q0 : Str), vs = [.ref a, .str p0, .str q0] ∧ Gd K H a Pl R ∧ p0 ∈ Pl ∧
  ∀ v H2, Ex H H2 → (match RP.look (RP.turns R p0 Pl.length) q0 with | none => v = .non | some w => IsWy H2 v w) → Q v H2
theorem c_path (Z : Frees mg) (F : HasD K mg "_law_path" sWPath) : Cal P w K mg base CX0 1 "_law_path" ["_law_web_here", "_law_place", "_law_other"] (spPath K) := by
  refine cal_of F scWPath (fun vs H Q E ⟨_, _, _, _, _, e, _⟩ => by rw [e]; rfl) (fun _ _ _ _ _ _ us hl => match us, hl with | [_, _, _], _ => rfl) fun f cdv A outer s H vs Q E hr h => ?_
  obtain ⟨a, Pl, R, p0, q0, rfl, hg, hp0, q⟩ := h
  have hu := hu_of hr
  refine ⟨_, (pss_cons (ps_set (i := 3) scWPath.nd rfl (.inl rfl) (pe_disp (pps_cons (pv 1) (pe_tupZ pa_nil) pps_nil) (by rfl) (by rfl) (fun z => by cases z) (by decide)))
    (pss_cons (ps_for PassesOwn.never rfl (pi_range1 (by rfl) Z.range_ (pa_cons (pe_callB (call_len_seq : CallR _ (.builtin "len") (Evl.rLenS K)) (by rfl) Z.len_ PySem.boot_len (pa_cons (pe_ix (ix_tup : IxR _ (rIxT K)) (pv 0) pe_int (fun _ _ => rfl)) pa_nil)) pa_nil)) (pg_name (i := 4) scWPath.nd rfl (.inl rfl))
      (pss_one (ps_for PassesOwn.never rfl (pi_tup (pe_ix (ix_tup : IxR _ (rIxT K)) (pv 0) pe_int (fun _ _ => rfl))) (pg_tup (n := 3) (by rfl) (pgs_cons (pg_name (i := 5) scWPath.nd rfl (.inl rfl)) (pgs_cons (pg_name (i := 6) scWPath.nd rfl (.inl rfl)) (pgs_cons (pg_name (i := 7) scWPath.nd rfl (.inl rfl)) pgs_nil))))
        (pss_one (ps_if (PW.pt (pw_and (pt_cmp (pc_din hu (pv 6) (pv 3))) (pw_and1 (pt_cmp (pc_dnotin hu (pv 7) (pv 3))))))
          (pss_one (ps_dput hu (pv 3) (pv 7) (pe_op (op_catZ : OpR _ (binaryOp .Add) (rCatZ K)) (pe_dget hu (pv 3) (pv 6) (fun _ _ => rfl)) (pe_tupZ (pa_cons (pv 5) pa_nil))) rfl)) (pss_one (ps_if (PW.pt (pw_and (pt_cmp (pc_din hu (pv 7) (pv 3))) (pw_and1 (pt_cmp (pc_dnotin hu (pv 6) (pv 3))))))
            (pss_one (ps_dput hu (pv 3) (pv 6) (pe_op (op_catZ : OpR _ (binaryOp .Add) (rCatZ K)) (pe_dget hu (pv 3) (pv 7) (fun _ _ => rfl)) (pe_tupZ (pa_cons (pv 5) pa_nil))) rfl)) pss_nil)))))))
    (pss_one (ps_ret (pe_dget1 hu (pv 3) (pv 2) ⟨rfl, rfl, rfl, rfl⟩))))), ?_⟩
  have hPl := hg.lenP
  obtain ⟨ap, ar, rs, hw1, hap, hR, hrs⟩ := hg.wb
  have hRl := paired_len hrs
  refine q_of (ek_oneZ (ev_var rfl) fun wd p H1 hwd e1 hfz h1 => ?_)
  refine q_of (s_forR1 (n := Pl.length) (ea_cons (ev_is (ev_lenT (ev_web0 (ev_var rfl) (ex_t e1 hw1)) (ex_t e1 hap.sq)) (by rw [List.length_map])) ea_nil) ⟨by omega, by omega⟩
    (fun i σ' H' => ∃ (kvs : List (Key × V)) (o1 o2 o3 o4 : Option V), σ' = [some (.ref a), some (.str p0), some (.str q0), some (.ref wd), o1, o2, o3, o4] ∧ Ex H H' ∧ H' wd = some (.dK kvs) ∧ DkOf (IsWy H') kvs (RP.turns R p0 i))
    (fun H2 e2 => ⟨_, none, none, none, none, rfl, e1.trans e2, e2 _ _ h1, .cons ⟨rfl, p, rfl, (Tp.of (K := K) e2).2 _ _ hfz⟩ .nil⟩) ?_ ?_)
  · rintro i σ' H' hi ⟨kvs, o1, o2, o3, o4, rfl, e2, h2, hk2⟩
    refine s_forT (xs := rs) (ev_web (ev_var rfl) (ex_t e2 hw1)) (ex_t e2 hR)
      (fun k σ' H' => ∃ (kvs : List (Key × V)) (o2 o3 o4 : Option V), σ' = [some (.ref a), some (.str p0), some (.str q0), some (.ref wd), some (.int i), o2, o3, o4] ∧ Ex H H' ∧ H' wd = some (.dK kvs) ∧ DkOf (IsWy H') kvs (RP.ppart R (RP.turns R p0 i) k))
      (fun H3 e3 => ⟨kvs, o2, o3, o4, rfl, e2.trans e3, e3 _ _ h2, hk2.mono fun v b hb => hb.mono (Tp.of (K := K) e3)⟩) (fun i σ' H' _ ⟨_, _, _, _, _, e, _⟩ => ex_t e hR) ?_ ?_
    · rintro k x σ' H3 hx ⟨kvs, o2, o3, o4, rfl, e3, h3, hk3⟩
      obtain ⟨⟨f0, x0, y0⟩, hr0, t, rfl, ht⟩ := paired_at' hrs hx
      refine g_three (ex_t e3 ht) ?_
      have hWS : RP.WS R p0 (RP.ppart R (RP.turns R p0 i) k) := (RP.ws_turns hg.nd p0 i).part hg.nd k
      have hlen := hWS.len hg.inP hp0
      have hsh : Shorter (RP.ppart R (RP.turns R p0 i) k) := shorter_part (shorter_turns R p0 i) k
      have hnext : RP.ppart R (RP.turns R p0 i) (k + 1) = RP.pstep (RP.ppart R (RP.turns R p0 i) k) (f0, x0, y0) := by
        rw [RP.ppart, hr0]
      rw [hnext]
      generalize RP.ppart R (RP.turns R p0 i) k = W at *
      have hin : ∀ {σ : L2.St} {j : Nat} {z : Str} {H4 : Hp}, Ex H3 H4 → σ[j]? = some (some (.str z)) → σ[3]? = some (some (.ref wd)) → Ev (tDIn (tVar j) (tVar 3)) σ H4 (.bl (RP.has W z)) := fun e h1 h2 => by
        rw [← dk_isSome hk3]
        exact ev_din (ev_var h2) (ev_var h1) (e _ _ h3)
      have hni : ∀ {σ : L2.St} {j : Nat} {z : Str} {H4 : Hp}, Ex H3 H4 → σ[j]? = some (some (.str z)) → σ[3]? = some (some (.ref wd)) → Ev (tDNotIn (tVar j) (tVar 3)) σ H4 (.bl (!RP.has W z)) := fun e h1 h2 => by
        rw [← dk_isSome hk3]
        exact ev_dni (ev_var h2) (ev_var h1) (e _ _ h3)
      have hlt : kvs.length < 100000 := by
        rw [hk3.len]
        omega
      have put : ∀ (u c : Str) (wu : List Str) (H4 : Hp), Ex H3 H4 → RP.look W u = some wu → RP.look W c = none → RP.pstep W (f0, x0, y0) = W ++ [(c, wu ++ [f0])] → ∀ v H5 H6, Ex H4 H5 → IsWy H5 v (wu ++ [f0]) → Ex H5 H6 →
          ∃ (kvs' : List (Key × V)) (o2 o3 o4 : Option V), [some (.ref a), some (.str p0), some (.str q0), some (.ref wd), some (.int i), some (.str f0), some (.str x0), some (.str y0)] = [some (.ref a), some (.str p0), some (.str q0), some (.ref wd), some (.int i), o2, o3, o4] ∧ Ex H (L2.upd H6 wd (.dK (putK kvs (Sum.inr c : Key) v))) ∧ L2.upd H6 wd (.dK (putK kvs (Sum.inr c : Key) v)) wd = some (.dK kvs') ∧ DkOf (IsWy (L2.upd H6 wd (.dK (putK kvs (Sum.inr c : Key) v)))) kvs' (RP.pstep W (f0, x0, y0)) := fun u c wu H4 e4 hu1 hc1 hst v H5 H6 e5 hv e6 => by
        have tp : Tp K H6 (L2.upd H6 wd (.dK (putK kvs (Sum.inr c : Key) v))) := Tp.dk (((e4.trans e5).trans e6) _ _ h3)
        refine ⟨_, _, _, _, rfl, Ex.mut (e3.trans ((e4.trans e5).trans e6)) hwd, upd_same, ?_⟩
        rw [hst]
        exact dk_new (hk3.mono fun v b hb => hb.mono ((Tp.of (K := K) ((e4.trans e5).trans e6)).trans tp)) hc1 (hv.mono ((Tp.of (K := K) e6).trans tp))
      refine s_if (b := RP.has W x0 && !RP.has W y0) (et_and (et_B (hin (Ex.refl _) rfl rfl)) fun _ => et_B (hni (Ex.refl _) rfl rfl)) (fun hb H4 e4 => ?_) (fun hb H4 e4 => ?_)
      · have hb : RP.has W x0 = true ∧ RP.has W y0 = false := by simpa using hb
        obtain ⟨wu, hwu⟩ : ∃ wu, RP.look W x0 = some wu := Option.isSome_iff_exists.mp hb.1
        have hny := RP.has_false_iff.mp hb.2
        obtain ⟨v, hv, av, rfl, hav⟩ := dk_some hk3 hwu
        have hs := hsh x0 wu hwu
        exact s_dputP (ep_way (ev_dget (ev_var rfl) (ev_var rfl) (e4 _ _ h3) hv) ((Tp.of (K := K) e4).2 _ _ hav) (ev_var rfl) (by omega)) (ev_var rfl) (ev_var rfl) (e4 _ _ h3) hlt (put x0 y0 wu H4 e4 hwu hny (by unfold RP.pstep; simp only [hwu, hny]))
      · refine s_when (b := RP.has W y0 && !RP.has W x0) (et_and (et_B (hin e4 rfl rfl)) fun _ => et_B (hni e4 rfl rfl)) (fun hb2 H5 e5 => ?_) (fun hb2 H5 e5 => ?_)
        · have hb2 : RP.has W y0 = true ∧ RP.has W x0 = false := by simpa using hb2
          obtain ⟨wu, hwu⟩ : ∃ wu, RP.look W y0 = some wu := Option.isSome_iff_exists.mp hb2.1
          have hnx := RP.has_false_iff.mp hb2.2
          obtain ⟨v, hv, av, rfl, hav⟩ := dk_some hk3 hwu
          have hs := hsh y0 wu hwu
          exact s_dputP (ep_way (ev_dget (ev_var rfl) (ev_var rfl) ((e4.trans e5) _ _ h3) hv) ((Tp.of (K := K) (e4.trans e5)).2 _ _ hav) (ev_var rfl) (by omega)) (ev_var rfl) (ev_var rfl) ((e4.trans e5) _ _ h3) hlt (put y0 x0 wu H5 (e4.trans e5) hwu hnx (by unfold RP.pstep; simp only [hwu, hnx]))
        · refine ⟨kvs, _, _, _, rfl, e3.trans (e4.trans e5), (e4.trans e5) _ _ h3, ?_⟩
          have hsame : RP.pstep W (f0, x0, y0) = W := by
            unfold RP.pstep
            simp only []
            cases hx1 : RP.look W x0 with
            | none =>
              cases hy1 : RP.look W y0 with
              | none => rfl
              | some _ =>
                simp [RP.has, hx1, hy1] at hb2
            | some _ =>
              cases hy1 : RP.look W y0 with
              | none => simp [RP.has, hx1, hy1] at hb
              | some _ => rfl
          rw [hsame]
          exact hk3.mono fun v b hb => hb.mono (Tp.of (K := K) (e4.trans e5))
    · rintro σ' H3 ⟨kvs, o2, o3, o4, rfl, e3, h3, hk3⟩
      rw [hRl] at hk3
      exact ⟨kvs, _, _, _, _, rfl, e3, h3, hk3⟩
  · rintro σ' H2 ⟨kvs, o1, o2, o3, o4, rfl, e2, h2, hk2⟩
    simp only [Int.toNat_natCast] at hk2
    refine s_ret (ev_dget1 (ev_var rfl) (ev_var rfl) h2) fun H3 e3 => q _ H3 (e2.trans e3) ?_
    have hk3 := hk2.mono (G' := IsWy H3) fun v b hb => hb.mono (Tp.of (K := K) e3)
    cases hlk : RP.look (RP.turns R p0 Pl.length) q0 with
    | none =>
      rw [dk_none hk3 hlk]
      rfl
    | some wq =>
      obtain ⟨v, hv, hw⟩ := dk_some hk3 hlk
      rw [hv]
      exact hw
end
end RW
end

section
set_option maxRecDepth 100000
set_option maxHeartbeats 4000000
/-! the walk of the law's tree_due -/
namespace RW
open PySem PySem.Spec PyProof.Rows L2 Evl

section
variable {P : Program} {w : World} {K : PySem.W.Frag} {mg : Str → Option Value} {base : Heap}
def spTreeDue (K : PySem.W.Frag) : Sp := fun vs H Q _ => ∃ (a b : Addr) (Pl ρ : List Str) (R : List RdS) (i : Nat) (r s x1 y1 x2 y2 : Str), vs = [.ref a, .ref b, .int i] ∧ Gd K H a Pl R ∧ (∀ p ∈ Pl, Ok p) ∧ SqT K H b (ρ.map V.str) ∧ RP.Tree R Pl ∧ ρ[i]? = some r ∧ ρ[i + 1]? = some s ∧
  RP.look R r = some (x1, y1) ∧ RP.look R s = some (x2, y2) ∧ ∃ ap : Bool, (ap = true ↔ RP.Apart x1 y1 x2 y2) ∧
  ∀ p H2 vs, H p = none → Ex H H2 → H2 p = some (.lst vs) → Paired (IsDu K H2) vs (RP.treeDue R Pl r s ap) → Q (.ref p) H2
theorem inV_iff (s : Str) (l : List Str) : inV (.str s) (l.map V.str) = decide (s ∈ l) := inV_strs s l
theorem c_treedue (Z : Frees mg) (hWPath : Cal P w K mg base CX0 1 "_law_path" ["_law_web_here", "_law_place", "_law_other"] (spPath K)) (hWApart : Cal P w K mg base CX0 1 "_law_apart" ["_law_web_here", "_law_one_here", "_law_other"] (spApart K)) (F : HasD K mg "_law_tree_due" sWTreeDue) : Cal P w K mg base CX0 2 "_law_tree_due" ["_law_web_here", "_law_rota_here", "_law_at"] (spTreeDue K) := by
  obtain ⟨_, _, GWPath, gWPath, kWPath, bWPath⟩ := hWPath
  obtain ⟨_, _, GWApart, gWApart, kWApart, bWApart⟩ := hWApart
  refine cal_of F scWTreeDue (fun vs H Q E ⟨_, _, _, _, _, _, _, _, _, _, _, _, e, _⟩ => by rw [e]; rfl) (fun _ _ _ _ _ _ us hl => match us, hl with | [_, _, _], _ => rfl) fun f cdv A outer s H vs Q E hr h => ?_
  obtain ⟨a, b, Pl, ρ, R, i, r, s', x1, y1, x2, y2, rfl, hg, hok, hb, hT, hr0, hs0, hl1, hl2, ap, hap', q⟩ := h
  refine ⟨_, (pss_cons (ps_set (i := 3) scWTreeDue.nd rfl (.inl rfl) (pe_lst pa_nil))
    (pss_cons (ps_for PassesOwn.never rfl (pi_tup (pe_ix (ix_tup : IxR _ (rIxT K)) (pv 0) pe_int (fun _ _ => rfl))) (pg_name (i := 4) scWTreeDue.nd rfl (.inl rfl))
      (pss_one (ps_for PassesOwn.never rfl (pi_tup (pe_ix (ix_tup : IxR _ (rIxT K)) (pv 0) pe_int (fun _ _ => rfl))) (pg_name (i := 5) scWTreeDue.nd rfl (.inl rfl))
        (pss_cons (ps_set (i := 6) scWTreeDue.nd rfl (.inl rfl) (pe_call GWPath (hr.mono (by decide)) (by rfl) gWPath kWPath bWPath .nil pass0 (pa_cons (pv 0) (pa_cons (pv 4) (pa_cons (pv 5) pa_nil)))))
        (pss_one (ps_if (PW.pt (pw_and (pt_cmpR (op_in_seq : OpR _ (compareOp .In) (rIn K false)) (pe_ix (ix_tup : IxR _ (rIxT K)) (pv 1) (pv 2) (fun _ _ => rfl)) (pv 6) (by rfl)) (pw_and (pt_cmpR (op_in_seq : OpR _ (compareOp .In) (rIn K false)) (pe_ix (ix_tup : IxR _ (rIxT K)) (pv 1) (pe_op op_add (pv 2) pe_int) (fun _ _ => rfl)) (pv 6) (by rfl)) (pw_and1 (pt_not (pt_val (pe_call GWApart (hr.mono (by decide)) (by rfl) gWApart kWApart bWApart .nil pass0 (pa_cons (pv 0) (pa_cons (pe_ix (ix_tup : IxR _ (rIxT K)) (pv 1) (pv 2) (fun _ _ => rfl)) (pa_cons (pe_ix (ix_tup : IxR _ (rIxT K)) (pv 1) (pe_op op_add (pv 2) pe_int) (fun _ _ => rfl)) pa_nil))))))))))
          (pss_one (ps_expr (pe_bm PySem.F.plainAttrs_list PySem.F.slot_list_append PySem.F.type_list_append mt_append (pv 3) (pa_cons (pe_tup (pa_cons (pv 4) (pa_cons (pv 5) (pa_cons (pe_ifExp (pt_cmpR op_lt (pe_tix (pv 6) (pa_cons (pe_ix (ix_tup : IxR _ (rIxT K)) (pv 1) (pv 2) (fun _ _ => rfl)) pa_nil)) (pe_tix (pv 6) (pa_cons (pe_ix (ix_tup : IxR _ (rIxT K)) (pv 1) (pe_op op_add (pv 2) pe_int) (fun _ _ => rfl)) pa_nil)) (nomark _)) pe_int (pe_un un_neg pe_int)) pa_nil)))) pa_nil)))) pss_nil))))))
    (pss_one (ps_ret (pv 3))))), ?_⟩
  have hPl := hg.lenP
  obtain ⟨ap', ar, rs, hw1, hap, hR, hrs⟩ := hg.wb
  refine q_asgL (el_lst ea_nil (by simp)) fun gt H1 hgt e1 h1 => ?_
  have hbound : ∀ n m : Nat, n ≤ Pl.length → m ≤ Pl.length → ∀ p, (((Pl.take n).flatMap fun p => Pl.filterMap fun q => RP.treeCell R Pl r s' ap p q) ++ (Pl.take m).filterMap fun q => RP.treeCell R Pl r s' ap p q).length < 100000 := by
    intro n m hn hm p
    have h1 : ∀ l : List Str, (l.flatMap fun p => Pl.filterMap fun q => RP.treeCell R Pl r s' ap p q).length ≤ l.length * 10 := by
      intro l
      induction l with
      | nil => simp
      | cons a t ih =>
        rw [List.flatMap_cons, List.length_append, List.length_cons]
        have := List.length_filterMap_le (fun q => RP.treeCell R Pl r s' ap a q) Pl
        omega
    have h2 := h1 (Pl.take n)
    have h3 := List.length_filterMap_le (fun q => RP.treeCell R Pl r s' ap p q) (Pl.take m)
    rw [List.length_append]
    rw [List.length_take] at h2 h3
    omega
  refine q_of (s_forT (xs := Pl.map V.str) (ev_web0 (ev_var rfl) (ex_t e1 hw1)) (ex_t e1 hap.sq)
    (fun n σ' H' => ∃ (vs : List V) (o1 o2 o3 : Option V), σ' = [some (.ref a), some (.ref b), some (.int i), some (.ref gt), o1, o2, o3] ∧ Ex H H' ∧ H' gt = some (.lst vs) ∧ Paired (IsDu K H') vs ((Pl.take n).flatMap fun p => Pl.filterMap fun q => RP.treeCell R Pl r s' ap p q))
    (fun H12 e12 => ⟨[], none, none, none, rfl, e1.trans e12, e12 _ _ h1, .nil⟩) (fun n σ' H' _ ⟨_, _, _, _, _, e, _⟩ => ex_t e hap.sq) ?_ ?_)
  · rintro n x σ' H12 hx ⟨vs, o1, o2, o3, rfl, e12, h12, hP12⟩
    rw [List.getElem?_map] at hx
    cases hpn : Pl[n]? with
    | none => rw [hpn] at hx; cases hx
    | some p =>
    rw [hpn] at hx
    cases hx
    have hnl : n < Pl.length := (List.getElem?_eq_some_iff.mp hpn).1
    have hpm := List.mem_of_getElem? hpn
    refine s_forT (xs := Pl.map V.str) (ev_web0 (ev_var rfl) (ex_t e12 hw1)) (ex_t e12 hap.sq)
      (fun m σ' H' => ∃ (vs : List V) (o2 o3 : Option V), σ' = [some (.ref a), some (.ref b), some (.int i), some (.ref gt), some (.str p), o2, o3] ∧ Ex H H' ∧ H' gt = some (.lst vs) ∧ Paired (IsDu K H') vs (((Pl.take n).flatMap fun p => Pl.filterMap fun q => RP.treeCell R Pl r s' ap p q) ++ (Pl.take m).filterMap fun q => RP.treeCell R Pl r s' ap p q))
      (fun H13 e13 => ⟨vs, o2, o3, rfl, e12.trans e13, e13 _ _ h12, by
        simpa using paired_mono hP12 fun v e h => h.mono (Tp.of e13)⟩) (fun m σ' H' _ ⟨_, _, _, _, e, _⟩ => ex_t e hap.sq) ?_ ?_
    · rintro m x σ' H13 hx ⟨vs, o2, o3, rfl, e13, h13, hP13⟩
      rw [List.getElem?_map] at hx
      cases hqm : Pl[m]? with
      | none => rw [hqm] at hx; cases hx
      | some q' =>
      rw [hqm] at hx
      cases hx
      have hml : m < Pl.length := (List.getElem?_eq_some_iff.mp hqm).1
      have hqm' := List.mem_of_getElem? hqm
      have htk : (Pl.take (m + 1)).filterMap (fun q => RP.treeCell R Pl r s' ap p q) = (Pl.take m).filterMap (fun q => RP.treeCell R Pl r s' ap p q) ++ (RP.treeCell R Pl r s' ap p q').toList := by
        rw [List.take_add_one, hqm, List.filterMap_append]
        cases hc : RP.treeCell R Pl r s' ap p q' <;> simp [hc]
      have hlenv := paired_len hP13
      have hbd := hbound n m (Nat.le_of_lt hnl) (Nat.le_of_lt hml) p
      have hlook := RP.look_way (q := q') hg.nd hg.inP hT hpm hqm'
      have hnd : (RP.way R Pl p q').Nodup := (RP.hung hg.nd hg.inP hT hpm).nd hg.nd hqm'
      rw [htk, show RP.treeCell R Pl r s' ap p q' = (if (r ∈ RP.way R Pl p q' ∧ s' ∈ RP.way R Pl p q') ∧ ap = false then some (p, q', if RP.pos (RP.way R Pl p q') r < RP.pos (RP.way R Pl p q') s' then 1 else -1) else none) from rfl]
      generalize RP.way R Pl p q' = wy at *
      refine q_call (ea_cons (ev_var rfl) (ea_cons (ev_var rfl) (ea_cons (ev_var rfl) ea_nil))) fun H14 e14 => ⟨a, Pl, R, p, q', rfl, hg.mono (Tp.of (e13.trans e14)), hpm, fun v H15 e15 hv => ?_⟩
      rw [hlook] at hv
      obtain ⟨wa, rfl, hwa⟩ : IsWy H15 v wy := hv
      have e0 := (e13.trans e14).trans e15
      have hR0 : ∀ {H' : Hp}, Ex H15 H' → SqT K H' b (ρ.map V.str) := fun e => ex_t (e0.trans e) hb
      have hri : (ρ.map V.str)[i]? = some (.str r) := by rw [List.getElem?_map, hr0]; rfl
      have hsi : (ρ.map V.str)[i + 1]? = some (.str s') := by rw [List.getElem?_map, hs0]; rfl
      have evr : ∀ {σ : L2.St} {H' : Hp}, Ex H15 H' → σ[1]? = some (some (.ref b)) → σ[2]? = some (some (.int i)) → Ev (tOp (rIxT K) (tVar 1) (tVar 2)) σ H' (.str r) := fun e h1 h2 => ev_op (ev_var h1) (ev_var h2) (rv_ixT (hR0 e) (atI_nat hri))
      have evs : ∀ {σ : L2.St} {H' : Hp}, Ex H15 H' → σ[1]? = some (some (.ref b)) → σ[2]? = some (some (.int i)) → Ev (tOp (rIxT K) (tVar 1) (tOp (rI0 fun i j => .int (i + j)) (tVar 2) (tC (.int 1)))) σ H' (.str s') := fun e h1 h2 => ev_op (ev_var h1) (ev_op (ev_var h2) ev_c rv_I0) (rv_ixT (hR0 e) (atI_nat hsi))
      refine s_when (b := decide (r ∈ wy) && (decide (s' ∈ wy) && !ap)) (et_and (et_is (et_test (ev_op (evr (Ex.refl _) rfl rfl) (ev_var rfl) (rv_isT hwa.sq rfl (flat_strs _)))) (inV_strs r wy)) fun _ => et_and (et_is (et_test (ev_op (evs (Ex.refl _) rfl rfl) (ev_var rfl) (rv_isT hwa.sq rfl (flat_strs _)))) (inV_strs s' wy)) fun _ => et_not (et_test (ev_call (ea_cons (ev_var rfl) (ea_cons (evr (Ex.refl _) rfl rfl) (ea_cons (evs (Ex.refl _) rfl rfl) ea_nil))) (fun H1 e Q' k' _ => ⟨a, Pl, R, r, s', x1, y1, x2, y2, rfl, hg.mono (Tp.of (e0.trans e)), hok, hl1, hl2, fun b' hb' => by
          have : b' = ap := Bool.eq_iff_iff.mpr (hb'.trans hap'.symm)
          rw [this]
          exact k'⟩)))) (fun hb2 H16 e16 => ?_) (fun hb2 H16 e16 => ?_)
      · have hb2 : r ∈ wy ∧ s' ∈ wy ∧ ap = false := by simpa using hb2
        rw [if_pos ⟨⟨hb2.1, hb2.2.1⟩, hb2.2.2⟩]
        have hwa16 := (Tp.of (K := K) e16).2 _ _ hwa
        refine s_appU ((e14.trans (e15.trans e16)) _ _ h13) (ev_var rfl) (eu_tup (vs := [.str p, .str q', .int (if RP.pos wy r < RP.pos wy s' then 1 else -1)]) (ea_cons (ev_var rfl) (ea_cons (ev_var rfl) (ea_cons (ev_if (b := decide (RP.pos wy r < RP.pos wy s')) (et_is (et_test (ev_op (ev_tix (ev_var rfl) (evr e16 rfl rfl) hwa16 hb2.1 hnd) (ev_tix (ev_var rfl) (evs e16 rfl rfl) hwa16 hb2.2.1 hnd) rv_I0)) (decide_eq_decide.mpr (by omega))) (fun z => ?_) (fun z => ?_)) ea_nil))) (by simp)) (by rw [hlenv]; exact hbd) fun t H17 ht e17 h17 => ?_
        · rw [if_pos (of_decide_eq_true z)]
          exact ev_c
        · rw [if_neg (of_decide_eq_false z)]
          exact ev_un ev_c ru_neg
        have tp : Tp K H17 (L2.upd H17 gt (.lst (vs ++ [.ref t]))) := Tp.lst ((e14.trans (e15.trans (e16.trans e17))) _ _ h13)
        refine ⟨_, _, _, rfl, Ex.mut (e0.trans (e16.trans e17)) hgt, upd_same, ?_⟩
        rw [← List.append_assoc]
        exact paired_snoc (paired_mono hP13 fun v e h => h.mono ((Tp.of (e14.trans (e15.trans (e16.trans e17)))).trans tp)) ⟨t, rfl, tp.1 _ _ (st_of h17)⟩
      · have hb2 : ¬ ((r ∈ wy ∧ s' ∈ wy) ∧ ap = false) := fun z => by
          rw [decide_eq_true z.1.1, decide_eq_true z.1.2, z.2] at hb2
          cases hb2
        rw [if_neg hb2]
        refine ⟨vs, _, _, rfl, e0.trans e16, (e14.trans (e15.trans e16)) _ _ h13, ?_⟩
        simpa using paired_mono hP13 fun v e h => h.mono (Tp.of (e14.trans (e15.trans e16)))
    · rintro σ' H' ⟨vs, o2, o3, rfl, e13, h13, hP13⟩
      rw [List.length_map, List.take_length] at hP13
      refine ⟨vs, _, _, _, rfl, e13, h13, ?_⟩
      rw [List.take_add_one, hpn, List.flatMap_append]
      simpa using hP13
  · rintro σ' H' ⟨vs, o1, o2, o3, rfl, e12, h12, hP12⟩
    rw [List.length_map, List.take_length] at hP12
    refine s_ret (ev_var rfl) fun H13 e13 => ?_
    exact q gt H13 vs hgt (e12.trans e13) (e13 _ _ h12) (paired_mono hP12 fun v e h => h.mono (Tp.of e13))
end
end RW
end

section
set_option maxRecDepth 100000
set_option maxHeartbeats 4000000
/-! plain: what the generator links -/
namespace RW
open PySem PySem.Spec PyProof.Rows L2 Evl

abbrev Tie := Str × Str
def Pairs (ns : List Str) (Es : List Tie) : Prop := ∀ e ∈ Es, e.1 ≠ e.2 ∧ e.1 ∈ ns ∧ e.2 ∈ ns
def Both (Es : List Tie) (u v : Str) : Prop := (u, v) ∈ Es ∨ (v, u) ∈ Es
def Linked (ns : List Str) (n : Nat) (Es : List Tie) : Prop := ∀ i, 0 < i → i < n → ∃ j, j < i ∧ ∃ u v, ns[i]? = some u ∧ ns[j]? = some v ∧ Both Es u v
structure Sy (Es Es' : List Tie) : Prop where
  len : Es'.length = Es.length
  both : ∀ u v, Both Es u v ↔ Both Es' u v
theorem Sy.refl (Es : List Tie) : Sy Es Es := ⟨rfl, fun _ _ => Iff.rfl⟩
theorem Sy.trans {a b c : List Tie} (x : Sy a b) (y : Sy b c) : Sy a c := ⟨y.len.trans x.len, fun u v => (x.both u v).trans (y.both u v)⟩
theorem Sy.perm {a b : List Tie} (h : b.Perm a) : Sy a b := ⟨h.length_eq, fun u v => by
  unfold Both
  rw [h.mem_iff, h.mem_iff]⟩
/-- each maybe turned -/
theorem Sy.turn {a b : List Tie} (h : Paired (fun e' e => e' = e ∨ e' = (e.2, e.1)) b a) : Sy a b := by
  refine ⟨paired_len h, fun u v => ?_⟩
  induction h with
  | nil => exact Iff.rfl
  | @cons e' e t' t r _ ih =>
    have hc : ∀ (x : Tie) (l : List Tie), Both (x :: l) u v ↔ (x = (u, v) ∨ x = (v, u)) ∨ Both l u v := fun x l => by
      unfold Both
      simp only [List.mem_cons]
      constructor
      · rintro ((h | h) | (h | h))
        · exact .inl (.inl h.symm)
        · exact .inr (.inl h)
        · exact .inl (.inr h.symm)
        · exact .inr (.inr h)
      · rintro ((h | h) | (h | h))
        · exact .inl (.inl h.symm)
        · exact .inr (.inl h.symm)
        · exact .inl (.inr h)
        · exact .inr (.inr h)
    rw [hc, hc, ih]
    refine or_congr ?_ Iff.rfl
    rcases r with r | r
    · rw [r]
    · obtain ⟨x, y⟩ := e
      rw [r]
      show ((x, y) = (u, v) ∨ (x, y) = (v, u)) ↔ ((y, x) = (u, v) ∨ (y, x) = (v, u))
      simp only [Prod.mk.injEq]
      constructor
      · rintro (⟨h1, h2⟩ | ⟨h1, h2⟩)
        · exact .inr ⟨h2, h1⟩
        · exact .inl ⟨h2, h1⟩
      · rintro (⟨h1, h2⟩ | ⟨h1, h2⟩)
        · exact .inr ⟨h2, h1⟩
        · exact .inl ⟨h2, h1⟩
theorem Pairs.sy {ns : List Str} {Es Es' : List Tie} (h : Pairs ns Es) (s : Sy Es Es') : Pairs ns Es' := fun e he => by
  rcases (s.both e.1 e.2).mpr (.inl he) with z | z
  · exact h _ z
  · obtain ⟨h1, h2, h3⟩ := h _ z
    exact ⟨fun w => h1 w.symm, h3, h2⟩
theorem Linked.sy {ns : List Str} {n : Nat} {Es Es' : List Tie} (h : Linked ns n Es) (s : Sy Es Es') : Linked ns n Es' := fun i h0 hi =>
  let ⟨j, hj, u, v, h1, h2, h3⟩ := h i h0 hi
  ⟨j, hj, u, v, h1, h2, (s.both u v).mp h3⟩
theorem Linked.more {ns : List Str} {n : Nat} {Es : List Tie} (h : Linked ns n Es) (e : Tie) : Linked ns n (Es ++ [e]) := fun i h0 hi =>
  let ⟨j, hj, u, v, h1, h2, h3⟩ := h i h0 hi
  ⟨j, hj, u, v, h1, h2, h3.imp (List.mem_append_left _) (List.mem_append_left _)⟩
theorem Pairs.more {ns : List Str} {Es : List Tie} (h : Pairs ns Es) {e : Tie} (h1 : e.1 ≠ e.2) (h2 : e.1 ∈ ns) (h3 : e.2 ∈ ns) : Pairs ns (Es ++ [e]) := fun x hx => by
  rcases List.mem_append.mp hx with z | z
  · exact h x z
  · rw [List.mem_singleton.mp z]
    exact ⟨h1, h2, h3⟩
/-- two places of a list without doubles -/
theorem nd_ne {ns : List Str} (hN : ns.Nodup) {i j : Nat} {u v : Str} (hi : ns[i]? = some u) (hj : ns[j]? = some v) (h : i ≠ j) : u ≠ v := fun z => by
  subst z
  obtain ⟨h1, e1⟩ := List.getElem?_eq_some_iff.mp hi
  obtain ⟨h2, e2⟩ := List.getElem?_eq_some_iff.mp hj
  exact h ((List.getElem_inj hN).mp (e1.trans e2.symm))
/-- names with ties -/
def mkR (fs : List Str) (Es : List Tie) : List RdS := List.zipWith (fun f e => (f, e.1, e.2)) fs Es
theorem mkR_keys : ∀ {fs : List Str} {Es : List Tie}, fs.length = Es.length → (mkR fs Es).map (·.1) = fs
  | [], [], _ => rfl
  | [], _ :: _, h => by cases h
  | _ :: _, [], h => by cases h
  | f :: fs, e :: Es, h => by
    show f :: (mkR fs Es).map (·.1) = f :: fs
    rw [mkR_keys (by simpa using h)]
theorem mkR_len {fs : List Str} {Es : List Tie} (h : fs.length = Es.length) : (mkR fs Es).length = Es.length := by
  unfold mkR
  rw [List.length_zipWith, h, Nat.min_self]
theorem mkR_mem : ∀ {fs : List Str} {Es : List Tie} {f x y : Str}, (f, x, y) ∈ mkR fs Es → f ∈ fs ∧ (x, y) ∈ Es
  | [], _, _, _, _, h => by cases h
  | _ :: _, [], _, _, _, h => by cases h
  | f :: fs, e :: Es, _, _, _, h => by
    have h : _ ∈ ((f, e.1, e.2) : RdS) :: mkR fs Es := h
    rcases List.mem_cons.mp h with z | z
    · cases z
      exact ⟨List.mem_cons_self, List.mem_cons_self⟩
    · exact ⟨List.mem_cons_of_mem _ (mkR_mem z).1, List.mem_cons_of_mem _ (mkR_mem z).2⟩
theorem mkR_of : ∀ {fs : List Str} {Es : List Tie} {x y : Str}, fs.length = Es.length → (x, y) ∈ Es → ∃ f, (f, x, y) ∈ mkR fs Es
  | [], [], _, _, _, h => by cases h
  | [], _ :: _, _, _, h, _ => by cases h
  | _ :: _, [], _, _, h, _ => by cases h
  | f :: fs, e :: Es, _, _, hl, h => by
    rcases List.mem_cons.mp h with z | z
    · exact ⟨f, by rw [← z]; exact List.mem_cons_self⟩
    · obtain ⟨g, hg⟩ := mkR_of (fs := fs) (by simpa using hl) z
      exact ⟨g, List.mem_cons_of_mem _ hg⟩
theorem tree_of {ns P : List Str} {fs : List Str} {Es : List Tie} (hl : fs.length = Es.length) (hP : P.Perm ns) (hE : Es.length + 1 = ns.length) (hL : Linked ns ns.length Es) : RP.Tree (mkR fs Es) P where
  one := by rw [mkR_len hl, hE, hP.length_eq]
  piece := fun C hC => by
    have hb : ∀ u v, Both Es u v → (C u ↔ C v) := fun u v h => by
      rcases h with h | h
      · obtain ⟨f, hf⟩ := mkR_of hl h
        exact hC f u v hf
      · obtain ⟨f, hf⟩ := mkR_of hl h
        exact (hC f v u hf).symm
    have h0 : 0 < ns.length := by omega
    have all : ∀ i (hi : i < ns.length), (C ns[i] ↔ C ns[0]) := by
      intro i
      induction i using Nat.strongRecOn with
      | ind i ih =>
        intro hi
        by_cases hz : i = 0
        · subst hz
          exact Iff.rfl
        · obtain ⟨j, hj, u, v, h1, h2, h3⟩ := hL i (by omega) hi
          obtain ⟨q1, e1⟩ := List.getElem?_eq_some_iff.mp h1
          obtain ⟨q2, e2⟩ := List.getElem?_eq_some_iff.mp h2
          rw [e1]
          have := ih j hj q2
          rw [e2] at this
          exact (hb u v h3).trans this
    intro p hp hCp q hq
    obtain ⟨i, hi, rfl⟩ := List.getElem_of_mem (hP.mem_iff.mp hp)
    obtain ⟨j, hj, rfl⟩ := List.getElem_of_mem (hP.mem_iff.mp hq)
    exact (all j hj).mpr ((all i hi).mp hCp)
theorem inP_of {ns P : List Str} {fs : List Str} {Es : List Tie} (hP : P.Perm ns) (hN : ns.Nodup) (h : Pairs ns Es) : RP.InP (mkR fs Es) P where
  nd := hP.nodup_iff.mpr hN
  ends := fun r x y hm => by
    obtain ⟨_, h1, h2⟩ := h _ (mkR_mem hm).2
    exact ⟨hP.mem_iff.mpr h1, hP.mem_iff.mpr h2⟩
end RW
end

section
set_option maxRecDepth 100000
set_option maxHeartbeats 4000000
/-! the walk of the law's sized_web -/
namespace RW
open PySem PySem.Spec PyProof.Rows L2 Evl

section
variable {K : PySem.W.Frag} {σ : L2.St} {H : Hp} {ta tb : TE} {tr : TA} {D : Ends} {F nl tl : Addr} {E : XK} {Q : VK}
theorem names_go {m n : Nat} (h : EvA tr σ H [.ref F, .int m]) (hm : m ≤ 14) (hF : Feed F H n) (hn : n ≤ 500000) (k : ∀ p H2 (ns : List Str), H p = none → But F H H2 → Feed F H2 (n + 14) → H2 p = some (.lst (ns.map V.str)) → ns.length = m → ns.Nodup → (∀ s ∈ ns, s ∈ NMS) → Q (.ref p) H2) : tCall spNms [] E tr σ H Q := h H (Ex.refl H) _ fun H1 e1 => by
  show spNms ([.ref F, .int m] ++ []) H1 _ E
  rw [List.append_nil]
  exact ⟨F, m, n, rfl, hm, hF.mono e1, hn, fun p H2 ns hp b hf h2 => k p H2 ns (fresh_back e1 hp) ((But.of e1).trans b) hf h2⟩
theorem mixed_go2 {l : Addr} {n : Nat} {xs : List V} (h : EvA tr σ H [.ref F, .ref l]) (hl : H l = some (.lst xs)) (hlF : l ≠ F) (hz : xs.length < 1000) (hF : Feed F H n) (hn : n ≤ 500000)
    (k : ∀ p H2 ys, H p = none → But F H H2 → Feed F H2 (n + xs.length) → H2 p = some (.lst ys) → ys.Perm xs → Q (.ref p) H2) : tCall spMixed [] E tr σ H Q := h H (Ex.refl H) _ fun H1 e1 => by
  show spMixed ([.ref F, .ref l] ++ []) H1 _ E
  rw [List.append_nil]
  exact ⟨F, l, xs, n, rfl, e1 _ _ hl, hlF, hz, hF.mono e1, hn, fun p H2 ys hp b hf h2 hP => k p H2 ys (fresh_back e1 hp) ((But.of e1).trans b) hf h2 hP⟩
/-- ties.append((names[..], names[..])) -/
theorem tie_go {i m : Nat} {ns : List Str} {vs : List V} {u : Str} {PP : Nat → Prop} (h5 : σ[5]? = some (some (.ref tl))) (h3 : σ[3]? = some (some (.ref nl))) (hnF : nl ≠ F) (htF : tl ≠ F) (hnl : H nl = some (.lst (ns.map V.str))) (htl : H tl = some (.lst vs)) (hz : vs.length < 100000)
    (ha : Ev ta σ H (.int (i : Int))) (hu : ns[i]? = some u)
    (hb : ∀ H1, Ex H H1 → ∀ Q : VK, (∀ (j : Nat) v H2, But F H1 H2 → Feed F H2 m → ns[j]? = some v → j ≠ i → PP j → Q (.int (j : Int)) H2) → tb σ H1 Q)
    (k : ∀ j v p H2, But F H H2 → Feed F H2 m → ns[j]? = some v → j ≠ i → PP j → H2 tl = some (.lst vs) → H2 nl = some (.lst (ns.map V.str)) → SqT K H2 p [.str u, .str v] → D.nx σ (upd H2 tl (.lst (vs ++ [.ref p])))) :
    tDrop (tBM K "list" rAppend (tVar 5) (tCons (tTup (tCons (tOp (rIxL K) (tVar 3) ta) (tCons (tOp (rIxL K) (tVar 3) tb) tNil))) tNil)) D σ H := by
  refine ⟨_, h5, .inl ⟨rfl, _, sq_of htl⟩, ?_⟩
  have hui : (ns.map V.str)[i]? = some (.str u) := by rw [List.getElem?_map, hu]; rfl
  refine (ev_op (ev_var h3) ha (rv_ixL (sq_of hnl) (atI_nat hui))) H (Ex.refl H) _ fun H1 e1 => ⟨_, h3, ?_⟩
  refine hb H1 e1 _ fun j v H2 b hf hj hne hPP => ?_
  have b2 := (But.of e1).trans b
  have hvj : (ns.map V.str)[j]? = some (.str v) := by rw [List.getElem?_map, hj]; rfl
  have hnl2 := b2 _ _ hnF hnl
  have htl2 := b2 _ _ htF htl
  refine ⟨nl, _, (j : Int), _, rfl, rfl, sq_of hnl2, atI_nat hvj, sz_of (by simp), fun p hp => ?_⟩
  have e3 : Ex H2 (upd H2 p (.tup [.str u, .str v])) := Ex.new hp
  refine ⟨tl, vs, .ref p, rfl, rfl, e3 _ _ htl2, sz_lt hz, ?_⟩
  exact k j v p _ (b2.trans (But.of e3)) (hf.mono e3) hj hne hPP (e3 _ _ htl2) (e3 _ _ hnl2) (st_of upd_same)
end
theorem paired_perm {K : PySem.W.Frag} {H : Hp} {ys vs : List V} (h : ys.Perm vs) : ∀ {Es : List Tie}, Paired (IsEn K H) vs Es → ∃ Es1 : List Tie, Es1.Perm Es ∧ Paired (IsEn K H) ys Es1 := by
  induction h with
  | nil => exact fun hp => ⟨_, List.Perm.refl _, hp⟩
  | cons x _ ih =>
    intro Es hp
    cases hp with
    | cons r t =>
      obtain ⟨Es1, h1, h2⟩ := ih t
      exact ⟨_, h1.cons _, .cons r h2⟩
  | swap x y l =>
    intro Es hp
    cases hp with
    | cons r t =>
      cases t with
      | cons r2 t2 => exact ⟨_, List.Perm.swap _ _ _, .cons r2 (.cons r t2)⟩
  | trans _ _ ih1 ih2 =>
    intro Es hp
    obtain ⟨E1, a1, a2⟩ := ih2 hp
    obtain ⟨E2, b1, b2⟩ := ih1 a2
    exact ⟨E2, b1.trans a1, b2⟩
section
variable {P : Program} {w : World} {K : PySem.W.Frag} {mg : Str → Option Value} {base : Heap}
def SzI (K : PySem.W.Frag) (F nl tl : Addr) (H : Hp) (ns : List Str) (m : Nat) (Es : List Tie) (H' : Hp) : Prop :=
  But F H H' ∧ Feed F H' m ∧ H' nl = some (.lst (ns.map V.str)) ∧ (∃ vs, H' tl = some (.lst vs) ∧ Paired (IsEn K H') vs Es) ∧ Pairs ns Es
theorem SzI.le {F nl tl : Addr} {H H' : Hp} {ns : List Str} {m m' : Nat} {Es : List Tie} (h : SzI K F nl tl H ns m Es H') (e : m ≤ m') : SzI K F nl tl H ns m' Es H' := ⟨h.1, h.2.1.le e, h.2.2⟩
theorem SzI.ex {F nl tl : Addr} {H H' H2 : Hp} {ns : List Str} {m : Nat} {Es : List Tie} (h : SzI K F nl tl H ns m Es H') (e : Ex H' H2) : SzI K F nl tl H ns m Es H2 :=
  let ⟨h1, h2, h3, ⟨vs, h4, h5⟩, h6⟩ := h
  ⟨h1.trans (But.of e), h2.mono e, e _ _ h3, ⟨vs, e _ _ h4, paired_mono h5 fun v b hb => hb.mono (Tp.of e)⟩, h6⟩
theorem SzI.go {F nl tl : Addr} {H H' H2 : Hp} {ns : List Str} {m m' : Nat} {Es : List Tie} (h : SzI K F nl tl H ns m Es H') (hnF : nl ≠ F) (htF : tl ≠ F) (b : But F H' H2) (hf : Feed F H2 m') : SzI K F nl tl H ns m' Es H2 :=
  let ⟨h1, h2, h3, ⟨vs, h4, h5⟩, h6⟩ := h
  ⟨h1.trans b, hf, b _ _ hnF h3, ⟨vs, b _ _ htF h4, paired_mono h5 fun v e hb => hb.mono (h2.tp b)⟩, h6⟩
theorem SzI.app {F nl tl p : Addr} {H H' H2 : Hp} {ns : List Str} {m m' : Nat} {Es : List Tie} {vs : List V} {u v : Str} (h : SzI K F nl tl H ns m Es H') (hnt : nl ≠ tl) (htF : tl ≠ F) (htH : H tl = none) (hv : H' tl = some (.lst vs)) (b : But F H' H2) (hf : Feed F H2 m') (h2 : H2 tl = some (.lst vs)) (h3 : H2 nl = some (.lst (ns.map V.str)))
    (hp : SqT K H2 p [.str u, .str v]) (e1 : u ≠ v) (e2 : u ∈ ns) (e3 : v ∈ ns) : SzI K F nl tl H ns m' (Es ++ [(u, v)]) (upd H2 tl (.lst (vs ++ [.ref p]))) := by
  obtain ⟨a1, a2, a3, ⟨vs', a4, a5⟩, a6⟩ := h
  have : vs' = vs := by
    rw [hv] at a4
    exact (HO.lst.inj (Option.some.inj a4)).symm
  subst this
  have tp : Tp K H2 (upd H2 tl (.lst (vs' ++ [.ref p]))) := Tp.lst h2
  refine ⟨(a1.trans b).mut htH, hf.upd htF, by rw [upd_ne hnt]; exact h3, ⟨_, upd_same, paired_snoc (paired_mono a5 fun v e hb => hb.mono ((a2.tp b).trans tp)) ⟨p, rfl, tp.1 _ _ hp⟩⟩, a6.more e1 e2 e3⟩
theorem if_go {σ : L2.St} {H : Hp} {t : TT} {ta tb : TE} {Q : VK} {b : Bool} (h : EvT t σ H b) (h1 : b = true → ∀ H1, Ex H H1 → ta σ H1 Q) (h2 : b = false → ∀ H1, Ex H H1 → tb σ H1 Q) : tIf t ta tb σ H Q := h H (Ex.refl H) _ fun H1 e => by
  cases b with
  | true => exact h1 rfl H1 e
  | false => exact h2 rfl H1 e
structure GenWeb (P : List Str) (R : List RdS) : Prop where
  pl : ∀ s ∈ P, s ∈ NMS
  rd : ∀ r ∈ R, r.1 ∈ NMS
  ne : ∀ r ∈ R, r.2.1 ≠ r.2.2
def spWeb (K : PySem.W.Frag) : Sp := fun vs H Q _ => ∃ (F : Addr) (many more n : Nat), vs = [.ref F, .int many, .int more] ∧ 1 ≤ many ∧ many ≤ 10 ∧ more ≤ 5 ∧ Feed F H n ∧ n ≤ 100000 ∧
  ∀ p H2 Pl R, But F H H2 → Feed F H2 (n + 200) → Gd K H2 p Pl R → GenWeb Pl R → Pl.length = many → (more = 0 → RP.Tree R Pl) → Q (.ref p) H2
theorem c_web (Z : Frees mg) (hWNames : Cal P w K mg base CX0 3 "_law_names" ["_law_feed_here", "_law_many"] spNms) (hWDraw : Cal P w K mg base CX0 1 "_law_draw" ["_law_feed_here", "_law_many"] spDraw) (hWMixed : Cal P w K mg base CX0 2 "_law_mixed" ["_law_feed_here", "_law_things"] spMixed)
    (F : HasD K mg "_law_sized_web" sWSizedWeb) : Cal P w K mg base CX0 4 "_law_sized_web" ["_law_feed_here", "_law_many", "_law_more"] (spWeb K) := by
  obtain ⟨_, _, GWNames, gWNames, kWNames, bWNames⟩ := hWNames
  obtain ⟨_, _, GWDraw, gWDraw, kWDraw, bWDraw⟩ := hWDraw
  obtain ⟨_, _, GWMixed, gWMixed, kWMixed, bWMixed⟩ := hWMixed
  refine cal_of F scWSizedWeb (fun vs H Q E ⟨_, _, _, _, e, _⟩ => by rw [e]; rfl) (fun _ _ _ _ _ _ us hl => match us, hl with | [_, _, _], _ => rfl) fun f cdv A outer s H vs Q E hr h => ?_
  obtain ⟨F, many, more, n, rfl, hm1, hm10, hmo, hf, hn, q⟩ := h
  refine ⟨_, (pss_cons (ps_par3 (i := 3) (j := 4) (l := 5) (by rfl) scWSizedWeb.nd rfl rfl rfl (by decide) (by decide) (by decide) rfl rfl rfl (pa_cons (pe_call GWNames (hr.mono (by decide)) (by rfl) gWNames kWNames bWNames .nil pass0 (pa_cons (pv 0) (pa_cons (pv 1) pa_nil))) (pa_cons (pe_call GWDraw (hr.mono (by decide)) (by rfl) gWDraw kWDraw bWDraw .nil pass0 (pa_cons (pv 0) (pa_cons pe_int pa_nil))) (pa_cons (pe_lst pa_nil) pa_nil))) (by rfl))
    (pss_cons (ps_for PassesOwn.never rfl (pi_range2 (by rfl) Z.range_ (pa_cons pe_int (pa_cons (pv 1) pa_nil))) (pg_name (i := 6) scWSizedWeb.nd rfl (.inl rfl))
      (pss_one (ps_expr (pe_bm PySem.F.plainAttrs_list PySem.F.slot_list_append PySem.F.type_list_append mt_append (pv 5) (pa_cons (pe_tup (pa_cons (pe_ix (ix_list : IxR _ (rIxL K)) (pv 3) (pv 6) (fun _ _ => rfl)) (pa_cons (pe_ix (ix_list : IxR _ (rIxL K)) (pv 3) (pe_ifExp (pt_cmpR op_eq (pv 4) pe_int (nomark _)) (pe_op op_sub (pv 6) pe_int) (pe_ifExp (PW.pt (pw_and (pt_cmpR op_eq (pv 4) pe_int (nomark _)) (pw_and1 (pt_cmpR op_lt (pv 6) pe_int (nomark _))))) pe_int (pe_call GWDraw (hr.mono (by decide)) (by rfl) gWDraw kWDraw bWDraw .nil pass0 (pa_cons (pv 0) (pa_cons (pv 6) pa_nil))))) (fun _ _ => rfl)) pa_nil))) pa_nil)))))
    (pss_cons (ps_for PassesOwn.never rfl (pi_range1 (by rfl) Z.range_ (pa_cons (pe_ifExp (pt_cmpR op_gt (pv 1) pe_int (nomark _)) (pv 2) pe_int) pa_nil)) (pg_name (i := 7) scWSizedWeb.nd rfl (.inl rfl))
      (pss_cons (ps_set (i := 8) scWSizedWeb.nd rfl (.inl rfl) (pe_call GWDraw (hr.mono (by decide)) (by rfl) gWDraw kWDraw bWDraw .nil pass0 (pa_cons (pv 0) (pa_cons (pv 1) pa_nil))))
      (pss_one (ps_expr (pe_bm PySem.F.plainAttrs_list PySem.F.slot_list_append PySem.F.type_list_append mt_append (pv 5) (pa_cons (pe_tup (pa_cons (pe_ix (ix_list : IxR _ (rIxL K)) (pv 3) (pv 8) (fun _ _ => rfl)) (pa_cons (pe_ix (ix_list : IxR _ (rIxL K)) (pv 3) (pe_op op_mod (pe_callTy call_int1 (by rfl) Z.int_ (by decide +kernel) (pa_cons (pe_op op_add (pe_op op_add (pv 8) pe_int) (pe_call GWDraw (hr.mono (by decide)) (by rfl) gWDraw kWDraw bWDraw .nil pass0 (pa_cons (pv 0) (pa_cons (pe_op op_sub (pv 1) pe_int) pa_nil)))) pa_nil)) (pv 1)) (fun _ _ => rfl)) pa_nil))) pa_nil))))))
    (pss_cons (ps_setLc (own := [("_law_tie", 9)]) (g := (gName 9)) (tt := tYes) (i := 5) (by rfl) scWSizedWeb.nd rfl rfl (sw_true rfl rfl rfl (by decide +kernel)) (pi_list (pe_call GWMixed (hr.mono (by decide)) (by rfl) gWMixed kWMixed bWMixed .nil pass0 (pa_cons (pv 0) (pa_cons (pv 5) pa_nil)))) (blkOk_by (own := [("_law_tie", 9)]) (N := nWSizedWeb) (sc := defScope sWSizedWeb) (by decide +kernel)) (fun _ _ _ _ _ => (pg_name (i := 9) scWSizedWeb.nd rfl (.inl rfl))) (fun _ _ _ _ _ => pts_nil) (fun _ _ _ _ _ => (pe_ifExp (pt_cmpR op_eq (pe_call GWDraw (hr.mono (by decide)) (by rfl) gWDraw kWDraw bWDraw .nil pass0 (pa_cons (pv 0) (pa_cons pe_int pa_nil))) pe_int (nomark _)) (pe_tup (pa_cons (pe_ix (ix_tup : IxR _ (rIxT K)) (pv 9) pe_int (fun _ _ => rfl)) (pa_cons (pe_ix (ix_tup : IxR _ (rIxT K)) (pv 9) pe_int (fun _ _ => rfl)) pa_nil))) (pv 9))))
    (pss_cons (ps_set (i := 10) scWSizedWeb.nd rfl (.inl rfl) (pe_call GWNames (hr.mono (by decide)) (by rfl) gWNames kWNames bWNames .nil pass0 (pa_cons (pv 0) (pa_cons (pe_callB (call_len_seq : CallR _ (.builtin "len") (Evl.rLenS K)) (by rfl) Z.len_ PySem.boot_len (pa_cons (pv 5) pa_nil)) pa_nil))))
    (pss_one (ps_ret (pe_tup (pa_cons (pe_callTy (call_tuple_Z : CallR _ (.type "tuple") (rTupZ K)) (by rfl) Z.tuple_ (by decide +kernel) (pa_cons (pe_call GWMixed (hr.mono (by decide)) (by rfl) gWMixed kWMixed bWMixed .nil pass0 (pa_cons (pv 0) (pa_cons (pv 3) pa_nil))) pa_nil)) (pa_cons (pe_callTy (call_tuple_Z : CallR _ (.type "tuple") (rTupZ K)) (by rfl) Z.tuple_ (by decide +kernel) (pa_cons (pe_lc (own := [("_law_road", 11), ("_law_tie", 9)]) (g := (gTup K 2 (gCons (gName 11) (gCons (gName 9) gNil)))) (tt := tYes) (by rfl) scWSizedWeb.nd (pi_zip (by rfl) Z.zip_ (pa_cons (pv 10) (pa_cons (pv 5) pa_nil))) (blkOk_by (own := [("_law_road", 11), ("_law_tie", 9)]) (N := nWSizedWeb) (sc := defScope sWSizedWeb) (by decide +kernel)) (fun _ _ _ _ _ => (pg_tup (n := 2) (by rfl) (pgs_cons (pg_name (i := 11) scWSizedWeb.nd rfl (.inl rfl)) (pgs_cons (pg_name (i := 9) scWSizedWeb.nd rfl (.inl rfl)) pgs_nil)))) (fun _ _ _ _ _ => pts_nil) (fun _ _ _ _ _ => (pe_op (op_catA : OpR _ (binaryOp .Add) (rCatA K)) (pe_tup (pa_cons (pv 11) pa_nil)) (pv 9)))) pa_nil)) pa_nil)))))))))), ?_⟩
  -- names, shape, ties
  refine names_go (ea_cons (ev_var rfl) (ea_cons (ev_var rfl) ea_nil)) (by omega) hf (by omega) fun nl H1 ns hnl b1 hf1 h1 hnsl hN hsub => ?_
  have hnF : nl ≠ F := hf.ne hnl
  refine draw_go (ea_cons (ev_var rfl) (ea_cons ev_c ea_nil)) (by decide) (by decide) hf1 (by omega) fun g H2 b2 hf2 hg => ?_
  refine el_lst ea_nil (by simp) H2 (Ex.refl H2) _ fun tl H3 htl2 e3 h3 => ⟨_, _, _, rfl, ?_⟩
  have b03 := (b1.trans b2).trans (But.of e3)
  have htF : tl ≠ F := hf2.ne htl2
  have htlH : H tl = none := (b1.trans b2).free htF htl2
  have hnt : nl ≠ tl := ne_of_none (b2 _ _ hnF h1) htl2
  have hN3 : H3 nl = some (.lst (ns.map V.str)) := e3 _ _ (b2 _ _ hnF h1)
  have hf3 : Feed F H3 (n + 15) := hf2.mono e3
  have I3 : SzI K F nl tl H ns (n + 15) [] H3 := ⟨b03, hf3, hN3, ⟨[], h3, .nil⟩, fun e he => by cases he⟩
  -- at 1, 2, ..
  refine q_of (s_forR2 (lo := 1) (n := many) (ea_cons ev_c (ea_cons (ev_var rfl) ea_nil)) ⟨by omega, by omega, by omega, by omega⟩
    (fun i σ' H' => ∃ (Es : List Tie) (o : Option V), σ' = [some (.ref F), some (.int many), some (.int more), some (.ref nl), some (.int g), some (.ref tl), o, none, none, none, none, none] ∧ SzI K F nl tl H ns (n + 15 + i) Es H' ∧ Es.length = i ∧ Linked ns (i + 1) Es)
    (fun H4 e4 => ⟨[], none, rfl, I3.ex e4, rfl, fun i h0 h1 => by omega⟩) ?_ ?_)
  · rintro i σ' H' hi ⟨Es, o, rfl, I4, hEl, hL⟩
    have him : i + 1 < many := by omega
    have hi10 : i + 1 < ns.length := by omega
    obtain ⟨_, hf4, hn4, ⟨vs, ht4, hP4⟩, hPr⟩ := id I4
    have hvl := paired_len hP4
    rw [show (1 : Int) + (i : Int) = ((i + 1 : Nat) : Int) by omega]
    refine tie_go (i := i + 1) (m := n + 15 + (i + 1)) (ns := ns) (vs := vs) (PP := fun j => j < i + 1) rfl rfl hnF htF hn4 ht4 (by omega) (ev_var rfl) (List.getElem?_eq_getElem hi10) (fun H5 e5 Q5 k5 => ?_) (fun j v p H6 b6 hf6 hj hne hPP ht6 hn6 hp => ?_)
    · have fin : ∀ (j : Nat) H6, j < i + 1 → But F H5 H6 → Feed F H6 (n + 15 + (i + 1)) → Q5 (.int (j : Int)) H6 := fun j H6 hj b6 hf6 => k5 j _ H6 b6 hf6 (List.getElem?_eq_getElem (Nat.lt_trans hj hi10)) (by omega) hj
      refine if_go (et_test (ev_op (ev_var rfl) ev_c (rv_eq rfl))) (fun _ H6 e6 => ?_) (fun _ H6 e6 => ?_)
      · refine (ev_op (ev_var rfl) ev_c rv_I0) H6 (Ex.refl H6) _ fun H7 e7 => ?_
        rw [show ((i + 1 : Nat) : Int) - 1 = (i : Int) by omega]
        exact fin i H7 (by omega) (But.of (e6.trans e7)) ((hf4.mono (e5.trans (e6.trans e7))).le (by omega))
      · refine if_go (et_and (et_test (ev_op (ev_var rfl) ev_c (rv_eq rfl))) fun _ => et_test (ev_op (ev_var rfl) ev_c rv_I0)) (fun _ H7 e7 => ?_) (fun _ H7 e7 => ?_)
        · exact fin 0 H7 (by omega) (But.of (e6.trans e7)) ((hf4.mono (e5.trans (e6.trans e7))).le (by omega))
        · exact draw_go (ea_cons (ev_var rfl) (ea_cons (ev_var rfl) ea_nil)) (by omega) (by omega) (hf4.mono (e5.trans (e6.trans e7))) (by omega) fun g2 H8 b8 hf8 hg2 => fin g2 H8 (by omega) ((But.of (e6.trans e7)).trans b8) hf8
    · refine ⟨_, _, rfl, I4.app hnt htF htlH ht4 b6 hf6 ht6 hn6 hp (nd_ne hN (List.getElem?_eq_getElem hi10) hj (fun z => hne z.symm)) (List.getElem_mem hi10) (List.mem_of_getElem? hj), by simp [hEl], fun i' h0 h1 => ?_⟩
      by_cases hlast : i' = i + 1
      · subst hlast
        exact ⟨j, hPP, _, v, List.getElem?_eq_getElem hi10, hj, .inl (List.mem_append_right _ List.mem_cons_self)⟩
      · exact (hL.more _) i' h0 (by omega)
  rintro σ' H4 ⟨Es4, o4, rfl, I4, hEl4, hL4⟩
  rw [show ((many : Int) - 1).toNat = many - 1 by omega] at I4 hEl4 hL4
  rw [show many - 1 + 1 = many by omega] at hL4
  -- more ties
  refine q_of (s_forR1 (n := ((if 1 < many then more else 0 : Nat) : Int)) (ea_cons (ev_if (b := decide ((1 : Int) < many)) (et_test (ev_op (ev_var rfl) ev_c rv_I0)) (fun z => ?_) (fun z => ?_)) ea_nil) ⟨by omega, by split <;> omega⟩
    (fun i σ' H' => ∃ (Es : List Tie) (o6 o7 o8 : Option V), σ' = [some (.ref F), some (.int many), some (.int more), some (.ref nl), some (.int g), some (.ref tl), o6, o7, o8, none, none, none] ∧ SzI K F nl tl H ns (n + 30 + 2 * i) Es H' ∧ Es.length = many - 1 + i ∧ Linked ns many Es)
    (fun H5 e5 => ⟨Es4, o4, none, none, rfl, (I4.ex e5).le (by omega), by omega, hL4⟩) ?_ ?_)
  · rw [if_pos (by have := of_decide_eq_true z; omega)]
    exact ev_var rfl
  · rw [if_neg (by have := of_decide_eq_false z; omega)]
    exact ev_c
  · rintro i σ' H' hi ⟨Es, o6, o7, o8, rfl, I5, hEl, hL⟩
    have hm2 : 1 < many := by
      by_cases z : 1 < many
      · exact z
      · rw [if_neg z] at hi
        omega
    rw [if_pos hm2] at hi
    refine draw_go (ea_cons (ev_var rfl) (ea_cons (ev_var rfl) ea_nil)) (by omega) (by omega) I5.2.1 (by omega) fun g1 H6 b6 hf6 hg1 => ?_
    have I6 := I5.go hnF htF b6 hf6
    obtain ⟨_, _, hn6, ⟨vs, ht6, hP6⟩, hPr⟩ := id I6
    have hvl := paired_len hP6
    have hg1' : g1 < ns.length := by omega
    refine tie_go (i := g1) (m := n + 30 + 2 * (i + 1)) (ns := ns) (vs := vs) (PP := fun _ => True) rfl rfl hnF htF hn6 ht6 (by omega) (ev_var rfl) (List.getElem?_eq_getElem hg1') (fun H7 e7 Q7 k7 => ?_) (fun j v p H8 b8 hf8 hj hne _ ht8 hn8 hp => ?_)
    · refine (ev_op (ev_var rfl) ev_c rv_I0) H7 (Ex.refl H7) _ fun H8 e8 => ?_
      refine draw_go (ea_cons (ev_var rfl) (ea_cons (ev_op (ev_var rfl) ev_c rv_I0) ea_nil)) (by omega) (by omega) (hf6.mono (e7.trans e8)) (by omega) fun d H9 b9 hf9 hd => ?_
      refine ⟨_, _, rfl, rfl, .inl ⟨_, rfl, ⟨_, rfl, _, _, rfl, rfl, by omega, ?_⟩⟩⟩
      have hj : (g1 + 1 + d) % many < many := Nat.mod_lt _ (by omega)
      have e : ((g1 : Int) + 1 + (d : Int)) % (many : Int) = (((g1 + 1 + d) % many : Nat) : Int) := by
        rw [Int.natCast_emod]
        simp
      show Q7 (.int (((g1 : Int) + 1 + (d : Int)) % (many : Int))) H9
      rw [e]
      refine k7 _ _ H9 ((But.of e8).trans b9) (hf9.le (by omega)) (List.getElem?_eq_getElem (by omega)) ?_ trivial
      have hg1m : g1 < many := by omega
      have hdm : d < many - 1 := by omega
      by_cases z : g1 + 1 + d < many
      · rw [Nat.mod_eq_of_lt z]
        omega
      · rw [Nat.mod_eq_sub_mod (by omega), Nat.mod_eq_of_lt (by omega)]
        omega
    · refine ⟨_, _, _, _, rfl, I6.app hnt htF htlH ht6 b8 hf8 ht8 hn8 hp (nd_ne hN (List.getElem?_eq_getElem hg1') hj (fun z => hne z.symm)) (List.getElem_mem hg1') (List.mem_of_getElem? hj), by simp [hEl]; omega, hL.more _⟩
  rintro σ' H5 ⟨Es5, o6, o7, o8, rfl, I5, hEl5, hL5⟩
  simp only [Int.toNat_natCast] at I5 hEl5
  have hmo' : (if 1 < many then more else 0 : Nat) ≤ 5 := by split <;> omega
  have hzero : more = 0 → Es5.length + 1 = many := fun z => by
    rw [hEl5, z]
    simp
    omega
  have hE14 : Es5.length ≤ 14 := by omega
  obtain ⟨bH5, hf5, hn5, ⟨vs5, ht5, hP5⟩, hPr5⟩ := id I5
  have hv5 := paired_len hP5
  -- mixed, turned
  refine mixed_go2 (ea_cons (ev_var rfl) (ea_cons (ev_var rfl) ea_nil)) ht5 htF (by omega) hf5 (by omega) fun mx H6 ys hmx b6 hf6 h6 hPm => ?_
  obtain ⟨Es6, hE6, hP6⟩ := paired_perm hPm (paired_mono hP5 fun v e hb => hb.mono (hf5.tp (K := K) b6))
  have hn6 := b6 _ _ hnF hn5
  have hmxF : mx ≠ F := hf5.ne hmx
  have hy6 := paired_len hP6
  have hE6l : Es6.length = Es5.length := hE6.length_eq
  refine ⟨mx, rfl, ⟨_, sq_of h6⟩, fun td htd => lc_list (xs := ys) (fun i H' => But F H6 H' ∧ Feed F H' (n + 60 + i) ∧ ∃ (acc : List V) (Es' : List Tie), H' td = some (.lst acc) ∧ Paired (IsEn K H') acc Es' ∧ Paired (fun e' e => e' = e ∨ e' = (e.2, e.1)) Es' (Es6.take i) ∧ acc.length = i)
    ⟨(But.refl F H6).mut htd, (hf6.upd (hf6.ne htd)).le (by omega), [], [], upd_same, .nil, .nil, rfl⟩ (fun i H' _ p => sq_of (p.1 _ _ hmxF h6)) ?_ ?_⟩
  · rintro i x H' hx ⟨b7, hf7, acc, Es', hacc, hPa, hPt, hal⟩
    have htdF : td ≠ F := hf6.ne htd
    obtain ⟨⟨u, v⟩, hek, t, rfl, ht⟩ := paired_at' hP6 hx
    have hil : i < Es6.length := (List.getElem?_eq_some_iff.mp hek).1
    have ht7 := (hf6.tp (K := K) b7).1 _ _ ht
    have fin : ∀ (e' : Tie) (H8 : Hp) (y : V), (e' = (u, v) ∨ e' = (v, u)) → But F H' H8 → Feed F H8 (n + 60 + (i + 1)) → IsEn K H8 y e' → H8 td = some (.lst acc) →
        ∃ acc, H8 td = some (.lst acc) ∧ acc.length < sizeLine ∧ (But F H6 (upd H8 td (.lst (acc ++ [y]))) ∧ Feed F (upd H8 td (.lst (acc ++ [y]))) (n + 60 + (i + 1)) ∧ ∃ (acc' : List V) (Es' : List Tie), upd H8 td (.lst (acc ++ [y])) td = some (.lst acc') ∧ Paired (IsEn K (upd H8 td (.lst (acc ++ [y])))) acc' Es' ∧ Paired (fun e' e => e' = e ∨ e' = (e.2, e.1)) Es' (Es6.take (i + 1)) ∧ acc'.length = i + 1) := fun e' H8 y he b8 hf8 hy hacc8 => by
      have tp : Tp K H8 (upd H8 td (.lst (acc ++ [y]))) := Tp.lst hacc8
      refine ⟨acc, hacc8, sz_lt (by omega), (b7.trans b8).mut htd, hf8.upd htdF, _, Es' ++ [e'], upd_same, paired_snoc (paired_mono hPa fun v e hb => hb.mono ((hf7.tp b8).trans tp)) (hy.mono tp), ?_, by simp [hal]⟩
      rw [List.take_add_one, hek]
      exact paired_snoc hPt he
    refine ⟨rfl, draw_go (ea_cons (ev_var rfl) (ea_cons ev_c ea_nil)) (by decide) (by decide) hf7 (by omega) fun g2 H8 b8 hf8 hg2 => ⟨rfl, _, rfl, ?_⟩⟩
    have ht8 := (hf7.tp (K := K) b8).1 _ _ ht7
    by_cases hz : V.int (g2 : Int) = V.int 0
    · rw [decide_eq_true hz]
      show (if true = true then _ else _)
      rw [if_pos rfl]
      refine (eu_tup (ea_cons (ev_op (ev_var rfl) ev_c (rv_ixT ht8 (i := 1) (v := .str v) rfl)) (ea_cons (ev_op (ev_var rfl) ev_c (rv_ixT ht8 (i := 0) (v := .str u) rfl)) ea_nil)) (by simp)) H8 (Ex.refl H8) _ fun p H9 _ e9 h9 => ?_
      exact fin (v, u) H9 (.ref p) (.inr rfl) (b8.trans (But.of e9)) ((hf8.mono e9).le (by omega)) ⟨p, rfl, st_of h9⟩ (e9 _ _ (b8 _ _ htdF hacc))
    · rw [decide_eq_false hz]
      show (if false = true then _ else _)
      rw [if_neg (by decide)]
      exact ⟨_, rfl, fin (u, v) H8 (.ref t) (.inl rfl) b8 (hf8.le (by omega)) ⟨t, rfl, ht8⟩ (b8 _ _ htdF hacc)⟩
  rintro H7 ⟨b7, hf7, acc, Es7, hacc, hPa, hPt, hal⟩
  rw [hy6, List.take_length] at hPt
  rw [hy6] at hf7 hal
  have htdF : td ≠ F := hf6.ne htd
  have hsy : Sy Es5 Es7 := (Sy.perm hE6).trans (Sy.turn hPt)
  have hPr7 := hPr5.sy hsy
  have hL7 := hL5.sy hsy
  have hE7 : Es7.length = Es5.length := hsy.len
  have hn7 := b7 _ _ hnF hn6
  -- roads' names
  refine names_go (m := acc.length) (ea_cons (ev_var rfl) (ea_cons (ev_len (ev_var rfl) (sq_of hacc)) ea_nil)) (by omega) hf7 (by omega) fun fl H8 fs hfl b8 hf8 h8 hfsl hfN hfsub => ?_
  have hflF : fl ≠ F := hf7.ne hfl
  have hacc8 := b8 _ _ htdF hacc
  have hn8 := b8 _ _ hnF hn7
  have hPa8 := paired_mono hPa fun v e hb => hb.mono (hf7.tp (K := K) b8)
  -- the places
  refine mixed_go2 (ea_cons (ev_var rfl) (ea_cons (ev_var rfl) ea_nil)) hn8 hnF (by rw [List.length_map]; omega) hf8 (by omega) fun pl H9 ys9 hpl b9 hf9 h9 hP9 => ?_
  obtain ⟨Pl, rfl, hPlP⟩ := perm_strs hP9
  refine ⟨pl, _, rfl, sq_of h9, fun ap o hap ho => ?_⟩
  have e10 : Ex H9 (upd H9 ap (.frz o (.tup (Pl.map V.str)))) := Ex.new hap
  have hfz : Fz (upd H9 ap (.frz o (.tup (Pl.map V.str)))) ap (Pl.map V.str) := ⟨o, upd_same, ho⟩
  generalize upd H9 ap (.frz o (.tup (Pl.map V.str))) = H10 at e10 hfz
  have hacc10 := e10 _ _ (b9 _ _ htdF hacc8)
  have hfl10 := e10 _ _ (b9 _ _ hflF h8)
  have hPa10 := paired_mono hPa8 fun v e hb => hb.mono ((hf8.tp (K := K) b9).trans (Tp.of e10))
  have hfE : fs.length = Es7.length := by
    have := paired_len hPa8
    omega
  have hRl : (mkR fs Es7).length = Es7.length := mkR_len hfE
  -- the roads
  refine ⟨_, rfl, _, rfl, fl, td, _, _, rfl, sq_of hfl10, sq_of hacc10, fun rd hrd => lc_it (walk_zip (xs := fs.map V.str) (ys := acc) (n := acc.length) (by rw [List.length_map]; omega)) (fun i H' => Ex H10 H' ∧ ∃ (rs : List V), H' rd = some (.lst rs) ∧ Paired (IsRd K H') rs ((mkR fs Es7).take i) ∧ rs.length = i)
    ⟨Ex.new hrd, [], upd_same, .nil, rfl⟩ (fun i H' _ p => ⟨sq_of (p.1 _ _ hfl10), sq_of (p.1 _ _ hacc10)⟩) ?_ ?_⟩
  · rintro i x H' H'' hi ⟨e11, rs, hrs, hPrs, hrl⟩ ⟨T, x1, x2, rfl, hT, rfl, hx1, hx2⟩
    obtain ⟨⟨u, v⟩, hek, t, rfl, ht⟩ := paired_at' hPa10 hx2
    have hif : i < fs.length := by
      have := (List.getElem?_eq_some_iff.mp hek).1
      omega
    have hfk : fs[i]? = some fs[i] := List.getElem?_eq_getElem hif
    have hx1 : (fs.map V.str)[i]? = some x1 := hx1
    rw [List.getElem?_map, hfk] at hx1
    cases hx1
    have e12 : Ex H' (upd H' T (.tup [.str fs[i], .ref t])) := Ex.new hT
    have ht12 : Dp K (upd H' T (.tup [.str fs[i], .ref t])) (.ref t) (.tuple [.str u, .str v]) := .tup (ex_t (e11.trans e12) ht) (.cons (.str _) (.cons (.str _) .nil))
    refine g_two (st_of upd_same) ⟨rfl, ?_⟩
    refine (ed_cat (xs := [.str fs[i]]) (ys := [.str u, .str v]) (ed_tup (ed_cons (ed_var rfl (.str _)) ed_nil) (by simp)) (ed_var rfl ht12) (by simp)) _ (Ex.refl _) _ fun y H13 e13 hy => ?_
    obtain ⟨ra, ws, rfl, hra, hws⟩ := dp_tupI hy
    obtain ⟨w1, w2, w3, rfl, q1, q2, q3⟩ := dpa3 (d := .str fs[i]) (e := .str u) (f := .str v) hws
    cases q1
    cases q2
    cases q3
    have hrs13 := (e12.trans e13) _ _ hrs
    have tp : Tp K H13 (upd H13 rd (.lst (rs ++ [.ref ra]))) := Tp.lst hrs13
    refine ⟨rs, hrs13, sz_lt (by omega), Ex.mut (e11.trans (e12.trans e13)) hrd, _, upd_same, ?_, by simp [hrl]⟩
    have hmk : (mkR fs Es7)[i]? = some (fs[i], u, v) := by
      unfold mkR
      rw [List.getElem?_zipWith, hfk, hek]
    rw [List.take_add_one, hmk]
    exact paired_snoc (paired_mono hPrs fun v e hb => hb.mono ((Tp.of (e12.trans e13)).trans tp)) ⟨ra, rfl, tp.1 _ _ hra⟩
  rintro H11 ⟨e11, rs, hrs, hPrs, hrl⟩
  rw [List.take_of_length_le (by omega)] at hPrs
  refine ⟨rd, _, rfl, sq_of hrs, fun ar o2 har ho2 => ?_⟩
  have e12 : Ex H11 (upd H11 ar (.frz o2 (.tup rs))) := Ex.new har
  have hfz2 : Fz (upd H11 ar (.frz o2 (.tup rs))) ar rs := ⟨o2, upd_same, ho2⟩
  generalize upd H11 ar (.frz o2 (.tup rs)) = H12 at e12 hfz2
  refine ⟨sz_of (by simp), fun wp hwp => ?_⟩
  have e13 : Ex H12 (upd H12 wp (.tup [.ref ap, .ref ar])) := Ex.new hwp
  have e1013 := e11.trans (e12.trans e13)
  have bAll : But F H (upd H12 wp (.tup [.ref ap, .ref ar])) := ((((bH5.trans b6).trans b7).trans b8).trans b9).trans (But.of (e10.trans e1013))
  refine q wp _ Pl (mkR fs Es7) bAll ((hf9.mono (e10.trans e1013)).le (by rw [List.length_map]; omega)) ⟨⟨ap, ar, rs, st_of upd_same, (Tp.of (K := K) e1013).2 _ _ hfz, ((Tp.of (K := K) e13).2 _ _ hfz2).sq, paired_mono hPrs fun v e hb => hb.mono (Tp.of (e12.trans e13))⟩, ?_, inP_of hPlP hN hPr7, by omega, by rw [hPlP.length_eq]; omega⟩ ⟨fun s hs => hsub s (hPlP.mem_iff.mp hs), fun r hr => ?_, fun r hr => ?_⟩ (by rw [hPlP.length_eq]; exact hnsl) (fun z => tree_of hfE hPlP (by have := hzero z; omega) (by rw [hnsl]; exact hL7))
  · show ((mkR fs Es7).map (·.1)).Nodup
    rw [mkR_keys hfE]
    exact hfN
  · obtain ⟨f0, x0, y0⟩ := r
    exact hfsub _ (mkR_mem hr).1
  · obtain ⟨f0, x0, y0⟩ := r
    exact (hPr7 _ (mkR_mem hr).2).1
end
end RW
end

section
set_option maxRecDepth 100000
set_option maxHeartbeats 4000000
/-! what evaluates to a tree of data that does not hold the list at f -/
namespace RW
open PySem PySem.Spec PyProof.Rows L2 Evl

/-- the heap without f -/
def wo (f : Addr) (H : Hp) : Hp := fun b => if b = f then none else H b
section
variable {f p : Addr} {H H' : Hp} {o : HO}
theorem wo_self : wo f H f = none := if_pos rfl
theorem wo_ne (h : p ≠ f) : wo f H p = H p := if_neg h
theorem wo_le : Ex (wo f H) H := fun a u h => by
  by_cases z : a = f
  · subst z
    rw [wo_self] at h
    cases h
  · rw [wo_ne z] at h
    exact h
theorem wo_ex (e : Ex H H') : Ex (wo f H) (wo f H') := fun a u h => by
  by_cases z : a = f
  · subst z
    rw [wo_self] at h
    cases h
  · rw [wo_ne z] at h ⊢
    exact e _ _ h
theorem wo_upd : wo f (upd H f o) = wo f H := by
  funext b
  by_cases z : b = f
  · subst z
    rw [wo_self, wo_self]
  · rw [wo_ne z, wo_ne z, upd_ne z]
/-- what H knows without f, whatever is at f -/
theorem wo_of (h : H f = none) (e : Ex H H') : Ex H (wo f H') := fun a u ha => by
  rw [wo_ne (ne_of_none ha h)]
  exact e _ _ ha
end
def EvF (K : PySem.W.Frag) (f : Addr) (te : TE) (σ : L2.St) (H : Hp) (d : PyData) : Prop := ∀ H1, Ex H H1 → ∀ Q : VK, (∀ v H2, Ex H1 H2 → Dp K (wo f H2) v d → Q v H2) → te σ H1 Q
def EvFA (K : PySem.W.Frag) (f : Addr) (ta : TA) (σ : L2.St) (H : Hp) (ds : List PyData) : Prop := ∀ H1, Ex H H1 → ∀ Q : List V → Hp → Prop, (∀ vs H2, Ex H1 H2 → DpAll K (wo f H2) vs ds → Q vs H2) → ta σ H1 Q
section
variable {K : PySem.W.Frag} {σ : L2.St} {H H' : Hp} {ta tb te : TE} {tr : TA} {v : V} {d : PyData} {f : Addr} {D : Ends}
theorem EvF.mono (e : Ex H H') (h : EvF K f te σ H d) : EvF K f te σ H' d := fun H1 a Q q => h H1 (e.trans a) Q q
theorem df_of (h : Ev te σ H v) (hd : Dp K (wo f H) v d) : EvF K f te σ H d := fun H1 e Q q => h H1 e _ fun H2 e2 => q v H2 e2 (dp_mono (wo_ex (e.trans e2)) hd)
theorem df_var {i : Nat} (h : σ[i]? = some (some v)) (hd : Dp K (wo f H) v d) : EvF K f (tVar i) σ H d := df_of (ev_var h) hd
theorem df_int {i : Int} : EvF K f (tC (.int i)) σ H (.int i) := df_of ev_c (.int i)
theorem df_str {s : Str} : EvF K f (tC (.str s)) σ H (.str s) := df_of ev_c (.str s)
theorem df_non : EvF K f (tC .non) σ H .none := df_of ev_c .non
theorem df_nil : EvFA K f tNil σ H [] := fun H1 _ Q q => q [] H1 (Ex.refl H1) .nil
theorem df_cons {ds : List PyData} (h : EvF K f te σ H d) (hr : EvFA K f tr σ H ds) : EvFA K f (tCons te tr) σ H (d :: ds) := fun H1 e Q q =>
  h H1 e _ fun v H2 e2 hv => hr H2 (e.trans e2) _ fun vs H3 e3 hvs => q (v :: vs) H3 (e2.trans e3) (.cons (dp_mono (wo_ex e3) hv) hvs)
theorem nf {o : HO} {p : Addr} {H1 H2 : Hp} (hf : ∃ o, H f = some o) (e : Ex H H1) (e2 : Ex H1 H2) (hp : H2 p = none) : p ≠ f := fun z => by
  subst z
  obtain ⟨o, ho⟩ := hf
  rw [(e.trans e2) _ _ ho] at hp
  cases hp
theorem df_tup {ds : List PyData} (hf : ∃ o, H f = some o) (h : EvFA K f tr σ H ds) (hl : ds.length ≤ 100000) : EvF K f (tTup tr) σ H (.tuple ds) := fun H1 e Q q =>
  h H1 e _ fun vs H2 e2 hvs => ⟨sz_of (by rw [dpa_len hvs]; exact hl), fun p hp => q (.ref p) _ (e2.trans (Ex.new hp)) (.tup (st_of (by rw [wo_ne (nf (o := .tup []) hf e e2 hp)]; exact upd_same)) (dpa_mono (wo_ex (Ex.new hp)) hvs))⟩
theorem df_lst {ds : List PyData} (hf : ∃ o, H f = some o) (h : EvFA K f tr σ H ds) (hl : ds.length ≤ 100000) : EvF K f (tLst tr) σ H (.list ds) := fun H1 e Q q =>
  h H1 e _ fun vs H2 e2 hvs => ⟨sz_of (by rw [dpa_len hvs]; exact hl), fun p hp => q (.ref p) _ (e2.trans (Ex.new hp)) (.lst (sq_of (by rw [wo_ne (nf (o := .tup []) hf e e2 hp)]; exact upd_same)) (dpa_mono (wo_ex (Ex.new hp)) hvs))⟩
theorem df_cat {xs ys : List PyData} (hf : ∃ o, H f = some o) (ha : EvF K f ta σ H (.tuple xs)) (hb : EvF K f tb σ H (.tuple ys)) (hl : xs.length + ys.length ≤ 100000) : EvF K f (tOp (rCatA K) ta tb) σ H (.tuple (xs ++ ys)) := fun H1 e Q q =>
  ha H1 e _ fun v H2 e2 hv => hb H2 (e.trans e2) _ fun u H3 e3 hu => by
    obtain ⟨a, vs, rfl, h1, h2⟩ := dp_tupI (dp_mono (wo_ex e3) hv)
    obtain ⟨b, us, rfl, h3, h4⟩ := dp_tupI hu
    refine ⟨a, b, vs, us, rfl, rfl, ex_t wo_le h1, ex_t wo_le h3, sz_of (by rw [dpa_len h2, dpa_len h4]; exact hl), fun z => ?_, fun _ z => ?_, fun _ _ p hp => ?_⟩
    · subst z
      cases h2
      exact q (.ref b) H3 (e2.trans e3) (.tup h3 h4)
    · subst z
      cases h4
      exact q (.ref a) H3 (e2.trans e3) (by rw [List.append_nil]; exact .tup h1 h2)
    · exact q (.ref p) _ ((e2.trans e3).trans (Ex.new hp)) (.tup (st_of (by rw [wo_ne (nf (o := .tup []) hf e (e2.trans e3) hp)]; exact upd_same)) (dpa_mono (wo_ex (Ex.new hp)) (dpa_app h2 h4)))
theorem df_sl {xs : List PyData} {tl th : TO} {lo hi : Option Int} (hf : ∃ o, H f = some o) (ha : EvF K f te σ H (.tuple xs)) (h1 : EvO tl σ H lo) (h2 : EvO th σ H hi) : EvF K f (tSl (rSlA K) te tl th) σ H (.tuple (cutA xs lo hi)) := fun H1 e Q q =>
  ha H1 e _ fun v H2 e2 hv => h1 H2 (e.trans e2) _ fun H3 e3 => h2 H3 ((e.trans e2).trans e3) _ fun H4 e4 => by
    obtain ⟨a, vs, rfl, x1, x2⟩ := dp_tupI (dp_mono (wo_ex (e3.trans e4)) hv)
    refine ⟨a, vs, rfl, ex_t wo_le x1, fun z => ?_, fun _ p hp => ?_⟩
    · have x3 := dpa_cut lo hi x2
      rw [cutV_whole z] at x3
      exact q (.ref a) H4 ((e2.trans e3).trans e4) (.tup x1 x3)
    · exact q (.ref p) _ (((e2.trans e3).trans e4).trans (Ex.new hp)) (.tup (st_of (by rw [wo_ne (nf (o := .tup []) hf e ((e2.trans e3).trans e4) hp)]; exact upd_same)) (dpa_mono (wo_ex (Ex.new hp)) (dpa_cut lo hi x2)))
theorem df_ixI {xs : List PyData} {i : Int} (ha : EvF K f ta σ H (.tuple xs)) (hi : Ev tb σ H (.int i)) (hx : atI xs i = some d) : EvF K f (tOp (rIxT K) ta tb) σ H d := fun H1 e Q q =>
  ha H1 e _ fun v H2 e2 hv => hi H2 (e.trans e2) _ fun H3 e3 => by
    obtain ⟨a, vs, rfl, x1, x2⟩ := dp_tupI (dp_mono (wo_ex e3) hv)
    unfold atI at hx
    rw [← dpa_len x2] at hx
    cases hk : ixN vs.length i with
    | none => rw [hk] at hx; cases hx
    | some j =>
      rw [hk] at hx
      obtain ⟨u, y1, y2⟩ := dpa_at' x2 (i := j) hx
      exact ⟨a, vs, i, u, rfl, rfl, ex_t wo_le x1, by unfold atI; rw [hk]; exact y1, q u H3 (e2.trans e3) y2⟩
theorem df_ix {xs : List PyData} {i : Nat} (ha : EvF K f ta σ H (.tuple xs)) (hi : Ev tb σ H (.int (i : Int))) (hx : xs[i]? = some d) : EvF K f (tOp (rIxT K) ta tb) σ H d := df_ixI ha hi (atI_nat hx)
theorem df_listof {xs : List PyData} (hf : ∃ o, H f = some o) (ha : EvF K f te σ H (.tuple xs)) : EvF K f (tCB (rListS K) (tCons te tNil)) σ H (.list xs) := fun H1 e Q q =>
  ha H1 e _ fun v H2 e2 hv => by
    obtain ⟨a, vs, rfl, x1, x2⟩ := dp_tupI hv
    exact ⟨a, vs, rfl, .inr (ex_t wo_le x1), fun l hl => q (.ref l) _ (e2.trans (Ex.new hl)) (.lst (sq_of (by rw [wo_ne (nf (o := .tup []) hf e e2 hl)]; exact upd_same)) (dpa_mono (wo_ex (Ex.new hl)) x2))⟩
/-- tuple(a new list) -/
theorem df_tupof {ds : List PyData} (hf : ∃ o, H f = some o) (h : ∀ H1, Ex H H1 → ∀ Q : VK, (∀ p H2 xs, Ex H1 H2 → H2 p = some (.lst xs) → DpAll K (wo f H2) xs ds → Q (.ref p) H2) → te σ H1 Q) : EvF K f (tCB (rTupO K) (tCons te tNil)) σ H (.tuple ds) := fun H1 e Q q =>
  h H1 e _ fun p H2 xs e2 h2 hx => ⟨p, xs, rfl, .inl ⟨sq_of h2, fun l hl => q (.ref l) _ (e2.trans (Ex.new hl)) (.tup (st_of (by rw [wo_ne (nf (o := .tup []) hf e e2 hl)]; exact upd_same)) (dpa_mono (wo_ex (Ex.new hl)) hx))⟩⟩
/-- t * 2 -/
theorem df_two {xs : List PyData} (hf : ∃ o, H f = some o) (ha : EvF K f ta σ H (.tuple xs)) (h0 : xs ≠ []) (hl : xs.length ≤ 1000) : EvF K f (tOp (rRepT K) ta (tC (.int 2))) σ H (.tuple (xs ++ xs)) := fun H1 e Q q =>
  ha H1 e _ fun v H2 e2 hv => by
    obtain ⟨a, vs, rfl, x1, x2⟩ := dp_tupI hv
    have hlv := dpa_len x2
    refine ⟨a, 2, vs, rfl, rfl, ex_t wo_le x1, fun z => h0 (List.length_eq_zero_iff.mp (by rw [← hlv, z]; rfl)), by decide, by decide, by omega, fun p hp => ?_⟩
    have e0 : (List.replicate (2 : Int).toNat vs).flatten = vs ++ vs := by
      show (vs ++ (vs ++ [])) = _
      rw [List.append_nil]
    rw [e0]
    exact q (.ref p) _ (e2.trans (Ex.new hp)) (.tup (st_of (by rw [wo_ne (nf (o := .tup []) hf e e2 hp)]; exact upd_same)) (dpa_mono (wo_ex (Ex.new hp)) (dpa_app x2 x2)))
/-- bad.extend(a new list) -/
theorem s_extL {vs : List V} {es : List PyData} {PP : List PyData → Prop} (hF : H f = some (.lst vs)) (hd : DpAll K (wo f H) vs es) (hi : Ev ta σ H (.ref f)) (hz : vs.length ≤ 1000)
    (h : ∀ H1, Ex H H1 → ∀ Q : VK, (∀ b zs ds H2, Ex H1 H2 → H2 b = some (.lst zs) → DpAll K (wo f H2) zs ds → PP ds → zs.length ≤ 1000 → Q (.ref b) H2) → te σ H1 Q)
    (k : ∀ H2 ws ds, Ex (wo f H) (wo f H2) → H2 f = some (.lst ws) → DpAll K (wo f H2) ws (es ++ ds) → PP ds → D.nx σ H2) : tDrop (tBM K "list" rExtend ta (tCons te tNil)) D σ H :=
  hi H (Ex.refl H) _ fun H1 e1 => ⟨Or.inl ⟨rfl, vs, sq_of (e1 _ _ hF)⟩, h H1 e1 _ fun b zs ds H2 e2 hb hzs hP hl => by
    have e12 := e1.trans e2
    refine ⟨f, b, vs, zs, rfl, rfl, e12 _ _ hF, hb, sz_of (by omega), ?_⟩
    refine k _ (vs ++ zs) ds ?_ upd_same ?_ hP
    · rw [wo_upd]
      exact wo_ex e12
    · rw [wo_upd]
      exact dpa_app (dpa_mono (wo_ex e12) hd) hzs⟩
theorem s_extF {vs : List V} {es ds : List PyData} (hF : H f = some (.lst vs)) (hd : DpAll K (wo f H) vs es) (hi : Ev ta σ H (.ref f)) (hz : vs.length ≤ 1000) (h : EvFA K f tr σ H ds) (hl : ds.length ≤ 1000)
    (k : ∀ H2 ws, Ex (wo f H) (wo f H2) → H2 f = some (.lst ws) → DpAll K (wo f H2) ws (es ++ ds) → D.nx σ H2) : tDrop (tBM K "list" rExtend ta (tCons (tLst tr) tNil)) D σ H :=
  s_extL (PP := fun d => d = ds) hF hd hi hz (fun H1 e1 Q q => h H1 e1 _ fun zs H2 e2 hzs => by
    have hlz := dpa_len hzs
    refine ⟨sz_of (by omega), fun b hb => ?_⟩
    exact q b zs ds _ (e2.trans (Ex.new hb)) upd_same (dpa_mono (wo_ex (Ex.new hb)) hzs) rfl (by omega)) fun H2 ws ds' e h2 hws hP => by
      subst hP
      exact k H2 ws e h2 hws
theorem s_appF {vs : List V} {es : List PyData} (hF : H f = some (.lst vs)) (hd : DpAll K (wo f H) vs es) (hi : Ev ta σ H (.ref f)) (hz : vs.length ≤ 1000) (h : EvF K f te σ H d)
    (k : ∀ H2 ws, Ex (wo f H) (wo f H2) → H2 f = some (.lst ws) → DpAll K (wo f H2) ws (es ++ [d]) → D.nx σ H2) : tDrop (tBM K "list" rAppend ta (tCons te tNil)) D σ H :=
  hi H (Ex.refl H) _ fun H1 e1 => ⟨Or.inl ⟨rfl, vs, sq_of (e1 _ _ hF)⟩, h H1 e1 _ fun v H2 e2 hv => by
    have e12 := e1.trans e2
    refine ⟨f, vs, v, rfl, rfl, e12 _ _ hF, sz_lt (by omega), ?_⟩
    refine k _ (vs ++ [v]) ?_ upd_same ?_
    · rw [wo_upd]
      exact wo_ex e12
    · rw [wo_upd]
      exact dpa_app (dpa_mono (wo_ex e12) hd) (.cons hv .nil)⟩
end
end RW
end

section
set_option maxRecDepth 100000
set_option maxHeartbeats 4000000
/-! the walk of the law's bad webs -/
namespace RW
open PySem PySem.Spec PyProof.Rows L2 Evl

def pd (P : List Str) : List PyData := P.map PyData.str
def rdD (r : RdS) : PyData := .tuple [.str r.1, .str r.2.1, .str r.2.2]
def rds (R : List RdS) : List PyData := R.map rdD
def pNum (i : Nat) : Str := ("p" : Str) ++ (toString (i : Int) : String)
def rNum (i : Nat) : Str := ("r" : Str) ++ (toString (i : Int) : String)
def rdN (i : Nat) : PyData := .tuple [.str (rNum i), .str "a", .str "b"]
def B1 (P : List Str) (R : List RdS) : List PyData := [.none, .int 7, .tuple [], .list [.tuple (pd P), .tuple (rds R)], .tuple [.tuple (pd P)], .tuple [.list (pd P), .tuple (rds R)], .tuple [.tuple (pd P), .list (rds R)],
  .tuple [.tuple (pd P ++ cutA (pd P) none (some 1)), .tuple (rds R)], .tuple [.tuple [], .tuple []], .tuple [.tuple (pd P ++ [.str "A"]), .tuple (rds R)]]
def B2 (P : List Str) (R : List RdS) (p0 : Str) : List PyData := [.tuple [.tuple (pd P), .tuple (rds R ++ [.tuple [.str "way9", .str p0, .str p0]])], .tuple [.tuple (pd P), .tuple (rds R ++ [.tuple [.str "way9", .str p0, .str "nowhere"]])], .tuple [.tuple (pd P), .tuple (rds R ++ [.tuple [.str "way9", .str p0]])]]
def B3 : List PyData := [.tuple [.tuple ((List.range 11).map fun i => .str (pNum i)), .tuple []], .tuple [.tuple [.str "a", .str "b"], .tuple ((List.range 15).map rdN)]]
def B4 (P : List Str) : List PyData := [.tuple [.tuple (cutA (pd P) none (some 9) ++ [.str "ninesigns"]), .tuple []], .tuple [.tuple (cutA (pd P) none (some 9) ++ [.str "9a"]), .tuple []], .tuple [.tuple (cutA (pd P) none (some 9) ++ [.str "a_b"]), .tuple []]]
def B5 (P : List Str) (R : List RdS) (p0 p1 : Str) : List PyData := [.tuple [.tuple (pd P), .tuple (rds R ++ [.list [.str "way9", .str p0, .str p1]])], .tuple [.tuple (pd P), .tuple (rds R ++ [.tuple [.str "way 9", .str p0, .str p1]])]]
def B6 (P : List Str) (R : List RdS) (p0 p1 : Str) : PyData := .tuple [.tuple (pd P), .tuple (rds R ++ ([.tuple [.str "way9", .str p0, .str p1]] ++ [.tuple [.str "way9", .str p0, .str p1]]))]
theorem dp_web {K : PySem.W.Frag} {H : Hp} : ∀ {rs : List V} {R : List RdS}, Paired (IsRd K H) rs R → DpAll K H rs (rds R)
  | _, _, .nil => .nil
  | _, _, .cons ⟨a, e, h⟩ t => by
    subst e
    exact .cons (.tup h (.cons (.str _) (.cons (.str _) (.cons (.str _) .nil)))) (dp_web t)
theorem pNum_len : ∀ i < 11, (pNum i).length < 10 := by decide +kernel
theorem rNum_len : ∀ i < 15, (rNum i).length < 10 := by decide +kernel
theorem wo_updne {f p : Addr} {H : Hp} {o : HO} (h : p ≠ f) : wo f (upd H p o) = upd (wo f H) p o := by
  funext b
  by_cases z : b = f
  · subst z
    rw [wo_self, upd_ne (fun y => h y.symm), wo_self]
  · rw [wo_ne z]
    by_cases y : b = p
    · subst y
      rw [upd_same, upd_same]
    · rw [upd_ne y, upd_ne y, wo_ne z]
section
variable {K : PySem.W.Frag} {σ : L2.St} {H : Hp} {te ta tb : TE} {tr : TA} {f : Addr}
def rStrI : List V → Hp → VK → Prop := fun xs H Q => ∃ i : Int, xs = [.int i] ∧ i.natAbs.log2 < 1920 ∧ Q (.str (toString i : String)) H
theorem ev_str {i : Nat} (hi : i < 1000) (h : Ev te σ H (.int (i : Int))) : Ev (tCB rStrI (tCons te tNil)) σ H (.str (toString (i : Int) : String)) := fun H1 e Q q => h H1 e _ fun H2 e2 => ⟨(i : Int), rfl, by
  have : (i : Int).natAbs = i := by omega
  rw [this]
  by_cases z : i = 0
  · subst z; decide
  · exact (Nat.log2_lt z).mpr (Nat.lt_of_lt_of_le hi (Nat.le_trans (show 1000 ≤ 2 ^ 10 by decide) (Nat.pow_le_pow_right (by decide) (by decide)))), q H2 e2⟩
def rAddS : R2 := fun x y H Q => ∃ i j, x = .str i ∧ y = .str j ∧ i.length + j.length ≤ sizeLine ∧ Q (.str (i ++ j)) H
theorem rv_addS {a b : Str} (h : a.length + b.length ≤ 100000) : RV rAddS (.str a) (.str b) H (.str (a ++ b)) := rv_val fun H1 _ Q q => ⟨a, b, rfl, rfl, sz_of h, q⟩
theorem df_tupofL {xs : List V} {ds : List PyData} (hf : ∃ o, H f = some o) (h : EvL te σ H xs) (hd : ∀ H2, DpAll K H2 xs ds) : EvF K f (tCB (rTupO K) (tCons te tNil)) σ H (.tuple ds) :=
  df_tupof hf fun H1 e Q q => h H1 e _ fun p H2 _ e2 h2 => q p H2 xs e2 h2 (hd _)
theorem dpa_map {H : Hp} (g : Nat → Str) : ∀ l : List Nat, DpAll K H (l.map fun i => V.str (g i)) (l.map fun i => PyData.str (g i))
  | [] => .nil
  | _ :: t => .cons (.str _) (dpa_map g t)
/-- [e for i in range(n)], a pair of texts and the like for each -/
theorem lcR_F {n j : Nat} {vs : List Nat} {g : Nat → List Str} (hf : ∃ o, H f = some o) (hn : n ≤ 1000) (h : EvA tr σ H [.int (n : Int)]) (hw : ∀ x, wipe ((wipe σ vs).set j (some x)) vs = wipe σ vs)
    (he : ∀ (i : Nat) H1, i < n → Ex H H1 → EvF K f te ((wipe σ vs).set j (some (.int (i : Int)))) H1 (.tuple ((g i).map PyData.str))) :
    ∀ H1, Ex H H1 → ∀ Q : VK, (∀ p H2 xs, Ex H1 H2 → H2 p = some (.lst xs) → DpAll K (wo f H2) xs ((List.range n).map fun i => .tuple ((g i).map PyData.str)) → Q (.ref p) H2) → tLc (iRng1 tr) (gName j) tYes te vs σ H1 Q := fun H1 e Q q =>
  h H1 e _ fun H2 e2 => ⟨(n : Int), rfl, by omega, by omega, fun D hD => by
    have e02 := e.trans e2
    have hDf : D ≠ f := nf (o := .tup []) hf e e2 hD
    have hn0 : ((n : Int)).toNat = n := by omega
    rw [hn0]
    refine lc_range (lo := 0) (n := n) (Qd := fun H => Q (.ref D) H) (fun i H' => Ex H2 H' ∧ ∃ acc, H' D = some (.lst acc) ∧ acc.length = i ∧ Paired (fun v k => ∃ t, v = .ref t ∧ SqT K (wo f H') t ((g k).map V.str)) acc (List.range i)) ⟨Ex.new hD, [], upd_same, rfl, .nil⟩ (fun i H' hi p => ?_) (fun H' p => ?_)
    · obtain ⟨e3, acc, h1, h2, h3⟩ := p
      have e0 : (0 : Int) + (i : Int) = (i : Int) := Int.zero_add _
      show wipe ((wipe σ vs).set j (some (.int ((0 : Int) + (i : Int))))) vs = wipe σ vs ∧ te ((wipe σ vs).set j (some (.int ((0 : Int) + (i : Int))))) H' fun y H4 => ∃ acc, H4 D = some (.lst acc) ∧ acc.length < sizeLine ∧ _
      rw [e0]
      refine ⟨hw _, he i H' hi (e02.trans e3) H' (Ex.refl H') _ fun v H4 e4 hv => ⟨acc, e4 _ _ h1, sz_lt (by omega), Ex.mut (e3.trans e4) hD, _, upd_same, by simp [h2], ?_⟩⟩
      obtain ⟨t, rfl, ht⟩ := dp_strsI hv
      have tp : Tp K (wo f H4) (wo f (upd H4 D (.lst (acc ++ [.ref t])))) := by
        rw [wo_updne hDf]
        exact Tp.lst (xs := acc) (by rw [wo_ne hDf]; exact e4 _ _ h1)
      rw [List.range_succ]
      exact paired_snoc (paired_mono h3 fun v k ⟨t', q1, q2⟩ => ⟨t', q1, ((Tp.of (wo_ex e4)).trans tp).1 _ _ q2⟩) ⟨t, rfl, tp.1 _ _ ht⟩
    · obtain ⟨e3, acc, h1, h2, h3⟩ := p
      refine q D H' acc (e2.trans e3) h1 ?_
      have one : ∀ (xs : List V) (l : List Nat), Paired (fun v k => ∃ t, v = V.ref t ∧ SqT K (wo f H') t ((g k).map V.str)) xs l → DpAll K (wo f H') xs (l.map fun i => .tuple ((g i).map PyData.str)) := by
        intro xs l hp
        induction hp with
        | nil => exact .nil
        | cons r _ ih =>
          obtain ⟨t, rfl, ht⟩ := r
          exact .cons (.tup ht (dpa_strs _)) ih
      exact one _ _ h3⟩
end
end RW
end

section
set_option maxRecDepth 100000
set_option maxHeartbeats 4000000
/-! the walk of the law's bad webs -/
namespace RW
open PySem PySem.Spec PyProof.Rows L2 Evl

section
variable {P : Program} {w : World} {K : PySem.W.Frag} {mg : Str → Option Value} {base : Heap}
theorem q_asgF {σ : L2.St} {H : Hp} {D : Ends} {tz : TS} {tr : TA} {i : Nat} {ds : List PyData} (h : EvDA K tr σ H ds) (hl : ds.length ≤ 1000) (k : ∀ f vs H1, H f = none → Ex H (wo f H1) → H1 f = some (.lst vs) → DpAll K (wo f H1) vs ds → tz D (σ.set i (some (.ref f))) H1) : tSeq (tAsg (tLst tr) (gName i)) tz D σ H :=
  h H (Ex.refl H) _ fun vs H1 e1 hvs => ⟨sz_of (by rw [dpa_len hvs]; omega), fun f hf => k f vs _ (fresh_back e1 hf) (by rw [wo_upd]; exact e1.trans (wo_of hf (Ex.refl H1))) upd_same (by rw [wo_upd]; exact dpa_mono (wo_of hf (Ex.refl H1)) hvs)⟩
theorem ts_len : ∀ i : Nat, i < 15 → ((toString (i : Int) : String) : Str).length < 10 := by decide +kernel
theorem one_p : ("p" : Str).length = 1 := by decide +kernel
theorem one_r : ("r" : Str).length = 1 := by decide +kernel
def badWebs (P : List Str) (R : List RdS) : List PyData := match P with
  | [] => []
  | [p0] => B1 P R ++ B2 P R p0 ++ B3 ++ B4 P
  | p0 :: p1 :: _ => B1 P R ++ B2 P R p0 ++ B3 ++ B4 P ++ B5 P R p0 p1 ++ [B6 P R p0 p1]
def spBadWebs (K : PySem.W.Frag) : Sp := fun vs H Q _ => ∃ (a : Addr) (Pl : List Str) (R : List RdS), vs = [.ref a] ∧ IsWb K H a Pl R ∧ Pl ≠ [] ∧ Pl.length ≤ 10 ∧ R.length ≤ 14 ∧
  ∀ p H2 vs, H p = none → Ex H H2 → H2 p = some (.lst vs) → DpAll K H2 vs (badWebs Pl R) → Q (.ref p) H2
theorem c_badwebs (Z : Frees mg) (F : HasD K mg "_law_bad_webs" sWBadWebs) : Cal P w K mg base CX0 1 "_law_bad_webs" ["_law_web_here"] (spBadWebs K) := by
  refine cal_of F scWBadWebs (fun vs H Q E ⟨_, _, _, e, _⟩ => by rw [e]; rfl) (fun _ _ _ _ _ _ us hl => match us, hl with | [_], _ => rfl) fun f cdv A outer s H vs Q E hr h => ?_
  obtain ⟨a, Pl, R, rfl, ⟨ap, ar, rs, hw1, hap, hR, hrs⟩, h0, hP10, hR14, q⟩ := h
  refine ⟨_, (pss_cons (ps_asg (pv 0) (pg_tup (n := 2) (by rfl) (pgs_cons (pg_name (i := 1) scWBadWebs.nd rfl (.inl rfl)) (pgs_cons (pg_name (i := 2) scWBadWebs.nd rfl (.inl rfl)) pgs_nil))))
    (pss_cons (ps_set (i := 3) scWBadWebs.nd rfl (.inl rfl) (pe_lst (pa_cons pe_non (pa_cons pe_int (pa_cons (pe_tup pa_nil) (pa_cons (pe_lst (pa_cons (pv 1) (pa_cons (pv 2) pa_nil))) (pa_cons (pe_tup (pa_cons (pv 1) pa_nil)) (pa_cons (pe_tup (pa_cons (pe_callTy (call_list_of : CallR _ (.type "list") (Evl.rListS K)) (by rfl) Z.list_ (by decide +kernel) (pa_cons (pv 1) pa_nil)) (pa_cons (pv 2) pa_nil))) (pa_cons (pe_tup (pa_cons (pv 1) (pa_cons (pe_callTy (call_list_of : CallR _ (.type "list") (Evl.rListS K)) (by rfl) Z.list_ (by decide +kernel) (pa_cons (pv 2) pa_nil)) pa_nil))) (pa_cons (pe_tup (pa_cons (pe_op (op_catA : OpR _ (binaryOp .Add) (rCatA K)) (pv 1) (pe_slice (sl_tupA : SlR _ (rSlA K)) (pv 1) po_none (po_some pe_int))) (pa_cons (pv 2) pa_nil))) (pa_cons (pe_tup (pa_cons (pe_tup pa_nil) (pa_cons (pe_tup pa_nil) pa_nil))) (pa_cons (pe_tup (pa_cons (pe_op (op_catA : OpR _ (binaryOp .Add) (rCatA K)) (pv 1) (pe_tup (pa_cons pe_str pa_nil))) (pa_cons (pv 2) pa_nil))) pa_nil))))))))))))
    (pss_cons (ps_expr (pe_bm PySem.F.plainAttrs_list PySem.F.slot_list_extend PySem.F.type_list_extend mt_extend (pv 3) (pa_cons (pe_lst (pa_cons (pe_tup (pa_cons (pv 1) (pa_cons (pe_op (op_catA : OpR _ (binaryOp .Add) (rCatA K)) (pv 2) (pe_tup (pa_cons (pe_tup (pa_cons pe_str (pa_cons (pe_ix (ix_tup : IxR _ (rIxT K)) (pv 1) pe_int (fun _ _ => rfl)) (pa_cons (pe_ix (ix_tup : IxR _ (rIxT K)) (pv 1) pe_int (fun _ _ => rfl)) pa_nil)))) pa_nil))) pa_nil))) (pa_cons (pe_tup (pa_cons (pv 1) (pa_cons (pe_op (op_catA : OpR _ (binaryOp .Add) (rCatA K)) (pv 2) (pe_tup (pa_cons (pe_tup (pa_cons pe_str (pa_cons (pe_ix (ix_tup : IxR _ (rIxT K)) (pv 1) pe_int (fun _ _ => rfl)) (pa_cons pe_str pa_nil)))) pa_nil))) pa_nil))) (pa_cons (pe_tup (pa_cons (pv 1) (pa_cons (pe_op (op_catA : OpR _ (binaryOp .Add) (rCatA K)) (pv 2) (pe_tup (pa_cons (pe_tup (pa_cons pe_str (pa_cons (pe_ix (ix_tup : IxR _ (rIxT K)) (pv 1) pe_int (fun _ _ => rfl)) pa_nil))) pa_nil))) pa_nil))) pa_nil)))) pa_nil)))
    (pss_cons (ps_expr (pe_bm PySem.F.plainAttrs_list PySem.F.slot_list_extend PySem.F.type_list_extend mt_extend (pv 3) (pa_cons (pe_lst (pa_cons (pe_tup (pa_cons (pe_callTy call_tuple_of (by rfl) Z.tuple_ (by decide +kernel) (pa_cons (pe_lc (own := [("_law_at", 4)]) (g := (gName 4)) (tt := tYes) (by rfl) scWBadWebs.nd (pi_range1 (by rfl) Z.range_ (pa_cons pe_int pa_nil)) (blkOk_by (own := [("_law_at", 4)]) (N := nWBadWebs) (sc := defScope sWBadWebs) (by decide +kernel)) (fun _ _ _ _ _ => (pg_name (i := 4) scWBadWebs.nd rfl (.inl rfl))) (fun _ _ _ _ _ => pts_nil) (fun _ _ _ _ _ => (pe_op op_add_str pe_str (pe_callTy call_str_int (by rfl) Z.str_ (by decide +kernel) (pa_cons (pv 4) pa_nil))))) pa_nil)) (pa_cons (pe_tup pa_nil) pa_nil))) (pa_cons (pe_tup (pa_cons (pe_tup (pa_cons pe_str (pa_cons pe_str pa_nil))) (pa_cons (pe_callTy call_tuple_of (by rfl) Z.tuple_ (by decide +kernel) (pa_cons (pe_lc (own := [("_law_at", 4)]) (g := (gName 4)) (tt := tYes) (by rfl) scWBadWebs.nd (pi_range1 (by rfl) Z.range_ (pa_cons pe_int pa_nil)) (blkOk_by (own := [("_law_at", 4)]) (N := nWBadWebs) (sc := defScope sWBadWebs) (by decide +kernel)) (fun _ _ _ _ _ => (pg_name (i := 4) scWBadWebs.nd rfl (.inl rfl))) (fun _ _ _ _ _ => pts_nil) (fun _ _ _ _ _ => (pe_tup (pa_cons (pe_op op_add_str pe_str (pe_callTy call_str_int (by rfl) Z.str_ (by decide +kernel) (pa_cons (pv 4) pa_nil))) (pa_cons pe_str (pa_cons pe_str pa_nil)))))) pa_nil)) pa_nil))) pa_nil))) pa_nil)))
    (pss_cons (ps_expr (pe_bm PySem.F.plainAttrs_list PySem.F.slot_list_extend PySem.F.type_list_extend mt_extend (pv 3) (pa_cons (pe_lst (pa_cons (pe_tup (pa_cons (pe_op (op_catA : OpR _ (binaryOp .Add) (rCatA K)) (pe_slice (sl_tupA : SlR _ (rSlA K)) (pv 1) po_none (po_some pe_int)) (pe_tup (pa_cons pe_str pa_nil))) (pa_cons (pe_tup pa_nil) pa_nil))) (pa_cons (pe_tup (pa_cons (pe_op (op_catA : OpR _ (binaryOp .Add) (rCatA K)) (pe_slice (sl_tupA : SlR _ (rSlA K)) (pv 1) po_none (po_some pe_int)) (pe_tup (pa_cons pe_str pa_nil))) (pa_cons (pe_tup pa_nil) pa_nil))) (pa_cons (pe_tup (pa_cons (pe_op (op_catA : OpR _ (binaryOp .Add) (rCatA K)) (pe_slice (sl_tupA : SlR _ (rSlA K)) (pv 1) po_none (po_some pe_int)) (pe_tup (pa_cons pe_str pa_nil))) (pa_cons (pe_tup pa_nil) pa_nil))) pa_nil)))) pa_nil)))
    (pss_cons (ps_if (pt_cmpR op_gt (pe_callB (call_len_seq : CallR _ (.builtin "len") (Evl.rLenS K)) (by rfl) Z.len_ PySem.boot_len (pa_cons (pv 1) pa_nil)) pe_int (nomark _))
      (pss_cons (ps_expr (pe_bm PySem.F.plainAttrs_list PySem.F.slot_list_extend PySem.F.type_list_extend mt_extend (pv 3) (pa_cons (pe_lst (pa_cons (pe_tup (pa_cons (pv 1) (pa_cons (pe_op (op_catA : OpR _ (binaryOp .Add) (rCatA K)) (pv 2) (pe_tup (pa_cons (pe_lst (pa_cons pe_str (pa_cons (pe_ix (ix_tup : IxR _ (rIxT K)) (pv 1) pe_int (fun _ _ => rfl)) (pa_cons (pe_ix (ix_tup : IxR _ (rIxT K)) (pv 1) pe_int (fun _ _ => rfl)) pa_nil)))) pa_nil))) pa_nil))) (pa_cons (pe_tup (pa_cons (pv 1) (pa_cons (pe_op (op_catA : OpR _ (binaryOp .Add) (rCatA K)) (pv 2) (pe_tup (pa_cons (pe_tup (pa_cons pe_str (pa_cons (pe_ix (ix_tup : IxR _ (rIxT K)) (pv 1) pe_int (fun _ _ => rfl)) (pa_cons (pe_ix (ix_tup : IxR _ (rIxT K)) (pv 1) pe_int (fun _ _ => rfl)) pa_nil)))) pa_nil))) pa_nil))) pa_nil))) pa_nil)))
      (pss_one (ps_expr (pe_bm PySem.F.plainAttrs_list PySem.F.slot_list_append PySem.F.type_list_append mt_append (pv 3) (pa_cons (pe_tup (pa_cons (pv 1) (pa_cons (pe_op (op_catA : OpR _ (binaryOp .Add) (rCatA K)) (pv 2) (pe_op op_repT (pe_tup (pa_cons (pe_tup (pa_cons pe_str (pa_cons (pe_ix (ix_tup : IxR _ (rIxT K)) (pv 1) pe_int (fun _ _ => rfl)) (pa_cons (pe_ix (ix_tup : IxR _ (rIxT K)) (pv 1) pe_int (fun _ _ => rfl)) pa_nil)))) pa_nil)) pe_int)) pa_nil))) pa_nil))))) pss_nil)
    (pss_one (ps_ret (pv 3))))))))), ?_⟩
  have hPd : Dp K H (.ref ap) (.tuple (pd Pl)) := dp_strs hap.sq
  have hRd : Dp K H (.ref ar) (.tuple (rds R)) := .tup hR (dp_web hrs)
  have hpl : (pd Pl).length = Pl.length := by simp [pd]
  have hrl : (rds R).length = R.length := by simp [rds]
  have hcl : ∀ lo hi, (cutA (pd Pl) lo hi).length ≤ Pl.length := fun lo hi => by
    unfold cutA
    rw [List.length_take, List.length_drop, hpl]
    omega
  have hcl1 := hcl none (some 1)
  have hcl9 := hcl none (some 9)
  refine q_of (s_asg2 (ev_var rfl) hw1 fun H1 e1 => ?_)
  have hPd1 := dp_mono e1 hPd
  have hRd1 := dp_mono e1 hRd
  refine q_asgF (ds := B1 Pl R) (ed_cons ed_non (ed_cons ed_int (ed_cons (ed_tup ed_nil (by simp)) (ed_cons (ed_lst (ed_cons (ed_var rfl hPd1) (ed_cons (ed_var rfl hRd1) ed_nil)) (by simp)) (ed_cons (ed_tup (ed_cons (ed_var rfl hPd1) ed_nil) (by simp))
    (ed_cons (ed_tup (ed_cons (ed_listof (ed_var rfl hPd1)) (ed_cons (ed_var rfl hRd1) ed_nil)) (by simp)) (ed_cons (ed_tup (ed_cons (ed_var rfl hPd1) (ed_cons (ed_listof (ed_var rfl hRd1)) ed_nil)) (by simp))
    (ed_cons (ed_tup (ed_cons (ed_cat (ed_var rfl hPd1) (ed_sl (ed_var rfl hPd1) eo_none (eo_some ev_c)) (by omega)) (ed_cons (ed_var rfl hRd1) ed_nil)) (by simp)) (ed_cons (ed_tup (ed_cons (ed_tup ed_nil (by simp)) (ed_cons (ed_tup ed_nil (by simp)) ed_nil)) (by simp))
    (ed_cons (ed_tup (ed_cons (ed_cat (ed_var rfl hPd1) (ed_tup (ed_cons ed_str ed_nil) (by simp)) (by simp; omega)) (ed_cons (ed_var rfl hRd1) ed_nil)) (by simp)) ed_nil)))))))))) (by simp [B1]) fun fb v1 H2 hfb e2 h2 hd2 => ?_
  have hfbH : H fb = none := fresh_back e1 hfb
  have e02 : Ex H (wo fb H2) := e1.trans e2
  obtain ⟨p0, t, rfl⟩ : ∃ p0 t, Pl = p0 :: t := by
    cases Pl with
    | nil => exact absurd rfl h0
    | cons p0 t => exact ⟨p0, t, rfl⟩
  have h00 : (pd (p0 :: t))[0]? = some (.str p0) := rfl
  have hl1 := dpa_len hd2
  -- extend
  have hPd2 := dp_mono e02 hPd
  have hRd2 := dp_mono e02 hRd
  have hF2 : ∃ o, H2 fb = some o := ⟨_, h2⟩
  refine q_of (s_extF (ds := B2 (p0 :: t) R p0) h2 hd2 (ev_var rfl) (by rw [hl1]; simp [B1]) (df_cons (df_tup hF2 (df_cons (df_var rfl hPd2) (df_cons (df_cat hF2 (df_var rfl hRd2) (df_tup hF2 (df_cons (df_tup hF2 (df_cons df_str (df_cons (df_ix (i := 0) (df_var rfl hPd2) ev_c h00) (df_cons (df_ix (i := 0) (df_var rfl hPd2) ev_c h00) df_nil))) (by simp)) df_nil) (by simp)) (by simp; omega)) df_nil)) (by simp))
    (df_cons (df_tup hF2 (df_cons (df_var rfl hPd2) (df_cons (df_cat hF2 (df_var rfl hRd2) (df_tup hF2 (df_cons (df_tup hF2 (df_cons df_str (df_cons (df_ix (i := 0) (df_var rfl hPd2) ev_c h00) (df_cons df_str df_nil))) (by simp)) df_nil) (by simp)) (by simp; omega)) df_nil)) (by simp))
    (df_cons (df_tup hF2 (df_cons (df_var rfl hPd2) (df_cons (df_cat hF2 (df_var rfl hRd2) (df_tup hF2 (df_cons (df_tup hF2 (df_cons df_str (df_cons (df_ix (i := 0) (df_var rfl hPd2) ev_c h00) df_nil)) (by simp)) df_nil) (by simp)) (by simp; omega)) df_nil)) (by simp)) df_nil))) (by simp [B2]) fun H3 v3 e3 h3 hd3 => ?_)
  have e03 : Ex H (wo fb H3) := e02.trans e3
  have hl3 := dpa_len hd3
  have hF3 : ∃ o, H3 fb = some o := ⟨_, h3⟩
  refine q_of (s_extF (ds := B3) h3 hd3 (ev_var rfl) (by rw [hl3]; simp [B1, B2]) (df_cons (df_tup hF3 (df_cons (df_tupofL hF3 (el_lcR1 (n := 11) (fun _ => true) (fun i => .str (pNum i)) (ea_cons ev_c ea_nil) (by decide) (fun _ => rfl) (fun i H4 e4 hi => et_yes) (fun i H4 e4 hi _ => ?_)) (fun H4 => ?_)) (df_cons (df_tup hF3 df_nil (by simp)) df_nil)) (by simp))
    (df_cons (df_tup hF3 (df_cons (df_tup hF3 (df_cons df_str (df_cons df_str df_nil)) (by simp)) (df_cons (df_tupof hF3 (lcR_F (n := 15) (g := fun i => [rNum i, "a", "b"]) hF3 (by decide) (ea_cons ev_c ea_nil) (fun _ => rfl) fun i H4 hi e4 => ?_)) df_nil)) (by simp)) df_nil)) (by simp [B3]) fun H4 v4 e4 h4 hd4 => ?_)
  · have := ts_len i (by omega)
    exact ev_op ev_c (ev_str (by omega) (ev_var rfl)) (rv_addS (by rw [one_p]; omega))
  · show DpAll K H4 (((List.range 11).filter fun _ => true).map fun i => V.str (pNum i)) _
    rw [List.filter_eq_self.mpr fun _ _ => rfl]
    exact dpa_map _ _
  · have := ts_len i (by omega)
    exact df_tup ⟨_, e4 _ _ h3⟩ (df_cons (df_of (ev_op ev_c (ev_str (by omega) (ev_var rfl)) (rv_addS (by rw [one_r]; omega))) (.str (rNum i))) (df_cons df_str (df_cons df_str df_nil))) (by simp)
  have e04 : Ex H (wo fb H4) := e03.trans e4
  have hl4 := dpa_len hd4
  have hF4 : ∃ o, H4 fb = some o := ⟨_, h4⟩
  have hPd4 := dp_mono e04 hPd
  refine q_of (s_extF (ds := B4 (p0 :: t)) h4 hd4 (ev_var rfl) (by rw [hl4]; simp [B1, B2, B3]) (df_cons (df_tup hF4 (df_cons (df_cat hF4 (df_sl hF4 (df_var rfl hPd4) eo_none (eo_some ev_c)) (df_tup hF4 (df_cons df_str df_nil) (by simp)) (by simp; omega)) (df_cons (df_tup hF4 df_nil (by simp)) df_nil)) (by simp))
    (df_cons (df_tup hF4 (df_cons (df_cat hF4 (df_sl hF4 (df_var rfl hPd4) eo_none (eo_some ev_c)) (df_tup hF4 (df_cons df_str df_nil) (by simp)) (by simp; omega)) (df_cons (df_tup hF4 df_nil (by simp)) df_nil)) (by simp))
    (df_cons (df_tup hF4 (df_cons (df_cat hF4 (df_sl hF4 (df_var rfl hPd4) eo_none (eo_some ev_c)) (df_tup hF4 (df_cons df_str df_nil) (by simp)) (by simp; omega)) (df_cons (df_tup hF4 df_nil (by simp)) df_nil)) (by simp)) df_nil))) (by simp [B4]) fun H5 v5 e5 h5 hd5 => ?_)
  have e05 : Ex H (wo fb H5) := e04.trans e5
  have hl5 := dpa_len hd5
  have hlast : ∀ (H6 : Hp) (v6 : List V), Ex H (wo fb H6) → H6 fb = some (.lst v6) → DpAll K (wo fb H6) v6 (badWebs (p0 :: t) R) → Q (.ref fb) H6 := fun H6 v6 e h6 hd6 => q fb H6 v6 hfbH (e.trans wo_le) h6 (dpa_mono wo_le hd6)
  refine q_when (et_test (ev_op (ev_is (ev_lenT (ev_var rfl) (ex_t (e05.trans wo_le) hap.sq)) (by rw [List.length_map])) ev_c rv_I0)) (fun hb H6 e6 => ?_) (fun hb H6 e6 => ?_)
  · obtain ⟨p1, t1, rfl⟩ : ∃ p1 t1, t = p1 :: t1 := by
      cases t with
      | nil => simp at hb
      | cons p1 t1 => exact ⟨p1, t1, rfl⟩
    have h01 : (pd (p0 :: p1 :: t1))[1]? = some (.str p1) := rfl
    have e06 : Ex H (wo fb H6) := e05.trans (wo_ex e6)
    have h6 := e6 _ _ h5
    have hd6 := dpa_mono (wo_ex e6) hd5
    have hF6 : ∃ o, H6 fb = some o := ⟨_, h6⟩
    have hPd6 := dp_mono e06 hPd
    have hRd6 := dp_mono e06 hRd
    refine q_of (s_extF (ds := B5 (p0 :: p1 :: t1) R p0 p1) h6 hd6 (ev_var rfl) (by rw [hl5]; simp [B1, B2, B3, B4]) (df_cons (df_tup hF6 (df_cons (df_var rfl hPd6) (df_cons (df_cat hF6 (df_var rfl hRd6) (df_tup hF6 (df_cons (df_lst hF6 (df_cons df_str (df_cons (df_ix (i := 0) (df_var rfl hPd6) ev_c h00) (df_cons (df_ix (i := 1) (df_var rfl hPd6) ev_c h01) df_nil))) (by simp)) df_nil) (by simp)) (by simp; omega)) df_nil)) (by simp))
      (df_cons (df_tup hF6 (df_cons (df_var rfl hPd6) (df_cons (df_cat hF6 (df_var rfl hRd6) (df_tup hF6 (df_cons (df_tup hF6 (df_cons df_str (df_cons (df_ix (i := 0) (df_var rfl hPd6) ev_c h00) (df_cons (df_ix (i := 1) (df_var rfl hPd6) ev_c h01) df_nil))) (by simp)) df_nil) (by simp)) (by simp; omega)) df_nil)) (by simp)) df_nil)) (by simp [B5]) fun H7 v7 e7 h7 hd7 => ?_)
    have e07 : Ex H (wo fb H7) := e06.trans e7
    have hl7 := dpa_len hd7
    have hF7 : ∃ o, H7 fb = some o := ⟨_, h7⟩
    have hPd7 := dp_mono e07 hPd
    have hRd7 := dp_mono e07 hRd
    refine s_appF (d := B6 (p0 :: p1 :: t1) R p0 p1) h7 hd7 (ev_var rfl) (by rw [hl7]; simp [B1, B2, B3, B4, B5]) (df_tup hF7 (df_cons (df_var rfl hPd7) (df_cons (df_cat hF7 (df_var rfl hRd7) (df_two hF7 (df_tup hF7 (df_cons (df_tup hF7 (df_cons df_str (df_cons (df_ix (i := 0) (df_var rfl hPd7) ev_c h00) (df_cons (df_ix (i := 1) (df_var rfl hPd7) ev_c h01) df_nil))) (by simp)) df_nil) (by simp)) (by simp) (by simp)) (by simp; omega)) df_nil)) (by simp)) fun H8 v8 e8 h8 hd8 => ?_
    refine s_ret (ev_var rfl) fun H9 e9 => ?_
    exact hlast H9 v8 ((e07.trans e8).trans (wo_ex e9)) (e9 _ _ h8) (dpa_mono (wo_ex e9) hd8)
  · have : t = [] := by
      cases t with
      | nil => rfl
      | cons p1 t1 =>
        have := of_decide_eq_false hb
        simp at this
        omega
    subst this
    refine s_ret (ev_var rfl) fun H7 e7 => ?_
    exact hlast H7 v5 (e05.trans (wo_ex (e6.trans e7))) ((e6.trans e7) _ _ h5) (dpa_mono (wo_ex (e6.trans e7)) hd5)
end
end RW
end

section
set_option maxRecDepth 100000
set_option maxHeartbeats 4000000
/-! plain: which webs are good, which are bad -/
namespace RW
open PySem PySem.Spec PyProof.Rows L2 Evl

/-- the generated webs, in plain words -/
structure Plain (P : List Str) (R : List RdS) : Prop where
  ne0 : P ≠ []
  lenP : P.length ≤ 10
  lenR : R.length ≤ 14
  ndP : P.Nodup
  ndR : (R.map (·.1)).Nodup
  nmP : ∀ s ∈ P, s ∈ NMS
  nmR : ∀ r ∈ R, r.1 ∈ NMS
  ends : ∀ r ∈ R, r.2.1 ∈ P ∧ r.2.2 ∈ P
  apart : ∀ r ∈ R, r.2.1 ≠ r.2.2
theorem nm_ok : ∀ s ∈ NMS, nmS s = true := by decide +kernel
theorem nm_len : ∀ s ∈ NMS, s.length ≤ 8 := by decide +kernel
theorem nm_lay : ∀ s ∈ NMS, Ok s := by
  have : (NMS.all fun s => PyData.canLay0 (.str s)) = true := by decide +kernel
  exact fun s hs => List.all_eq_true.mp this s hs
theorem strsOf_append : ∀ a b : List PyData, strsOf (a ++ b) = strsOf a ++ strsOf b
  | [], _ => rfl
  | d :: t, b => by
    have ih := strsOf_append t b
    cases d with
    | str s =>
      show s :: strsOf (t ++ b) = s :: (strsOf t ++ strsOf b)
      rw [ih]
    | _ => exact ih
theorem strs_pd (P : List Str) : strsOf (pd P) = P := strsOf_map P
theorem names_pd {P : List Str} (h : ∀ s ∈ P, s ∈ NMS) (hN : P.Nodup) : namesD (pd P) = true := by
  unfold namesD
  rw [strs_pd, decide_eq_true hN, Bool.and_true]
  refine List.all_eq_true.mpr fun d hd => ?_
  obtain ⟨s, hs, rfl⟩ := List.mem_map.mp hd
  exact nm_ok s (h s hs)
theorem names_bad {ds : List PyData} (h : ∃ d ∈ ds, nmD d = false) : namesD ds = false := by
  obtain ⟨d, hd, hn⟩ := h
  unfold namesD
  have : ds.all nmD = false := by
    refine Bool.eq_false_iff.mpr fun z => ?_
    have := List.all_eq_true.mp z d hd
    rw [hn] at this
    cases this
  rw [this, Bool.false_and]
theorem names_dup {ds : List PyData} (h : ¬ (strsOf ds).Nodup) : namesD ds = false := by
  unfold namesD
  rw [decide_eq_false h, Bool.and_false]
theorem web_eq (ps rs : List PyData) : webD (.tuple [.tuple ps, .tuple rs]) = (((decide ((1 : Int) ≤ ps.length ∧ (ps.length : Int) ≤ 10) && namesD ps) && (decide ((0 : Int) ≤ rs.length ∧ (rs.length : Int) ≤ 14) && rs.all (roadD (strsOf ps)))) && namesD (rs.map headD)) := rfl
theorem wf_names {ps rs : List PyData} (h : namesD ps = false) : webD (.tuple [.tuple ps, .tuple rs]) = false := by
  rw [web_eq, h]
  simp
theorem wf_heads {ps rs : List PyData} (h : namesD (rs.map headD) = false) : webD (.tuple [.tuple ps, .tuple rs]) = false := by
  rw [web_eq, h]
  simp
theorem wf_len {ps rs : List PyData} (h : ¬ (1 ≤ ps.length ∧ ps.length ≤ 10)) : webD (.tuple [.tuple ps, .tuple rs]) = false := by
  rw [web_eq, decide_eq_false (show ¬ ((1 : Int) ≤ ps.length ∧ (ps.length : Int) ≤ 10) from fun z => h (by omega))]
  simp
theorem wf_lenR {ps rs : List PyData} (h : 14 < rs.length) : webD (.tuple [.tuple ps, .tuple rs]) = false := by
  rw [web_eq, decide_eq_false (show ¬ ((0 : Int) ≤ rs.length ∧ (rs.length : Int) ≤ 14) from fun z => by omega)]
  simp
theorem wf_road {ps rs : List PyData} (h : ∃ d ∈ rs, roadD (strsOf ps) d = false) : webD (.tuple [.tuple ps, .tuple rs]) = false := by
  obtain ⟨d, hd, hn⟩ := h
  have : rs.all (roadD (strsOf ps)) = false := by
    refine Bool.eq_false_iff.mpr fun z => ?_
    have := List.all_eq_true.mp z d hd
    rw [hn] at this
    cases this
  rw [web_eq, this]
  simp
theorem heads_rds (R : List RdS) : (rds R).map headD = pd (R.map (·.1)) := by
  unfold rds pd
  rw [List.map_map, List.map_map]
  rfl
theorem two_nd {x y : Str} (h : x ≠ y) : ([x, y] : List Str).Nodup := by
  simpa using h
theorem web_good {P : List Str} {R : List RdS} (h : Plain P R) : webD (.tuple [.tuple (pd P), .tuple (rds R)]) = true := by
  have hl : (pd P).length = P.length := by simp [pd]
  have hr : (rds R).length = R.length := by simp [rds]
  have h1 : 1 ≤ P.length := by
    cases hP : P with
    | nil => exact absurd hP h.ne0
    | cons _ _ => simp
  have h2 := h.lenP
  have h3 := h.lenR
  rw [web_eq, names_pd h.nmP h.ndP, heads_rds, names_pd (fun s hs => by
    obtain ⟨r, hr, rfl⟩ := List.mem_map.mp hs
    exact h.nmR r hr) h.ndR, strs_pd, decide_eq_true (show (1 : Int) ≤ (pd P).length ∧ ((pd P).length : Int) ≤ 10 by omega), decide_eq_true (show (0 : Int) ≤ (rds R).length ∧ ((rds R).length : Int) ≤ 14 by omega)]
  have : (rds R).all (roadD P) = true := by
    refine List.all_eq_true.mpr fun d hd => ?_
    obtain ⟨r, hr, rfl⟩ := List.mem_map.mp hd
    obtain ⟨e1, e2⟩ := h.ends r hr
    show (nmS r.1 && (([.str r.2.1, .str r.2.2] : List PyData).all (strIn P) && decide ([r.2.1, r.2.2] : List Str).Nodup)) = true
    rw [nm_ok _ (h.nmR r hr), decide_eq_true (two_nd (h.apart r hr))]
    simp [strIn, e1, e2]
  rw [this]
  rfl
theorem not_in {P : List Str} (h : ∀ s ∈ P, s ∈ NMS) {x : Str} (hx : x ∉ NMS) : x ∉ P := fun z => hx (h x z)
theorem bad_webs {P : List Str} {R : List RdS} (h : Plain P R) : ∀ d ∈ badWebs P R, webD d = false := by
  have hB1 : ∀ d ∈ B1 P R, webD d = false := by
    intro d hd
    simp only [B1, List.mem_cons, List.not_mem_nil, or_false] at hd
    rcases hd with rfl | rfl | rfl | rfl | rfl | rfl | rfl | rfl | rfl | rfl
    · rfl
    · rfl
    · rfl
    · rfl
    · rfl
    · rfl
    · rfl
    · refine wf_names (names_dup ?_)
      rw [show cutA (pd P) none (some 1) = (pd P).take 1 from cut_pre (pd P) 1, strsOf_append, strs_pd]
      obtain ⟨p0, t, rfl⟩ : ∃ p0 t, P = p0 :: t := by
        cases hP : P with
        | nil => exact absurd hP h.ne0
        | cons p0 t => exact ⟨p0, t, rfl⟩
      show ¬ ((p0 :: t) ++ [p0]).Nodup
      intro z
      exact (List.nodup_append.mp z).2.2 p0 List.mem_cons_self p0 List.mem_cons_self rfl
    · exact wf_len (by simp)
    · exact wf_names (names_bad ⟨.str "A", by simp, by decide +kernel⟩)
  have hB2 : ∀ p0, ∀ d ∈ B2 P R p0, webD d = false := by
    intro p0 d hd
    simp only [B2, List.mem_cons, List.not_mem_nil, or_false] at hd
    rcases hd with rfl | rfl | rfl
    · refine wf_road ⟨.tuple [.str "way9", .str p0, .str p0], by simp, ?_⟩
      show (nmS "way9" && (_ && decide ([p0, p0] : List Str).Nodup)) = false
      rw [decide_eq_false (show ¬ ([p0, p0] : List Str).Nodup by simp)]
      simp
    · refine wf_road ⟨.tuple [.str "way9", .str p0, .str "nowhere"], by simp, ?_⟩
      rw [strs_pd]
      show (nmS "way9" && ((strIn P (.str p0) && (decide (("nowhere" : Str) ∈ P) && true)) && _)) = false
      rw [decide_eq_false (not_in h.nmP (show ("nowhere" : Str) ∉ NMS by decide +kernel))]
      simp
    · exact wf_road ⟨.tuple [.str "way9", .str p0], by simp, rfl⟩
  have hB3 : ∀ d ∈ B3, webD d = false := by
    intro d hd
    simp only [B3, List.mem_cons, List.not_mem_nil, or_false] at hd
    rcases hd with rfl | rfl
    · exact wf_len (by simp)
    · exact wf_lenR (by simp)
  have hB4 : ∀ d ∈ B4 P, webD d = false := by
    intro d hd
    simp only [B4, List.mem_cons, List.not_mem_nil, or_false] at hd
    rcases hd with rfl | rfl | rfl
    · exact wf_names (names_bad ⟨.str "ninesigns", by simp, by decide +kernel⟩)
    · exact wf_names (names_bad ⟨.str "9a", by simp, by decide +kernel⟩)
    · exact wf_names (names_bad ⟨.str "a_b", by simp, by decide +kernel⟩)
  have hB5 : ∀ p0 p1, ∀ d ∈ B5 P R p0 p1, webD d = false := by
    intro p0 p1 d hd
    simp only [B5, List.mem_cons, List.not_mem_nil, or_false] at hd
    rcases hd with rfl | rfl
    · exact wf_road ⟨.list [.str "way9", .str p0, .str p1], by simp, rfl⟩
    · refine wf_road ⟨.tuple [.str "way 9", .str p0, .str p1], by simp, ?_⟩
      show (nmS "way 9" && areOfD [.str p0, .str p1] (strsOf (pd P))) = false
      rw [show nmS "way 9" = false by decide +kernel, Bool.false_and]
  have hB6 : ∀ p0 p1, webD (B6 P R p0 p1) = false := by
    intro p0 p1
    refine wf_heads (names_dup ?_)
    rw [List.map_append, strsOf_append]
    intro z
    have z2 : ([("way9" : Str), "way9"] : List Str).Nodup := (List.nodup_append.mp z).2.1
    exact absurd z2 (by decide +kernel)
  intro d hd
  unfold badWebs at hd
  split at hd
  · cases hd
  · rename_i p0
    simp only [List.mem_append] at hd
    rcases hd with ((hd | hd) | hd) | hd
    · exact hB1 d hd
    · exact hB2 p0 d hd
    · exact hB3 d hd
    · exact hB4 d hd
  · rename_i p0 p1 t
    simp only [List.mem_append, List.mem_singleton] at hd
    rcases hd with ((((hd | hd) | hd) | hd) | hd) | hd
    · exact hB1 d hd
    · exact hB2 p0 d hd
    · exact hB3 d hd
    · exact hB4 d hd
    · exact hB5 p0 p1 d hd
    · rw [hd]
      exact hB6 p0 p1
end RW
end

section
set_option maxRecDepth 100000
set_option maxHeartbeats 4000000
/-! plain: all is short; which rotas, indices are good, which are bad -/
namespace RW
open PySem PySem.Spec PyProof.Rows L2 Evl

theorem sm_str {s : Str} (h : s.length < 1000) : ∀ n, Sm n (.str s)
  | 0 => Nat.lt_trans h (by decide)
  | _ + 1 => ⟨Nat.lt_trans h (by decide), fun _ z => by cases z⟩
theorem sm_tup {ds : List PyData} {n : Nat} (hl : ds.length < 4000) (h : ∀ e ∈ ds, Sm n e) : Sm (n + 1) (.tuple ds) := ⟨trivial, fun _ z => by
  cases z
  exact ⟨hl, h⟩⟩
theorem sm_lst {ds : List PyData} : ∀ n, Sm n (.list ds)
  | 0 => trivial
  | _ + 1 => ⟨trivial, fun _ z => by cases z⟩
theorem sm_non : ∀ n, Sm n .none
  | 0 => trivial
  | _ + 1 => ⟨trivial, fun _ z => by cases z⟩
theorem sm_int {i : Int} : ∀ n, Sm n (.int i)
  | 0 => trivial
  | _ + 1 => ⟨trivial, fun _ z => by cases z⟩
theorem sm_all {l : List Str} {n : Nat} (h : ∀ s ∈ l, s.length < 1000) : ∀ e ∈ pd l, Sm n e := fun e he => by
  obtain ⟨s, hs, rfl⟩ := List.mem_map.mp he
  exact sm_str (h s hs) n
theorem cut_mem {α : Type} {xs : List α} {lo hi : Option Int} {x : α} (h : x ∈ cutA xs lo hi) : x ∈ xs := List.mem_of_mem_drop (List.mem_of_mem_take h)
theorem cut_len {α : Type} (xs : List α) (lo hi : Option Int) : (cutA xs lo hi).length ≤ xs.length := by
  unfold cutA
  rw [List.length_take, List.length_drop]
  omega
theorem sm_app {a b : List PyData} {n : Nat} (h1 : ∀ e ∈ a, Sm n e) (h2 : ∀ e ∈ b, Sm n e) : ∀ e ∈ a ++ b, Sm n e := fun e he => by
  rcases List.mem_append.mp he with z | z
  · exact h1 e z
  · exact h2 e z
theorem sm_cons {d : PyData} {b : List PyData} {n : Nat} (h1 : Sm n d) (h2 : ∀ e ∈ b, Sm n e) : ∀ e ∈ d :: b, Sm n e := fun e he => by
  rcases List.mem_cons.mp he with z | z
  · rw [z]; exact h1
  · exact h2 e z
theorem sm_none {n : Nat} : ∀ e ∈ ([] : List PyData), Sm n e := fun e he => by cases he
theorem short_nms {s : Str} (h : s ∈ NMS) : s.length < 1000 := Nat.lt_of_le_of_lt (nm_len s h) (by decide)
section
variable {P : List Str} {R : List RdS}
theorem sm_pd (h : Plain P R) {n : Nat} : ∀ e ∈ pd P, Sm n e := sm_all fun s hs => short_nms (h.nmP s hs)
theorem sm_rds (h : Plain P R) {n : Nat} : ∀ e ∈ rds R, Sm (n + 1) e := fun e he => by
  obtain ⟨r, hr, rfl⟩ := List.mem_map.mp he
  obtain ⟨e1, e2⟩ := h.ends r hr
  exact sm_tup (by simp) (sm_cons (sm_str (short_nms (h.nmR r hr)) n) (sm_cons (sm_str (short_nms (h.nmP _ e1)) n) (sm_cons (sm_str (short_nms (h.nmP _ e2)) n) sm_none)))
theorem sm_web (h : Plain P R) : Sm 3 (.tuple [.tuple (pd P), .tuple (rds R)]) := by
  have := h.lenP
  have := h.lenR
  exact sm_tup (by simp) (sm_cons (sm_tup (by simp [pd]; omega) (sm_pd h)) (sm_cons (sm_tup (by simp [rds]; omega) (sm_rds h)) sm_none))
theorem sm_bad (h : Plain P R) : ∀ d ∈ badWebs P R, Sm 3 d := by
  have hl := h.lenP
  have hr := h.lenR
  have hpl : (pd P).length = P.length := by simp [pd]
  have hrl : (rds R).length = R.length := by simp [rds]
  have hc1 := cut_len (pd P) none (some 1)
  have hc9 := cut_len (pd P) none (some 9)
  have tP : ∀ n, Sm (n + 1) (.tuple (pd P)) := fun n => sm_tup (by omega) (sm_pd h)
  have tR : ∀ n, Sm (n + 2) (.tuple (rds R)) := fun n => sm_tup (by omega) (sm_rds h)
  have t2 : ∀ {x y : PyData}, Sm 2 x → Sm 2 y → Sm 3 (.tuple [x, y]) := fun h1 h2 => sm_tup (by simp) (sm_cons h1 (sm_cons h2 sm_none))
  have tRx : ∀ {x : PyData}, Sm 1 x → Sm 2 (.tuple (rds R ++ [x])) := fun h1 => sm_tup (by simp; omega) (sm_app (sm_rds h) (sm_cons h1 sm_none))
  have t3 : ∀ {a b c : Str}, a.length < 1000 → b.length < 1000 → c.length < 1000 → Sm 1 (.tuple [.str a, .str b, .str c]) := fun h1 h2 h3 => sm_tup (by simp) (sm_cons (sm_str h1 0) (sm_cons (sm_str h2 0) (sm_cons (sm_str h3 0) sm_none)))
  have lw : (("way9" : Str)).length < 1000 := by decide +kernel
  have lw2 : (("way 9" : Str)).length < 1000 := by decide +kernel
  have ln : (("nowhere" : Str)).length < 1000 := by decide +kernel
  have hB1 : ∀ d ∈ B1 P R, Sm 3 d := by
    intro d hd
    simp only [B1, List.mem_cons, List.not_mem_nil, or_false] at hd
    rcases hd with rfl | rfl | rfl | rfl | rfl | rfl | rfl | rfl | rfl | rfl
    · exact sm_non 3
    · exact sm_int 3
    · exact sm_tup (by simp) sm_none
    · exact sm_lst 3
    · exact sm_tup (by simp) (sm_cons (tP 1) sm_none)
    · exact t2 (sm_lst 2) (tR 0)
    · exact t2 (tP 1) (sm_lst 2)
    · exact t2 (sm_tup (by simp; omega) (sm_app (sm_pd h) fun e he => sm_pd h e (cut_mem he))) (tR 0)
    · exact t2 (sm_tup (by simp) sm_none) (sm_tup (by simp) sm_none)
    · exact t2 (sm_tup (by simp; omega) (sm_app (sm_pd h) (sm_cons (sm_str (by decide +kernel) 1) sm_none))) (tR 0)
  have hB2 : ∀ p0, p0.length < 1000 → ∀ d ∈ B2 P R p0, Sm 3 d := by
    intro p0 h0 d hd
    simp only [B2, List.mem_cons, List.not_mem_nil, or_false] at hd
    rcases hd with rfl | rfl | rfl
    · exact t2 (tP 1) (tRx (t3 lw h0 h0))
    · exact t2 (tP 1) (tRx (t3 lw h0 ln))
    · exact t2 (tP 1) (tRx (sm_tup (by simp) (sm_cons (sm_str lw 0) (sm_cons (sm_str h0 0) sm_none))))
  have hB3 : ∀ d ∈ B3, Sm 3 d := by
    intro d hd
    simp only [B3, List.mem_cons, List.not_mem_nil, or_false] at hd
    rcases hd with rfl | rfl
    · refine t2 (sm_tup (by simp) fun e he => ?_) (sm_tup (by simp) sm_none)
      obtain ⟨i, hi, rfl⟩ := List.mem_map.mp he
      exact sm_str (Nat.lt_trans (pNum_len i (List.mem_range.mp hi)) (by decide)) 1
    · refine t2 (sm_tup (by simp) (sm_cons (sm_str (by decide +kernel) 1) (sm_cons (sm_str (by decide +kernel) 1) sm_none))) (sm_tup (by simp) fun e he => ?_)
      obtain ⟨i, hi, rfl⟩ := List.mem_map.mp he
      exact t3 (Nat.lt_trans (rNum_len i (List.mem_range.mp hi)) (by decide)) (by decide +kernel) (by decide +kernel)
  have hB4 : ∀ d ∈ B4 P, Sm 3 d := by
    have one : ∀ x : Str, x.length < 1000 → Sm 3 (.tuple [.tuple (cutA (pd P) none (some 9) ++ [.str x]), .tuple []]) := fun x hx =>
      t2 (sm_tup (by simp; omega) (sm_app (fun e he => sm_pd h e (cut_mem he)) (sm_cons (sm_str hx 1) sm_none))) (sm_tup (by simp) sm_none)
    intro d hd
    simp only [B4, List.mem_cons, List.not_mem_nil, or_false] at hd
    rcases hd with rfl | rfl | rfl
    · exact one _ (by decide +kernel)
    · exact one _ (by decide +kernel)
    · exact one _ (by decide +kernel)
  have hB5 : ∀ p0 p1, p0.length < 1000 → p1.length < 1000 → ∀ d ∈ B5 P R p0 p1, Sm 3 d := by
    intro p0 p1 h0 h1 d hd
    simp only [B5, List.mem_cons, List.not_mem_nil, or_false] at hd
    rcases hd with rfl | rfl
    · exact t2 (tP 1) (tRx (sm_lst 1))
    · exact t2 (tP 1) (tRx (t3 lw2 h0 h1))
  have hB6 : ∀ p0 p1, p0.length < 1000 → p1.length < 1000 → Sm 3 (B6 P R p0 p1) := by
    intro p0 p1 h0 h1
    exact t2 (tP 1) (sm_tup (by simp; omega) (sm_app (sm_rds h) (sm_app (sm_cons (t3 lw h0 h1) sm_none) (sm_cons (t3 lw h0 h1) sm_none))))
  intro d hd
  unfold badWebs at hd
  split at hd
  · cases hd
  · rename_i p0
    have h0 := short_nms (h.nmP p0 List.mem_cons_self)
    simp only [List.mem_append] at hd
    rcases hd with ((hd | hd) | hd) | hd
    · exact hB1 d hd
    · exact hB2 p0 h0 d hd
    · exact hB3 d hd
    · exact hB4 d hd
  · rename_i p0 p1 t
    have h0 := short_nms (h.nmP p0 List.mem_cons_self)
    have h1 := short_nms (h.nmP p1 (List.mem_cons_of_mem _ List.mem_cons_self))
    simp only [List.mem_append, List.mem_singleton] at hd
    rcases hd with ((((hd | hd) | hd) | hd) | hd) | hd
    · exact hB1 d hd
    · exact hB2 p0 h0 d hd
    · exact hB3 d hd
    · exact hB4 d hd
    · exact hB5 p0 p1 h0 h1 d hd
    · rw [hd]
      exact hB6 p0 p1 h0 h1
end

/-! ### rotas -/
theorem cut_init {α : Type} (xs : List α) : cutA xs none (some (-1)) = xs.take (xs.length - 1) := by
  unfold cutA
  rw [HT.sIx_none]
  show ((xs.drop 0).take ((if (-1 : Int) < 0 then ((-1 : Int) + (xs.length : Int)).toNat else min (-1 : Int).toNat xs.length) - 0)) = _
  rw [if_pos (by decide), List.drop_zero]
  congr 1
  omega
theorem cut_last {α : Type} (xs : List α) : cutA xs (some (-1)) none = xs.drop (xs.length - 1) := by
  unfold cutA
  rw [HT.sIx_none]
  show ((xs.drop (if (-1 : Int) < 0 then ((-1 : Int) + (xs.length : Int)).toNat else min (-1 : Int).toNat xs.length)).take _) = _
  rw [if_pos (by decide)]
  have e : ((-1 : Int) + (xs.length : Int)).toNat = xs.length - 1 := by omega
  rw [e]
  refine List.take_of_length_le ?_
  show _ ≤ xs.length - (if (-1 : Int) < 0 then ((-1 : Int) + (xs.length : Int)).toNat else min (-1 : Int).toNat xs.length)
  rw [if_pos (by decide), e, List.length_drop]
  omega
theorem rota_bad {ns : List Str} {ds : List PyData} (h : ds.length ≠ ns.length) : rotaD ns (.tuple ds) = false := by
  show (decide (ds.length = ns.length) && _) = false
  rw [decide_eq_false h, Bool.false_and]
theorem rota_badE {ns : List Str} {ds : List PyData} (h : ∃ d ∈ ds, strIn ns d = false) : rotaD ns (.tuple ds) = false := by
  obtain ⟨d, hd, hn⟩ := h
  have : ds.all (strIn ns) = false := by
    refine Bool.eq_false_iff.mpr fun z => ?_
    have := List.all_eq_true.mp z d hd
    rw [hn] at this
    cases this
  show (_ && (ds.all (strIn ns) && _)) = false
  rw [this]
  simp
theorem rota_badN {ns : List Str} {ds : List PyData} (h : ¬ (strsOf ds).Nodup) : rotaD ns (.tuple ds) = false := by
  show (_ && (_ && decide (strsOf ds).Nodup)) = false
  rw [decide_eq_false h]
  simp
theorem rota_good {ns ρ : List Str} (h : ρ.Perm ns) (hN : ns.Nodup) : rotaD ns (.tuple (pd ρ)) = true := by
  show (decide ((pd ρ).length = ns.length) && ((pd ρ).all (strIn ns) && decide (strsOf (pd ρ)).Nodup)) = true
  rw [strs_pd, decide_eq_true (show (pd ρ).length = ns.length by rw [← h.length_eq]; simp [pd]), decide_eq_true (h.nodup_iff.mpr hN)]
  have : (pd ρ).all (strIn ns) = true := by
    refine List.all_eq_true.mpr fun d hd => ?_
    obtain ⟨s, hs, rfl⟩ := List.mem_map.mp hd
    exact decide_eq_true (h.mem_iff.mp hs)
  rw [this]
  rfl
def R1 (ρ : List Str) : List PyData := [.none, .int 5, .str "rota", .list (pd ρ), .tuple (pd ρ ++ [.str "way9"]), .tuple (pd ρ ++ [.none]), .tuple [.tuple (pd ρ)]]
def X4 (ρ : List Str) : PyData := if 1 < ρ.length then .tuple (cutA (pd ρ) (some 1) none ++ cutA (pd ρ) (some (-1)) none) else .tuple [.none]
def R2 (ρ : List Str) (last : Str) : List PyData := [.tuple [], .tuple (cutA (pd ρ) none (some (-1))), .tuple (pd ρ ++ cutA (pd ρ) none (some 1)), X4 ρ, .tuple (cutA (pd ρ) none (some (-1)) ++ [.str "way9"]), .tuple (cutA (pd ρ) none (some (-1)) ++ [.int 0]), .tuple (cutA (pd ρ) none (some (-1)) ++ [.list [.str last]])]
def R3 (ρ l : List Str) : List PyData := l.map fun q => .tuple (cutA (pd ρ) none (some (-1)) ++ [.str q])
def badRotas (P ρ : List Str) (last : Str) : List PyData := if ρ = [] then R1 ρ else R1 ρ ++ R2 ρ last ++ R3 ρ ((P.filter fun q => !decide (q ∈ ρ)).take 2)
theorem bad_rotas {P ρ ns : List Str} {last : Str} (h : ρ.Perm ns) (hN : ns.Nodup) (hn : ∀ s ∈ ns, s ∈ NMS) : ∀ d ∈ badRotas P ρ last, rotaD ns d = false := by
  have hl := h.length_eq
  have hpl : (pd ρ).length = ρ.length := by simp [pd]
  have hw : ("way9" : Str) ∉ ns := not_in hn (by decide +kernel)
  have hR1 : ∀ d ∈ R1 ρ, rotaD ns d = false := by
    intro d hd
    simp only [R1, List.mem_cons, List.not_mem_nil, or_false] at hd
    rcases hd with rfl | rfl | rfl | rfl | rfl | rfl | rfl
    · rfl
    · rfl
    · rfl
    · rfl
    · exact rota_bad (by simp; omega)
    · exact rota_bad (by simp; omega)
    · exact rota_badE ⟨.tuple (pd ρ), by simp, rfl⟩
  intro d hd
  unfold badRotas at hd
  split at hd
  · exact hR1 d hd
  · rename_i h0
    have h1 : 0 < ρ.length := List.length_pos_iff.mpr h0
    simp only [List.mem_append] at hd
    rcases hd with (hd | hd) | hd
    · exact hR1 d hd
    · simp only [R2, List.mem_cons, List.not_mem_nil, or_false] at hd
      rcases hd with rfl | rfl | rfl | rfl | rfl | rfl | rfl
      · exact rota_bad (by simp; omega)
      · rw [cut_init]
        exact rota_bad (by rw [List.length_take]; omega)
      · rw [show cutA (pd ρ) none (some 1) = (pd ρ).take 1 from cut_pre (pd ρ) 1]
        exact rota_bad (by rw [List.length_append, List.length_take]; omega)
      · unfold X4
        split
        · rename_i h2
          rw [show cutA (pd ρ) (some 1) none = (pd ρ).drop 1 from cut_suf (pd ρ) 1, cut_last, hpl]
          refine rota_badN ?_
          have e1 : (pd ρ).drop 1 = pd (ρ.drop 1) := (List.map_drop).symm
          have e2 : (pd ρ).drop (ρ.length - 1) = pd (ρ.drop (ρ.length - 1)) := (List.map_drop).symm
          rw [e1, e2, strsOf_append, strs_pd, strs_pd]
          intro z
          have hlast : ρ[ρ.length - 1]'(by omega) ∈ ρ.drop (ρ.length - 1) := by
            rw [List.drop_eq_getElem_cons (by omega)]
            exact List.mem_cons_self
          have hin : ρ[ρ.length - 1]'(by omega) ∈ ρ.drop 1 := by
            refine List.mem_iff_getElem.mpr ⟨ρ.length - 2, by rw [List.length_drop]; omega, ?_⟩
            rw [List.getElem_drop]
            congr 1
            omega
          exact (List.nodup_append.mp z).2.2 _ hin _ hlast rfl
        · exact rota_badE ⟨.none, by simp, rfl⟩
      · exact rota_badE ⟨.str "way9", by simp, decide_eq_false hw⟩
      · exact rota_badE ⟨.int 0, by simp, rfl⟩
      · exact rota_badE ⟨.list [.str last], by simp, rfl⟩
    · obtain ⟨q, hq, rfl⟩ := List.mem_map.mp hd
      have hq2 := (List.mem_filter.mp (List.mem_of_mem_take hq)).2
      refine rota_badE ⟨.str q, by simp, decide_eq_false fun z => ?_⟩
      have : q ∉ ρ := by simpa using hq2
      exact this (h.mem_iff.mpr z)
theorem sm_badRotas {P ρ ns : List Str} {last : Str} (h : ρ.Perm ns) (hl14 : ns.length ≤ 14) (hn : ∀ s ∈ ns, s ∈ NMS) (hP : ∀ s ∈ P, s ∈ NMS) (hlast : last ∈ ρ ∨ ρ = []) : ∀ d ∈ badRotas P ρ last, Sm 1 d := by
  have hl := h.length_eq
  have hpl : (pd ρ).length = ρ.length := by simp [pd]
  have sρ : ∀ e ∈ pd ρ, Sm 0 e := sm_all fun s hs => short_nms (hn s (h.mem_iff.mp hs))
  have sc : ∀ {lo hi}, ∀ e ∈ cutA (pd ρ) lo hi, Sm 0 e := fun e he => sρ e (cut_mem he)
  have lc := fun lo hi => cut_len (pd ρ) lo hi
  have c1 := lc none (some (-1))
  have c2 := lc none (some 1)
  have c3 := lc (some 1) none
  have c4 := lc (some (-1)) none
  have hR1 : ∀ d ∈ R1 ρ, Sm 1 d := by
    intro d hd
    simp only [R1, List.mem_cons, List.not_mem_nil, or_false] at hd
    rcases hd with rfl | rfl | rfl | rfl | rfl | rfl | rfl
    · exact sm_non 1
    · exact sm_int 1
    · exact sm_str (by decide +kernel) 1
    · exact sm_lst 1
    · exact sm_tup (by simp; omega) (sm_app sρ (sm_cons (sm_str (by decide +kernel) 0) sm_none))
    · exact sm_tup (by simp; omega) (sm_app sρ (sm_cons (sm_non 0) sm_none))
    · exact sm_tup (by simp) (sm_cons trivial sm_none)
  intro d hd
  unfold badRotas at hd
  split at hd
  · exact hR1 d hd
  · simp only [List.mem_append] at hd
    rcases hd with (hd | hd) | hd
    · exact hR1 d hd
    · simp only [R2, List.mem_cons, List.not_mem_nil, or_false] at hd
      rcases hd with rfl | rfl | rfl | rfl | rfl | rfl | rfl
      · exact sm_tup (by simp) sm_none
      · exact sm_tup (by omega) sc
      · exact sm_tup (by rw [List.length_append]; omega) (sm_app sρ sc)
      · unfold X4
        split
        · exact sm_tup (by rw [List.length_append]; omega) (sm_app sc sc)
        · exact sm_tup (by simp) (sm_cons (sm_non 0) sm_none)
      · exact sm_tup (by simp; omega) (sm_app sc (sm_cons (sm_str (by decide +kernel) 0) sm_none))
      · exact sm_tup (by simp; omega) (sm_app sc (sm_cons (sm_int 0) sm_none))
      · exact sm_tup (by simp; omega) (sm_app sc (sm_cons (sm_lst 0) sm_none))
    · obtain ⟨q, hq, rfl⟩ := List.mem_map.mp hd
      have hq2 := (List.mem_filter.mp (List.mem_of_mem_take hq)).1
      exact sm_tup (by simp; omega) (sm_app sc (sm_cons (sm_str (short_nms (hP q hq2)) 0) sm_none))
end RW
end

section
set_option maxRecDepth 100000
set_option maxHeartbeats 4000000
/-! the walk of the law's bad rotas -/
namespace RW
open PySem PySem.Spec PyProof.Rows L2 Evl

theorem shapedT_strs {l : List Str} (h : ∀ s ∈ l, Ok s) : SeqAt.shaped (.tuple (l.map PyData.str)) = true := by
  show (PyData.canLayAll0 (l.map PyData.str) && decide (PyData.depthAll (l.map PyData.str) + 1 ≤ 64)) = true
  rw [lay_strs h, depth_strs]
  rfl
section
variable {K : PySem.W.Frag} {σ : L2.St} {H : Hp} {te tl : TE} {tt : TT} {f : Addr}
theorem df_if {t : TT} {ta tb : TE} {d : PyData} {b : Bool} (h : EvT t σ H b) (h1 : b = true → EvF K f ta σ H d) (h2 : b = false → EvF K f tb σ H d) : EvF K f (tIf t ta tb) σ H d := fun H1 e Q q => h H1 e _ fun H2 e2 => by
  cases b with
  | true => exact h1 rfl H2 (e.trans e2) Q fun v H3 e3 hv => q v H3 (e2.trans e3) hv
  | false => exact h2 rfl H2 (e.trans e2) Q fun v H3 e3 hv => q v H3 (e2.trans e3) hv
/-- [a tuple of texts for q in t if ..] -/
theorem lcT_F {a : Addr} {ss : List Str} {j : Nat} {vs : List Nat} {p : Str → Bool} {g : Str → List Str} (hf : ∃ o, H f = some o) (h : Ev tl σ H (.ref a)) (hx : SqT K H a (ss.map V.str)) (hz : ss.length ≤ 1000) (hw : ∀ x, wipe ((wipe σ vs).set j (some x)) vs = wipe σ vs)
    (ht : ∀ (q : Str) H1, q ∈ ss → Ex H H1 → EvT tt ((wipe σ vs).set j (some (.str q))) H1 (p q)) (he : ∀ (q : Str) H1, q ∈ ss → Ex H H1 → EvF K f te ((wipe σ vs).set j (some (.str q))) H1 (.tuple ((g q).map PyData.str))) :
    ∀ H1, Ex H H1 → ∀ Q : VK, (∀ b H2 xs, Ex H1 H2 → H2 b = some (.lst xs) → DpAll K (wo f H2) xs ((ss.filter p).map fun q => .tuple ((g q).map PyData.str)) → b ≠ f → Q (.ref b) H2) → tLc (iTup K tl) (gName j) tt te vs σ H1 Q := fun H1 e Q q =>
  h H1 e _ fun H2 e2 => ⟨a, rfl, ⟨_, ex_t (e.trans e2) hx⟩, fun D hD => by
    have e02 := e.trans e2
    have hDf : D ≠ f := nf (o := .tup []) hf e e2 hD
    refine lc_tup (K := K) (a := a) (xs := ss.map V.str) (Qd := fun H => Q (.ref D) H) (fun i H' => Ex H2 H' ∧ ∃ acc, H' D = some (.lst acc) ∧ acc.length ≤ i ∧ Paired (fun v k => ∃ t, v = .ref t ∧ SqT K (wo f H') t ((g k).map V.str)) acc ((ss.take i).filter p)) ⟨Ex.new hD, [], upd_same, Nat.le_refl _, .nil⟩ (fun i H' _ p => ex_t (e02.trans p.1) hx) (fun i x H' hi p' => ?_) (fun H' p' => ?_)
    · obtain ⟨e3, acc, h1, h2, h3⟩ := p'
      rw [List.getElem?_map] at hi
      cases hq : ss[i]? with
      | none => rw [hq] at hi; cases hi
      | some qq =>
      rw [hq] at hi
      cases hi
      have hm := List.mem_of_getElem? hq
      have hil : i < ss.length := (List.getElem?_eq_some_iff.mp hq).1
      have htk : (ss.take (i + 1)).filter p = (ss.take i).filter p ++ (if p qq = true then [qq] else []) := by
        rw [List.take_add_one, hq, List.filter_append]
        cases hp : p qq <;> simp [hp]
      refine ⟨hw _, ht qq H' hm (e02.trans e3) H' (Ex.refl H') _ fun H3 e4 => ?_⟩
      cases hp : p qq with
      | true =>
        rw [hp, if_pos rfl] at htk
        refine he qq H3 hm (e02.trans (e3.trans e4)) H3 (Ex.refl H3) _ fun v H4 e5 hv => ⟨acc, (e4.trans e5) _ _ h1, sz_lt (by omega), Ex.mut (e3.trans (e4.trans e5)) hD, _, upd_same, by simp; omega, ?_⟩
        obtain ⟨t, rfl, ht⟩ := dp_strsI hv
        have tp : Tp K (wo f H4) (wo f (upd H4 D (.lst (acc ++ [.ref t])))) := by
          rw [wo_updne hDf]
          exact Tp.lst (xs := acc) (by rw [wo_ne hDf]; exact (e4.trans e5) _ _ h1)
        rw [htk]
        exact paired_snoc (paired_mono h3 fun v k ⟨t', q1, q2⟩ => ⟨t', q1, ((Tp.of (wo_ex (e4.trans e5))).trans tp).1 _ _ q2⟩) ⟨t, rfl, tp.1 _ _ ht⟩
      | false =>
        rw [hp] at htk
        refine ⟨e3.trans e4, acc, e4 _ _ h1, by omega, ?_⟩
        rw [htk]
        simpa using paired_mono h3 fun v k ⟨t', q1, q2⟩ => (⟨t', q1, (Tp.of (K := K) (wo_ex e4)).1 _ _ q2⟩ : ∃ t, v = V.ref t ∧ SqT K (wo f H3) t ((g k).map V.str))
    · obtain ⟨e3, acc, h1, h2, h3⟩ := p'
      rw [List.length_map, List.take_length] at h3
      refine q D H' acc (e2.trans e3) h1 ?_ hDf
      have one : ∀ (xs : List V) (l : List Str), Paired (fun v k => ∃ t, v = V.ref t ∧ SqT K (wo f H') t ((g k).map V.str)) xs l → DpAll K (wo f H') xs (l.map fun q => .tuple ((g q).map PyData.str)) := by
        intro xs l hp
        induction hp with
        | nil => exact .nil
        | cons r _ ih =>
          obtain ⟨t, rfl, ht⟩ := r
          exact .cons (.tup ht (dpa_strs _)) ih
      exact one _ _ h3⟩
end
section
variable {P : Program} {w : World} {K : PySem.W.Frag} {mg : Str → Option Value} {base : Heap}
def spBadRotas (K : PySem.W.Frag) : Sp := fun vs H Q _ => ∃ (a b : Addr) (Pl ρ : List Str) (R : List RdS), vs = [.ref a, .ref b] ∧ IsWb K H a Pl R ∧ Pl.length ≤ 10 ∧ SqT K H b (ρ.map V.str) ∧ ρ.length ≤ 14 ∧ (∀ s ∈ ρ, Ok s) ∧
  ∀ p H2 vs last, H p = none → Ex H H2 → H2 p = some (.lst vs) → DpAll K H2 vs (badRotas Pl ρ last) → (last ∈ ρ ∨ ρ = []) → Q (.ref p) H2
theorem c_badrotas (Z : Frees mg) (F : HasD K mg "_law_bad_rotas" sWBadRotas) : Cal P w K mg base CX0 1 "_law_bad_rotas" ["_law_web_here", "_law_rota_here"] (spBadRotas K) := by
  refine cal_of F scWBadRotas (fun vs H Q E ⟨_, _, _, _, _, e, _⟩ => by rw [e]; rfl) (fun _ _ _ _ _ _ us hl => match us, hl with | [_, _], _ => rfl) fun f cdv A outer s H vs Q E hr h => ?_
  obtain ⟨a, b, Pl, ρ, R, rfl, ⟨ap, ar, rs, hw1, hap, hR, hrs⟩, hP10, hb, hρ14, hok, q⟩ := h
  refine ⟨_, (pss_cons (ps_set (i := 2) scWBadRotas.nd rfl (.inl rfl) (pe_lst (pa_cons pe_non (pa_cons pe_int (pa_cons pe_str (pa_cons (pe_callTy (call_list_of : CallR _ (.type "list") (Evl.rListS K)) (by rfl) Z.list_ (by decide +kernel) (pa_cons (pv 1) pa_nil)) (pa_cons (pe_op (op_catA : OpR _ (binaryOp .Add) (rCatA K)) (pv 1) (pe_tup (pa_cons pe_str pa_nil))) (pa_cons (pe_op (op_catA : OpR _ (binaryOp .Add) (rCatA K)) (pv 1) (pe_tup (pa_cons pe_non pa_nil))) (pa_cons (pe_tup (pa_cons (pv 1) pa_nil)) pa_nil)))))))))
    (pss_cons (ps_if (pt_cmpR (op_neD hr.units) (pv 1) (pe_tup pa_nil) (nomark _))
      (pss_cons (ps_expr (pe_bm PySem.F.plainAttrs_list PySem.F.slot_list_extend PySem.F.type_list_extend mt_extend (pv 2) (pa_cons (pe_lst (pa_cons (pe_tup pa_nil) (pa_cons (pe_slice (sl_tupA : SlR _ (rSlA K)) (pv 1) po_none (po_some (pe_un un_neg pe_int))) (pa_cons (pe_op (op_catA : OpR _ (binaryOp .Add) (rCatA K)) (pv 1) (pe_slice (sl_tupA : SlR _ (rSlA K)) (pv 1) po_none (po_some pe_int))) (pa_cons (pe_ifExp (pt_cmpR op_gt (pe_callB (call_len_seq : CallR _ (.builtin "len") (Evl.rLenS K)) (by rfl) Z.len_ PySem.boot_len (pa_cons (pv 1) pa_nil)) pe_int (nomark _)) (pe_op (op_catA : OpR _ (binaryOp .Add) (rCatA K)) (pe_slice (sl_tupA : SlR _ (rSlA K)) (pv 1) (po_some pe_int) po_none) (pe_slice (sl_tupA : SlR _ (rSlA K)) (pv 1) (po_some (pe_un un_neg pe_int)) po_none)) (pe_tup (pa_cons pe_non pa_nil))) (pa_cons (pe_op (op_catA : OpR _ (binaryOp .Add) (rCatA K)) (pe_slice (sl_tupA : SlR _ (rSlA K)) (pv 1) po_none (po_some (pe_un un_neg pe_int))) (pe_tup (pa_cons pe_str pa_nil))) (pa_cons (pe_op (op_catA : OpR _ (binaryOp .Add) (rCatA K)) (pe_slice (sl_tupA : SlR _ (rSlA K)) (pv 1) po_none (po_some (pe_un un_neg pe_int))) (pe_tup (pa_cons pe_int pa_nil))) (pa_cons (pe_op (op_catA : OpR _ (binaryOp .Add) (rCatA K)) (pe_slice (sl_tupA : SlR _ (rSlA K)) (pv 1) po_none (po_some (pe_un un_neg pe_int))) (pe_tup (pa_cons (pe_lst (pa_cons (pe_ix (ix_tup : IxR _ (rIxT K)) (pv 1) (pe_un un_neg pe_int) (fun _ _ => rfl)) pa_nil)) pa_nil))) pa_nil)))))))) pa_nil)))
      (pss_one (ps_expr (pe_bm PySem.F.plainAttrs_list PySem.F.slot_list_extend PySem.F.type_list_extend mt_extend (pv 2) (pa_cons (pe_slice (sl_list : SlR _ (rSlL K)) (pe_lc (own := [("_law_place", 3)]) (g := (gName 3)) (by rfl) scWBadRotas.nd (pi_tup (pe_ix (ix_tup : IxR _ (rIxT K)) (pv 0) pe_int (fun _ _ => rfl))) (blkOk_by (own := [("_law_place", 3)]) (N := nWBadRotas) (sc := defScope sWBadRotas) (by decide +kernel)) (fun _ _ _ _ _ => (pg_name (i := 3) scWBadRotas.nd rfl (.inl rfl))) (fun _ _ _ _ _ => (pts_one (pt_cmpR (op_notIn_seq : OpR _ (compareOp .NotIn) (rIn K true)) (pv 3) (pv 1) (by rfl)))) (fun _ _ _ _ _ => (pe_op (op_catA : OpR _ (binaryOp .Add) (rCatA K)) (pe_slice (sl_tupA : SlR _ (rSlA K)) (pv 1) po_none (po_some (pe_un un_neg pe_int))) (pe_tup (pa_cons (pv 3) pa_nil))))) po_none (po_some pe_int)) pa_nil))))) pss_nil)
    (pss_one (ps_ret (pv 2))))), ?_⟩
  have hd : Dp K H (.ref b) (.tuple (pd ρ)) := dp_strs hb
  have hpl : (pd ρ).length = ρ.length := by simp [pd]
  have c1 := cut_len (pd ρ) none (some (-1))
  have c2 := cut_len (pd ρ) none (some 1)
  have c3 := cut_len (pd ρ) (some 1) none
  have c4 := cut_len (pd ρ) (some (-1)) none
  refine q_asgF (ds := R1 ρ) (ed_cons ed_non (ed_cons ed_int (ed_cons ed_str (ed_cons (ed_listof (ed_var rfl hd)) (ed_cons (ed_cat (ed_var rfl hd) (ed_tup (ed_cons ed_str ed_nil) (by simp)) (by simp; omega)) (ed_cons (ed_cat (ed_var rfl hd) (ed_tup (ed_cons ed_non ed_nil) (by simp)) (by simp; omega)) (ed_cons (ed_tup (ed_cons (ed_var rfl hd) ed_nil) (by simp)) ed_nil))))))) (by simp [R1]) fun fb v1 H2 hfb e2 h2 hd2 => ?_
  have hl1 := dpa_len hd2
  refine q_when (b := !decide (ρ = [])) (et_is (et_test (ev_opU (ev_var rfl) (eu_tup ea_nil (by simp)) fun p H3 hp e3 => rv_neD (dp_mono (wo_le) (dp_mono (wo_ex e3) (dp_mono e2 hd))) (.tup (st_of hp) .nil) (shapedT_strs hok) rfl)) ?_) (fun hbt H3 e3 => ?_) (fun hbt H3 e3 => ?_)
  · congr 1
    cases ρ with
    | nil => rfl
    | cons _ _ => rfl
  · have h0 : ρ ≠ [] := by simpa using hbt
    have h1 : 0 < ρ.length := List.length_pos_iff.mpr h0
    have e03 : Ex H (wo fb H3) := e2.trans (wo_ex e3)
    have h3 := e3 _ _ h2
    have hd3 := dpa_mono (wo_ex e3) hd2
    have hF3 : ∃ o, H3 fb = some o := ⟨_, h3⟩
    have hρ3 := dp_mono e03 hd
    obtain ⟨last, hlast⟩ : ∃ last, ρ[ρ.length - 1]? = some last := ⟨_, List.getElem?_eq_getElem (by omega)⟩
    have hlm := List.mem_of_getElem? hlast
    have hat : atI (pd ρ) (-1) = some (.str last) := by
      unfold atI ixN
      rw [if_neg (by decide), if_pos (by omega)]
      have : ((-1 : Int) + ((pd ρ).length : Int)).toNat = ρ.length - 1 := by omega
      rw [this]
      show (pd ρ)[ρ.length - 1]? = _
      rw [pd, List.getElem?_map, hlast]
      rfl
    have ini : ∀ {t1 : TE} {t2 : TE} {σ : L2.St} {H' : Hp}, (∃ o, H' fb = some o) → EvF K fb t1 σ H' (.tuple (pd ρ)) → Ev t2 σ H' (.int (-1)) → EvF K fb (tSl (rSlA K) t1 tNoPart (tPart t2)) σ H' (.tuple (cutA (pd ρ) none (some (-1)))) := fun hf h1 h2 => df_sl hf h1 eo_none (eo_some h2)
    refine q_of (s_extF (ds := R2 ρ last) h3 hd3 (ev_var rfl) (by rw [hl1]; simp [R1]) (df_cons (df_tup hF3 df_nil (by simp)) (df_cons (ini hF3 (df_var rfl hρ3) (ev_un ev_c ru_neg)) (df_cons (df_cat hF3 (df_var rfl hρ3) (df_sl hF3 (df_var rfl hρ3) eo_none (eo_some ev_c)) (by omega))
      (df_cons (d := X4 ρ) (df_if (b := decide ((1 : Int) < ρ.length)) (et_test (ev_op (ev_is (ev_lenT (ev_var rfl) (ex_t (e03.trans wo_le) hb)) (by rw [List.length_map])) ev_c rv_I0)) (fun z => ?_) (fun z => ?_))
      (df_cons (df_cat hF3 (ini hF3 (df_var rfl hρ3) (ev_un ev_c ru_neg)) (df_tup hF3 (df_cons df_str df_nil) (by simp)) (by simp; omega)) (df_cons (df_cat hF3 (ini hF3 (df_var rfl hρ3) (ev_un ev_c ru_neg)) (df_tup hF3 (df_cons df_int df_nil) (by simp)) (by simp; omega))
      (df_cons (df_cat hF3 (ini hF3 (df_var rfl hρ3) (ev_un ev_c ru_neg)) (df_tup hF3 (df_cons (df_lst hF3 (df_cons (df_ixI (df_var rfl hρ3) (ev_un ev_c ru_neg) hat) df_nil) (by simp)) df_nil) (by simp)) (by simp; omega)) df_nil))))))) (by simp [R2]) fun H4 v4 e4 h4 hd4 => ?_)
    · have z := of_decide_eq_true z
      unfold X4
      rw [if_pos (by omega)]
      exact df_cat hF3 (df_sl hF3 (df_var rfl hρ3) (eo_some ev_c) eo_none) (df_sl hF3 (df_var rfl hρ3) (eo_some (ev_un ev_c ru_neg)) eo_none) (by omega)
    · have z := of_decide_eq_false z
      unfold X4
      rw [if_neg (by omega)]
      exact df_tup hF3 (df_cons df_non df_nil) (by simp)
    have e04 : Ex H (wo fb H4) := e03.trans e4
    have hl4 := dpa_len hd4
    have hF4 : ∃ o, H4 fb = some o := ⟨_, h4⟩
    have hρ4 := dp_mono e04 hd
    have hini : cutA (pd ρ) none (some (-1)) = pd (ρ.take (ρ.length - 1)) := by
      rw [cut_init, hpl, pd, pd, List.map_take]
    refine s_extL (PP := fun d => d = R3 ρ ((Pl.filter fun q => !decide (q ∈ ρ)).take 2)) h4 hd4 (ev_var rfl) (by rw [hl4]; simp [R1, R2]) (fun H5 e5 Q5 q5 => ?_) fun H5 w5 ds5 e5 h5 hd5 hP5 => ?_
    · refine (lcT_F (ss := Pl) (p := fun q => !decide (q ∈ ρ)) (g := fun q => ρ.take (ρ.length - 1) ++ [q]) hF4 (ev_web0 (ev_var rfl) (ex_t (e04.trans wo_le) hw1)) (ex_t (e04.trans wo_le) hap.sq) (by omega) (fun _ => rfl) (fun q' H6 hq' e6 => ?_) (fun q' H6 hq' e6 => ?_)) H5 e5 _ fun bl H6 xs e6 h6 hx6 hbf => ?_
      · exact et_is (et_test (ev_op (ev_var rfl) (ev_var rfl) (rv_niT (ex_t (e04.trans (wo_le.trans e6)) hb) rfl (flat_strs _)))) (by rw [inV_strs])
      · have := df_cat (f := fb) (K := K) ⟨_, e6 _ _ h4⟩ (ini ⟨_, e6 _ _ h4⟩ (df_var (σ := ([some (.ref a), some (.ref b), some (.ref fb), some (.str q')] : L2.St)) (i := 1) rfl (dp_mono (wo_ex e6) hρ4)) (ev_un (ev_c (v := .int 1)) ru_neg)) (df_tup ⟨_, e6 _ _ h4⟩ (df_cons (df_var (i := 3) rfl (.str q')) df_nil) (by simp)) (by simp; omega)
        rw [hini] at this
        rw [List.map_append]
        exact this
      · refine ⟨2, rfl, bl, xs, rfl, sq_of h6, fun nl hnl => ?_⟩
        have e7 : Ex H6 (upd H6 nl (.lst (cutV xs none (some 2)))) := Ex.new hnl
        have hle : (cutV xs none (some 2)).length ≤ xs.length := cutV_length xs none (some 2)
        have hxl := dpa_len hx6
        have hfl := List.length_filter_le (fun q => !decide (q ∈ ρ)) Pl
        refine q5 nl _ _ _ (e6.trans e7) upd_same (dpa_mono (wo_ex e7) (dpa_cut none (some 2) hx6)) ?_ (by rw [List.length_map] at hxl; omega)
        rw [show cutA ((Pl.filter fun q => !decide (q ∈ ρ)).map fun q => PyData.tuple ((ρ.take (ρ.length - 1) ++ [q]).map PyData.str)) none (some 2) = _ from cut_pre _ 2, ← List.map_take]
        unfold R3
        refine List.map_congr_left fun q' _ => ?_
        rw [hini, List.map_append]
        rfl
    · subst hP5
      refine s_ret (ev_var rfl) fun H6 e6 => ?_
      refine q fb H6 w5 last hfb ((e04.trans e5).trans ((wo_ex e6).trans wo_le)) (e6 _ _ h5) ?_ (.inl hlm)
      unfold badRotas
      rw [if_neg h0]
      exact dpa_mono ((wo_ex e6).trans wo_le) hd5
  · have h0 : ρ = [] := by simpa using hbt
    refine s_ret (ev_var rfl) fun H4 e4 => ?_
    refine q fb H4 v1 "" hfb (e2.trans ((wo_ex (e3.trans e4)).trans wo_le)) ((e3.trans e4) _ _ h2) ?_ (.inr h0)
    unfold badRotas
    rw [if_pos h0]
    exact dpa_mono ((wo_ex (e3.trans e4)).trans wo_le) hd2
end
end RW
end

section
set_option maxRecDepth 100000
set_option maxHeartbeats 4000000
/-! the walk of the law's word: what is refused, and by which error -/
namespace RW
open PySem PySem.Spec PyProof.Rows L2 Evl

/-! ### swap_days by keywords -/
def gIRW {α : Type} : List α → List α → List α
  | [], [i, r, w] => [w, r, i]
  | _, _ => []
def gIWR {α : Type} : List α → List α → List α
  | [], [i, w, r] => [w, r, i]
  | _, _ => []
section
variable {K : PySem.W.Frag}
theorem kb_irw {f : Addr} {fd : FuncData} (F : Fun K "swap_days" "swap_days" sSwapDays f fd) : KBinds K fd ["web", "rota", "index"] ["index", "rota", "web"] gIRW gIRW := by
  obtain ⟨oc, od, kV, doc, pm, an, cdv, ct, osl, rfl, lk, hcd⟩ := F.ex
  refine ⟨fun s us ws _ hl => ?_, fun {vs us zs ws} h1 h2 => ?_⟩
  · match us, ws, hl with
    | [], [i, r, w], _ => exact .of_eq rfl
    | [], [], hl => cases hl
    | [], [_], hl => cases hl
    | [], [_, _], hl => cases hl
    | [], _ :: _ :: _ :: _ :: _, hl => cases hl
    | _ :: _, _, hl => cases hl
  · cases h1 with
    | cons _ _ => exact .nil
    | nil =>
      match zs, ws, h2 with
      | _, _, .nil => exact .nil
      | _, _, .cons a .nil => exact .nil
      | _, _, .cons a (.cons b .nil) => exact .nil
      | _, _, .cons a (.cons b (.cons c .nil)) => exact .cons c (.cons b (.cons a .nil))
      | _, _, .cons a (.cons b (.cons c (.cons d e))) => exact .nil
theorem kb_iwr {f : Addr} {fd : FuncData} (F : Fun K "swap_days" "swap_days" sSwapDays f fd) : KBinds K fd ["web", "rota", "index"] ["index", "web", "rota"] gIWR gIWR := by
  obtain ⟨oc, od, kV, doc, pm, an, cdv, ct, osl, rfl, lk, hcd⟩ := F.ex
  refine ⟨fun s us ws _ hl => ?_, fun {vs us zs ws} h1 h2 => ?_⟩
  · match us, ws, hl with
    | [], [i, w, r], _ => exact .of_eq rfl
    | [], [], hl => cases hl
    | [], [_], hl => cases hl
    | [], [_, _], hl => cases hl
    | [], _ :: _ :: _ :: _ :: _, hl => cases hl
    | _ :: _, _, hl => cases hl
  · cases h1 with
    | cons _ _ => exact .nil
    | nil =>
      match zs, ws, h2 with
      | _, _, .nil => exact .nil
      | _, _, .cons a .nil => exact .nil
      | _, _, .cons a (.cons b .nil) => exact .nil
      | _, _, .cons a (.cons b (.cons c .nil)) => exact .cons b (.cons c (.cons a .nil))
      | _, _, .cons a (.cons b (.cons c (.cons d e))) => exact .nil
end
/-- what the three errors are to each other -/
structure Errs (K : PySem.W.Frag) (mg : Str → Option Value) (C1 C2 C3 CP : Addr) : Prop where
  e1 : Err K mg "BadWeb" C1
  e2 : Err K mg "BadRota" C2
  e3 : Err K mg "BadIndex" C3
  gP : mg "PostError" = some (.ref CP)
  x1 : PySem.W.exmOne K (.ref C1) (.ref CP) = some true
  x2 : PySem.W.exmOne K (.ref C2) (.ref CP) = some true
  x3 : PySem.W.exmOne K (.ref C3) (.ref CP) = some true
  c1 : ExcC K C1
  c2 : ExcC K C2
  c3 : ExcC K C3
  k11 : PySem.W.kitOne K (.ref C1) (.ref C1) = some true
  k12 : PySem.W.kitOne K (.ref C1) (.ref C2) = some false
  k13 : PySem.W.kitOne K (.ref C1) (.ref C3) = some false
  k22 : PySem.W.kitOne K (.ref C2) (.ref C2) = some true
  k23 : PySem.W.kitOne K (.ref C2) (.ref C3) = some false
  k33 : PySem.W.kitOne K (.ref C3) (.ref C3) = some true
def tIsE (K : PySem.W.Frag) (D a : Addr) (C : Addr) : TE := tCB (rIsE K D a) (tCons (tVar 4) (tCons (tC (.ref C)) tNil))
def tSuite (K : PySem.W.Frag) (C1 C2 C3 D a : Addr) : TS := tAsg (tIf (tTest (tIsE K D a C3)) (tC (.str "index")) (tIf (tTest (tIsE K D a C2)) (tC (.str "rota")) (tIf (tTest (tIsE K D a C1)) (tC (.str "web")) (tC (.str "another"))))) (gName 3)
def tsW (K : PySem.W.Frag) (C1 C2 C3 : Addr) : Addr → Value → Option Addr → TS := fun a cls d E σ H =>
  (cls = .ref C1 ∧ d = none ∧ tSuite K C1 C2 C3 C1 a E σ H) ∨ (cls = .ref C2 ∧ d = none ∧ tSuite K C1 C2 C3 C2 a E σ H) ∨ (cls = .ref C3 ∧ d = none ∧ tSuite K C1 C2 C3 C3 a E σ H)
section
variable {P : Program} {w : World} {K : PySem.W.Frag} {mg : Str → Option Value} {base : Heap}
/-- what the three data ask for -/
def Refuse (K : PySem.W.Frag) (H : Hp) (v : V) (dw dr di : PyData) (s : Str) : Prop :=
  (webD dw = false ∧ s = "web") ∨ (webD dw = true ∧ ∃ (a : Addr) (Pl : List Str) (R : List RdS), v = .ref a ∧ Gd K H a Pl R ∧
    ((rotaD (R.map (·.1)) dr = false ∧ s = "rota") ∨ ∃ ρ, dr = .tuple (ρ.map PyData.str) ∧ rotaD (R.map (·.1)) dr = true ∧ RP.Whole R ρ ∧ idxD ρ.length di = false ∧ s = "index"))
theorem pss_tsW {X : Cx} {ss : List Stmt} {C1 C2 C3 a : Addr} {cls : Value} {d : Option Addr} (h1 : cls = .ref C1 → d = none → PSs X ss (tSuite K C1 C2 C3 C1 a)) (h2 : cls = .ref C2 → d = none → PSs X ss (tSuite K C1 C2 C3 C2 a)) (h3 : cls = .ref C3 → d = none → PSs X ss (tSuite K C1 C2 C3 C3 a)) : PSs X ss (tsW K C1 C2 C3 a cls d) := ⟨fun pins s σ H D I h => by
  rcases h with ⟨e1, e2, h⟩ | ⟨e1, e2, h⟩ | ⟨e1, e2, h⟩
  · exact (h1 e1 e2).run pins s σ H D I h
  · exact (h2 e1 e2).run pins s σ H D I h
  · exact (h3 e1 e2).run pins s σ H D I h⟩
def spWord (K : PySem.W.Frag) : Sp := fun vs H Q _ => ∃ (v u x : V) (dw dr di : PyData) (s : Str), vs = [v, u, x] ∧ Dp K H v dw ∧ Sm 3 dw ∧ Dp K H u dr ∧ Sm 1 dr ∧ Dp K H x di ∧ Refuse K H v dw dr di s ∧ Rv (.str s) H Q
theorem isE_ev {σ : L2.St} {H : Hp} {D a C : Addr} {b : Bool} (h : σ[4]? = some (some (.ref a))) (k : PySem.W.kitOne K (.ref D) (.ref C) = some b) : EvT (tTest (tIsE K D a C)) σ H b :=
  et_test fun H1 e Q q => ⟨_, h, .ref C, .ref C, b, rfl, fun u r => r, k, q H1 (Ex.refl H1)⟩
theorem q_tryK {σ : L2.St} {H : Hp} {D : Ends} {tz : TS} {sp : Sp} {gV : List V → List V → List V} {c : Value} {i : Nat} {ts : Addr → Value → Option Addr → TS} {Wout : WX} {tk : TA} {zs : List V} (h : EvA tk σ H zs)
    (k : ∀ H1, Ex H H1 → sp (gV [] zs) H1 (fun _ H2 => tz D σ H2) (WE (wAs K c i ts Wout { D with nx := tz D }) σ)) : tSeq (fun D σ H => tDrop (tCallKS sp gV (WE (wAs K c i ts Wout D)) tk) D σ H) tz D σ H := h H (Ex.refl H) _ fun H1 e => k H1 e
theorem c_word {C1 C2 C3 CP : Addr} (Z : Frees mg) (T : Errs K mg C1 C2 C3 CP) (hSwapDays : CalK P w K mg base (L2.CX P w) 6 "swap_days" sSwapDays ["web", "rota", "index"] (spSwap K C1 C2 C3)) (F : HasD K mg "_law_word" sWWord) : Cal P w K mg base CX0 7 "_law_word" ["_law_web_here", "_law_rota_here", "_law_index"] (spWord K) := by
  obtain ⟨_, _, GSwapDays, gSwapDays, kSwapDays, _, FS⟩ := hSwapDays
  have kb := kb_irw FS
  refine cal_of F scWWord (fun vs H Q E ⟨_, _, _, _, _, _, _, e, _⟩ => by rw [e]; rfl) (fun _ _ _ _ _ _ us hl => match us, hl with | [_, _, _], _ => rfl) fun f cdv A outer s H vs Q E hr h => ?_
  obtain ⟨v, u, x, dw, dr, di, so, rfl, hdw, hsw, hdr, hsr, hdi, hrf, q⟩ := h
  refine ⟨_, (pss_cons (ps_set (i := 3) scWWord.nd rfl (.inl rfl) pe_str)
    (pss_cons (ps_try_as (i := 4) (tb := fun W => tDrop (tCallKS (spSwap K C1 C2 C3) gIRW (WE W) (tCons (tVar 2) (tCons (tVar 1) (tCons (tVar 0) tNil))))) (ts := tsW K C1 C2 C3) (Wout := fun _ _ _ _ => False) rfl rfl scWWord.nd rfl rfl ⟨rfl, by decide, .inl T.gP⟩ takes0
      (fun W pn xe tk _ => pss_one (ps_expr (by exact pe_callKS GSwapDays (hr.mono (by decide)) rfl gSwapDays kSwapDays kb (fun σ => passAt tk σ) (pk_cons (pv 2) (pk_cons (pv 1) (pk_cons (pv 0) pk_nil))))))
      (fun a oe cls d pn hz hf => pss_tsW (fun ec ed => by
        subst ec ed
        exact pss_one (ps_set (i := 3) scWWord.nd rfl (.inl rfl) (pe_ifExp (pt_val (pe_callB (call_isE T.c1 hz hf) (by rfl) Z.isinstance_ (by decide +kernel) (pa_cons (pv 4) (pa_cons (pe_glob (v := .ref C3) rfl T.e3.g rfl) pa_nil)))) pe_str (pe_ifExp (pt_val (pe_callB (call_isE T.c1 hz hf) (by rfl) Z.isinstance_ (by decide +kernel) (pa_cons (pv 4) (pa_cons (pe_glob (v := .ref C2) rfl T.e2.g rfl) pa_nil)))) pe_str (pe_ifExp (pt_val (pe_callB (call_isE T.c1 hz hf) (by rfl) Z.isinstance_ (by decide +kernel) (pa_cons (pv 4) (pa_cons (pe_glob (v := .ref C1) rfl T.e1.g rfl) pa_nil)))) pe_str pe_str)))))
        (fun ec ed => by
        subst ec ed
        exact pss_one (ps_set (i := 3) scWWord.nd rfl (.inl rfl) (pe_ifExp (pt_val (pe_callB (call_isE T.c2 hz hf) (by rfl) Z.isinstance_ (by decide +kernel) (pa_cons (pv 4) (pa_cons (pe_glob (v := .ref C3) rfl T.e3.g rfl) pa_nil)))) pe_str (pe_ifExp (pt_val (pe_callB (call_isE T.c2 hz hf) (by rfl) Z.isinstance_ (by decide +kernel) (pa_cons (pv 4) (pa_cons (pe_glob (v := .ref C2) rfl T.e2.g rfl) pa_nil)))) pe_str (pe_ifExp (pt_val (pe_callB (call_isE T.c2 hz hf) (by rfl) Z.isinstance_ (by decide +kernel) (pa_cons (pv 4) (pa_cons (pe_glob (v := .ref C1) rfl T.e1.g rfl) pa_nil)))) pe_str pe_str)))))
        (fun ec ed => by
        subst ec ed
        exact pss_one (ps_set (i := 3) scWWord.nd rfl (.inl rfl) (pe_ifExp (pt_val (pe_callB (call_isE T.c3 hz hf) (by rfl) Z.isinstance_ (by decide +kernel) (pa_cons (pv 4) (pa_cons (pe_glob (v := .ref C3) rfl T.e3.g rfl) pa_nil)))) pe_str (pe_ifExp (pt_val (pe_callB (call_isE T.c3 hz hf) (by rfl) Z.isinstance_ (by decide +kernel) (pa_cons (pv 4) (pa_cons (pe_glob (v := .ref C2) rfl T.e2.g rfl) pa_nil)))) pe_str (pe_ifExp (pt_val (pe_callB (call_isE T.c3 hz hf) (by rfl) Z.isinstance_ (by decide +kernel) (pa_cons (pv 4) (pa_cons (pe_glob (v := .ref C1) rfl T.e1.g rfl) pa_nil)))) pe_str pe_str)))))))
    (pss_one (ps_ret (pv 3))))), ?_⟩
  refine q_asg ev_c fun H1 e1 => ?_
  refine q_tryK (ea_cons (ev_var rfl) (ea_cons (ev_var rfl) (ea_cons (ev_var rfl) ea_nil))) fun H2 e2 => ?_
  have e02 := e1.trans e2
  have hend : ∀ (H3 : Hp), Ex H2 H3 → ∀ (Cd : Addr) (te : TE), PySem.W.exmOne K (.ref Cd) (.ref CP) = some true → (∀ a D H4, tSuite K C1 C2 C3 Cd a D [some v, some u, some x, some (.str ""), some (.ref a)] H4 → tsW K C1 C2 C3 a (.ref Cd) none D [some v, some u, some x, some (.str ""), some (.ref a)] H4) →
      (∀ a H4, Ev (tIf (tTest (tIsE K Cd a C3)) (tC (.str "index")) (tIf (tTest (tIsE K Cd a C2)) (tC (.str "rota")) (tIf (tTest (tIsE K Cd a C1)) (tC (.str "web")) (tC (.str "another"))))) [some v, some u, some x, some (.str ""), some (.ref a)] H4 (.str so)) →
      WE (wAs K (.ref CP) 4 (tsW K C1 C2 C3) (fun _ _ _ _ => False) { nx := tRet (tVar 3) { nx := fun _ H' => Q .non H', rt := Q }, rt := Q }) [some v, some u, some x, some (.str ""), none] (.ref Cd) none H3 := fun H3 e3 Cd te hx hts hev => by
    refine ⟨true, hx, fun _ a ha => hts a _ H3 ?_, fun z => nomatch z⟩
    refine s_asg (hev a H3) fun H4 e4 => ?_
    exact s_ret (ev_var rfl) fun H5 e5 => q H5 (e02.trans (e3.trans (e4.trans e5)))
  refine ⟨v, u, x, dw, dr, di, rfl, dp_mono e02 hdw, hsw, dp_mono e02 hdr, hsr, dp_mono e02 hdi, ?_⟩
  rcases hrf with ⟨h1, rfl⟩ | ⟨h1, a, Pl, R, rfl, hg, h⟩
  · refine .inl ⟨h1, fun H3 e3 => hend H3 e3 C1 (tVar 0) T.x1 (fun a D H4 h => .inl ⟨rfl, rfl, h⟩) fun a H4 => ?_⟩
    exact ev_if (b := false) (isE_ev rfl T.k13) (fun z => absurd z (by decide)) fun _ => ev_if (b := false) (isE_ev rfl T.k12) (fun z => absurd z (by decide)) fun _ => ev_if (b := true) (isE_ev rfl T.k11) (fun _ => ev_c) (fun z => absurd z (by decide))
  · refine .inr ⟨h1, a, Pl, R, rfl, hg.mono (Tp.of e02), ?_⟩
    rcases h with ⟨h2, rfl⟩ | ⟨ρ, rfl, h2, hW, h3, rfl⟩
    · refine .inl ⟨h2, fun H3 e3 => hend H3 e3 C2 (tVar 0) T.x2 (fun a D H4 h => .inr (.inl ⟨rfl, rfl, h⟩)) fun a H4 => ?_⟩
      exact ev_if (b := false) (isE_ev rfl T.k23) (fun z => absurd z (by decide)) fun _ => ev_if (b := true) (isE_ev rfl T.k22) (fun _ => ev_c) (fun z => absurd z (by decide))
    · refine .inr ⟨ρ, rfl, h2, hW, .inl ⟨h3, fun H3 e3 => hend H3 e3 C3 (tVar 0) T.x3 (fun a D H4 h => .inr (.inr ⟨rfl, rfl, h⟩)) fun a H4 => ?_⟩⟩
      exact ev_if (b := true) (isE_ev rfl T.k33) (fun _ => ev_c) (fun z => absurd z (by decide))
end
end RW
end

section
set_option maxRecDepth 100000
set_option maxHeartbeats 4000000
/-! plain: no list of ints inside; whole rotas; bad indices -/
namespace RW
open PySem PySem.Spec PyProof.Rows L2 Evl

def headInt : List PyData → Bool
  | .int _ :: _ => true
  | _ => false
mutual
def ni : PyData → Bool
  | .list ds => !headInt ds && niAll ds
  | .tuple ds => niAll ds
  | _ => true
def niAll : List PyData → Bool
  | [] => true
  | d :: t => ni d && niAll t
end
section
variable {K : PySem.W.Frag} {H : Hp} {F : Addr} {x y c : Int}
mutual
theorem dp_wo (hF : H F = some (.lst [.int x, .int y, .int c])) : ∀ {v : V} {d : PyData}, Dp K H v d → ni d = true → Dp K (wo F H) v d
  | _, _, .non, _ => .non
  | _, _, .bl b, _ => .bl b
  | _, _, .int i, _ => .int i
  | _, _, .str s, _ => .str s
  | _, _, .lst (a := a) (xs := xs) (ds := ds) h hs, hn => by
    have hn : (!headInt ds && niAll ds) = true := hn
    rw [Bool.and_eq_true] at hn
    refine .lst ?_ (dpa_wo hF hs hn.2)
    rcases h with (h | ⟨ob, h⟩) | h
    · refine .inl (.inl ?_)
      by_cases z : a = F
      · exfalso
        rw [z, hF] at h
        cases h
        cases hs with
        | cons h1 _ =>
          cases h1
          exact absurd hn.1 (by simp [headInt])
      · rw [wo_ne z]
        exact h
    · refine .inl (.inr ⟨ob, ?_⟩)
      rw [wo_ne (fun z => by rw [z, hF] at h; cases h)]
      exact h
    · exact .inr h
  | _, _, .tup (a := a) (xs := xs) (ds := ds) h hs, hn => by
    refine .tup ?_ (dpa_wo hF hs hn)
    rcases h with (h | ⟨ob, h⟩) | h
    · refine .inl (.inl ?_)
      rw [wo_ne (fun z => by rw [z, hF] at h; cases h)]
      exact h
    · refine .inl (.inr ⟨ob, ?_⟩)
      rw [wo_ne (fun z => by rw [z, hF] at h; cases h)]
      exact h
    · exact .inr h
theorem dpa_wo (hF : H F = some (.lst [.int x, .int y, .int c])) : ∀ {vs : List V} {ds : List PyData}, DpAll K H vs ds → niAll ds = true → DpAll K (wo F H) vs ds
  | _, _, .nil, _ => .nil
  | _, _, .cons h hs, hn => by
    have hn := (Bool.and_eq_true _ _).mp hn
    exact .cons (dp_wo hF h hn.1) (dpa_wo hF hs hn.2)
end
theorem but_wo {H' : Hp} (b : But F H H') : Ex (wo F H) (wo F H') := fun a u h => by
  by_cases z : a = F
  · subst z
    rw [wo_self] at h
    cases h
  · rw [wo_ne z] at h ⊢
    exact b a u z h
/-- such data stands while the feed is drawn from -/
theorem dp_feed {n : Nat} {H' : Hp} {v : V} {d : PyData} (hf : Feed F H n) (b : But F H H') (h : Dp K H v d) (hn : ni d = true) : Dp K H' v d := by
  obtain ⟨x, y, c, hF, _⟩ := hf
  exact dp_mono wo_le (dp_mono (but_wo b) (dp_wo hF h hn))
end
theorem niAll_app : ∀ {a b : List PyData}, niAll a = true → niAll b = true → niAll (a ++ b) = true
  | [], _, _, h => h
  | d :: t, b, h1, h2 => by
    have h1 := (Bool.and_eq_true _ _).mp h1
    exact (Bool.and_eq_true _ _).mpr ⟨h1.1, niAll_app h1.2 h2⟩
theorem niAll_of : ∀ {l : List PyData}, (∀ d ∈ l, ni d = true) → niAll l = true
  | [], _ => rfl
  | d :: t, h => (Bool.and_eq_true _ _).mpr ⟨h d List.mem_cons_self, niAll_of fun e he => h e (List.mem_cons_of_mem _ he)⟩
theorem ni_of : ∀ {l : List PyData} {d : PyData}, niAll l = true → d ∈ l → ni d = true
  | e :: t, d, h, hd => by
    have h := (Bool.and_eq_true _ _).mp h
    rcases List.mem_cons.mp hd with z | z
    · rw [z]; exact h.1
    · exact ni_of h.2 z
theorem ni_pd (P : List Str) : niAll (pd P) = true := niAll_of fun d hd => by
  obtain ⟨s, _, rfl⟩ := List.mem_map.mp hd
  rfl
theorem ni_rds (R : List RdS) : niAll (rds R) = true := niAll_of fun d hd => by
  obtain ⟨r, _, rfl⟩ := List.mem_map.mp hd
  rfl
theorem ni_cut {l : List PyData} {lo hi : Option Int} (h : niAll l = true) : niAll (cutA l lo hi) = true := niAll_of fun d hd => ni_of h (cut_mem hd)
theorem ni_lpd (P : List Str) : ni (.list (pd P)) = true := by
  show (!headInt (pd P) && niAll (pd P)) = true
  rw [ni_pd, Bool.and_true]
  cases P <;> rfl
theorem ni_lrds (R : List RdS) : ni (.list (rds R)) = true := by
  show (!headInt (rds R) && niAll (rds R)) = true
  rw [ni_rds, Bool.and_true]
  cases R <;> rfl
theorem ni_pair {a b : PyData} (h1 : ni a = true) (h2 : ni b = true) : ni (.tuple [a, b]) = true := by
  show (ni a && (ni b && true)) = true
  rw [h1, h2]
  rfl
theorem ni_bad (P : List Str) (R : List RdS) : ∀ d ∈ badWebs P R, ni d = true := by
  have tP : ni (.tuple (pd P)) = true := ni_pd P
  have tR : ni (.tuple (rds R)) = true := ni_rds R
  have tRx : ∀ {x : PyData}, ni x = true → ni (.tuple (rds R ++ [x])) = true := fun {x} h => niAll_app (ni_rds R) (by show (ni x && true) = true; rw [h]; rfl)
  have hB1 : ∀ d ∈ B1 P R, ni d = true := by
    intro d hd
    simp only [B1, List.mem_cons, List.not_mem_nil, or_false] at hd
    rcases hd with rfl | rfl | rfl | rfl | rfl | rfl | rfl | rfl | rfl | rfl
    · rfl
    · rfl
    · rfl
    · show (true && (ni (.tuple (pd P)) && (ni (.tuple (rds R)) && true))) = true
      rw [tP, tR]
      rfl
    · show (ni (.tuple (pd P)) && true) = true
      rw [tP]
      rfl
    · exact ni_pair (ni_lpd P) tR
    · exact ni_pair tP (ni_lrds R)
    · exact ni_pair (niAll_app (ni_pd P) (ni_cut (ni_pd P))) tR
    · rfl
    · exact ni_pair (niAll_app (ni_pd P) rfl) tR
  have hB2 : ∀ p0, ∀ d ∈ B2 P R p0, ni d = true := by
    intro p0 d hd
    simp only [B2, List.mem_cons, List.not_mem_nil, or_false] at hd
    rcases hd with rfl | rfl | rfl
    · exact ni_pair tP (tRx rfl)
    · exact ni_pair tP (tRx rfl)
    · exact ni_pair tP (tRx rfl)
  have hB3 : ∀ d ∈ B3, ni d = true := by
    intro d hd
    simp only [B3, List.mem_cons, List.not_mem_nil, or_false] at hd
    rcases hd with rfl | rfl
    · refine ni_pair (niAll_of fun e he => ?_) rfl
      obtain ⟨i, _, rfl⟩ := List.mem_map.mp he
      rfl
    · refine ni_pair rfl (niAll_of fun e he => ?_)
      obtain ⟨i, _, rfl⟩ := List.mem_map.mp he
      rfl
  have hB4 : ∀ d ∈ B4 P, ni d = true := by
    intro d hd
    simp only [B4, List.mem_cons, List.not_mem_nil, or_false] at hd
    rcases hd with rfl | rfl | rfl
    · exact ni_pair (niAll_app (ni_cut (ni_pd P)) rfl) rfl
    · exact ni_pair (niAll_app (ni_cut (ni_pd P)) rfl) rfl
    · exact ni_pair (niAll_app (ni_cut (ni_pd P)) rfl) rfl
  have hB5 : ∀ p0 p1, ∀ d ∈ B5 P R p0 p1, ni d = true := by
    intro p0 p1 d hd
    simp only [B5, List.mem_cons, List.not_mem_nil, or_false] at hd
    rcases hd with rfl | rfl
    · exact ni_pair tP (tRx rfl)
    · exact ni_pair tP (tRx rfl)
  have hB6 : ∀ p0 p1, ni (B6 P R p0 p1) = true := fun p0 p1 => ni_pair tP (niAll_app (ni_rds R) rfl)
  intro d hd
  unfold badWebs at hd
  split at hd
  · cases hd
  · rename_i p0
    simp only [List.mem_append] at hd
    rcases hd with ((hd | hd) | hd) | hd
    · exact hB1 d hd
    · exact hB2 p0 d hd
    · exact hB3 d hd
    · exact hB4 d hd
  · rename_i p0 p1 t
    simp only [List.mem_append, List.mem_singleton] at hd
    rcases hd with ((((hd | hd) | hd) | hd) | hd) | hd
    · exact hB1 d hd
    · exact hB2 p0 d hd
    · exact hB3 d hd
    · exact hB4 d hd
    · exact hB5 p0 p1 d hd
    · rw [hd]
      exact hB6 p0 p1
theorem ni_badR (P ρ : List Str) (last : Str) : ∀ d ∈ badRotas P ρ last, ni d = true := by
  have hR1 : ∀ d ∈ R1 ρ, ni d = true := by
    intro d hd
    simp only [R1, List.mem_cons, List.not_mem_nil, or_false] at hd
    rcases hd with rfl | rfl | rfl | rfl | rfl | rfl | rfl
    · rfl
    · rfl
    · rfl
    · exact ni_lpd ρ
    · exact niAll_app (ni_pd ρ) rfl
    · exact niAll_app (ni_pd ρ) rfl
    · show (niAll (pd ρ) && true) = true
      rw [ni_pd]
      rfl
  intro d hd
  unfold badRotas at hd
  split at hd
  · exact hR1 d hd
  · simp only [List.mem_append] at hd
    rcases hd with (hd | hd) | hd
    · exact hR1 d hd
    · simp only [R2, List.mem_cons, List.not_mem_nil, or_false] at hd
      rcases hd with rfl | rfl | rfl | rfl | rfl | rfl | rfl
      · rfl
      · exact ni_cut (ni_pd ρ)
      · exact niAll_app (ni_pd ρ) (ni_cut (ni_pd ρ))
      · unfold X4
        split
        · exact niAll_app (ni_cut (ni_pd ρ)) (ni_cut (ni_pd ρ))
        · rfl
      · exact niAll_app (ni_cut (ni_pd ρ)) rfl
      · exact niAll_app (ni_cut (ni_pd ρ)) rfl
      · exact niAll_app (ni_cut (ni_pd ρ)) rfl
    · obtain ⟨q, _, rfl⟩ := List.mem_map.mp hd
      exact niAll_app (ni_cut (ni_pd ρ)) rfl
theorem idx_bad {n : Nat} {i : Int} (h : ¬ (0 ≤ i ∧ i ≤ (n : Int) - 2)) : idxD n (.int i) = false := decide_eq_false h
def badIdx (n : Nat) : List PyData := [.none, .int (-1), .int ((n : Int) - 1), .int n, .bool true, .bool false, .str "0", .tuple [.int 0], .int (10 ^ 20)]
theorem bad_idx {n : Nat} (h : n ≤ 14) : ∀ d ∈ badIdx n, idxD n d = false ∧ ni d = true := by
  intro d hd
  simp only [badIdx, List.mem_cons, List.not_mem_nil, or_false] at hd
  rcases hd with rfl | rfl | rfl | rfl | rfl | rfl | rfl | rfl | rfl
  · exact ⟨rfl, rfl⟩
  · exact ⟨idx_bad (by omega), rfl⟩
  · exact ⟨idx_bad (by omega), rfl⟩
  · exact ⟨idx_bad (by omega), rfl⟩
  · exact ⟨rfl, rfl⟩
  · exact ⟨rfl, rfl⟩
  · exact ⟨rfl, rfl⟩
  · exact ⟨rfl, rfl⟩
  · exact ⟨idx_bad (by omega), rfl⟩
theorem whole_of {R : List RdS} {ρ : List Str} (h : ρ.Perm (R.map (·.1))) (hN : (R.map (·.1)).Nodup) : RP.Whole R ρ := ⟨hN, fun r hr => h.mem_iff.mpr hr, fun r hr => h.mem_iff.mp hr, h.nodup_iff.mpr hN⟩
theorem plain_of {K : PySem.W.Frag} {H : Hp} {a : Addr} {P : List Str} {R : List RdS} (hg : Gd K H a P R) (h : GenWeb P R) (h0 : P ≠ []) : Plain P R :=
  ⟨h0, hg.lenP, hg.lenR, hg.inP.nd, hg.nd, h.pl, h.rd, fun r hr => by
    obtain ⟨f, x, y⟩ := r
    exact hg.inP.ends f x y hr, h.ne⟩
theorem dp_webD {K : PySem.W.Frag} {H : Hp} {a : Addr} {P : List Str} {R : List RdS} (h : IsWb K H a P R) : Dp K H (.ref a) (.tuple [.tuple (pd P), .tuple (rds R)]) := by
  obtain ⟨ap, ar, rs, h1, h2, h3, h4⟩ := h
  exact .tup h1 (.cons (dp_strs h2.sq) (.cons (.tup h3 (dp_web h4)) .nil))
end RW
end

section
set_option maxRecDepth 100000
set_option maxHeartbeats 4000000
/-! the walk of the law's refused_right -/
namespace RW
open PySem PySem.Spec PyProof.Rows L2 Evl

section
variable {P : Program} {w : World} {K : PySem.W.Frag} {mg : Str → Option Value} {base : Heap}
theorem sv_word {H : Hp} {v u x : V} {dw dr di : PyData} {s : Str} (h1 : Dp K H v dw) (h2 : Sm 3 dw) (h3 : Dp K H u dr) (h4 : Sm 1 dr) (h5 : Dp K H x di) (h6 : Refuse K H v dw dr di s) : SpV (spWord K) [v, u, x] H (.str s) := fun H1 e Q q E =>
  ⟨v, u, x, dw, dr, di, s, rfl, dp_mono e h1, h2, dp_mono e h3, h4, dp_mono e h5, by
    rcases h6 with h | ⟨h, a, Pl, R, e1, hg, h'⟩
    · exact .inl h
    · exact .inr ⟨h, a, Pl, R, e1, hg.mono (Tp.of e), h'⟩, q⟩
/-- one(feed, a list of data) -/
theorem one_go {σ : L2.St} {H : Hp} {tf tl : TE} {E : XK} {Q : VK} {F : Addr} {n : Nat} (Pd : PyData → Prop) (h : Ev tf σ H (.ref F)) (hF : Feed F H n) (hn : n ≤ 1000000)
    (hl : ∀ H1, Ex H H1 → ∀ Q : VK, (∀ l vs ds H2, Ex H1 H2 → H2 l = some (.lst vs) → l ≠ F → DpAll K H2 vs ds → 0 < ds.length → ds.length < 100000 → (∀ d ∈ ds, Pd d ∧ ni d = true) → Q (.ref l) H2) → tl σ H1 Q)
    (k : ∀ v d H2, But F H H2 → Feed F H2 (n + 1) → Pd d → ni d = true → Dp K H2 v d → Q v H2) : tCall spOne [] E (tCons tf (tCons tl tNil)) σ H Q :=
  h H (Ex.refl H) _ fun H1 e1 => hl H1 e1 _ fun l vs ds H2 e2 h2 hlF hd h0 hz hP => by
    have hlv := dpa_len hd
    have hf2 := hF.mono (e1.trans e2)
    refine ⟨F, l, vs, n, rfl, h2, hlF, by omega, by omega, hf2, hn, fun i v H3 b hf3 hi => ?_⟩
    obtain ⟨d, hd1, hd2⟩ := dpa_at hd hi
    obtain ⟨p1, p2⟩ := hP d (List.mem_of_getElem? hd1)
    exact k v d H3 ((But.of (e1.trans e2)).trans b) hf3 p1 p2 (dp_feed hf2 b hd2 p2)
theorem badWebs_len {P : List Str} {R : List RdS} (h : P ≠ []) : 0 < (badWebs P R).length ∧ (badWebs P R).length < 100000 := by
  unfold badWebs
  split
  · exact absurd rfl h
  · simp [B1, B2, B3, B4]
  · simp [B1, B2, B3, B4, B5]
theorem badRotas_len {P ρ : List Str} {last : Str} : 0 < (badRotas P ρ last).length ∧ (badRotas P ρ last).length < 100000 := by
  unfold badRotas
  split
  · simp [R1]
  · simp [R1, R2, R3]
    omega
def spRefused (K : PySem.W.Frag) : Sp := fun vs H Q _ => ∃ (F a b : Addr) (Pl ρ : List Str) (R : List RdS) (n : Nat), vs = [.ref F, .ref a, .ref b] ∧ Feed F H n ∧ n ≤ 900000 ∧ Gd K H a Pl R ∧ Plain Pl R ∧ SqT K H b (ρ.map V.str) ∧ ρ.Perm (R.map (·.1)) ∧
  ∀ H2, But F H H2 → Feed F H2 (n + 3) → Q (.bl true) H2
theorem c_refused (Z : Frees mg) (hWOne : Cal P w K mg base CX0 2 "_law_one" ["_law_feed_here", "_law_things"] spOne) (hWBadWebs : Cal P w K mg base CX0 1 "_law_bad_webs" ["_law_web_here"] (spBadWebs K)) (hWBadRotas : Cal P w K mg base CX0 1 "_law_bad_rotas" ["_law_web_here", "_law_rota_here"] (spBadRotas K))
    (hWWord : Cal P w K mg base CX0 7 "_law_word" ["_law_web_here", "_law_rota_here", "_law_index"] (spWord K)) (F : HasD K mg "_law_refused_right" sWRefusedRight) : Cal P w K mg base CX0 8 "_law_refused_right" ["_law_feed_here", "_law_web_here", "_law_rota_here"] (spRefused K) := by
  obtain ⟨_, _, GWOne, gWOne, kWOne, bWOne⟩ := hWOne
  obtain ⟨_, _, GWBadWebs, gWBadWebs, kWBadWebs, bWBadWebs⟩ := hWBadWebs
  obtain ⟨_, _, GWBadRotas, gWBadRotas, kWBadRotas, bWBadRotas⟩ := hWBadRotas
  obtain ⟨_, _, GWWord, gWWord, kWWord, bWWord⟩ := hWWord
  refine cal_of F scWRefusedRight (fun vs H Q E ⟨_, _, _, _, _, _, _, e, _⟩ => by rw [e]; rfl) (fun _ _ _ _ _ _ us hl => match us, hl with | [_, _, _], _ => rfl) fun f cdv A outer s H vs Q E hr h => ?_
  obtain ⟨F, a, b, Pl, ρ, R, n, rfl, hf, hn, hg, hp, hb, hρ, q⟩ := h
  refine ⟨_, (pss_cons (ps_set (i := 3) scWRefusedRight.nd rfl (.inl rfl) (pe_lst (pa_cons pe_non (pa_cons (pe_un un_neg pe_int) (pa_cons (pe_op op_sub (pe_callB (call_len_seq : CallR _ (.builtin "len") (Evl.rLenS K)) (by rfl) Z.len_ PySem.boot_len (pa_cons (pv 2) pa_nil)) pe_int) (pa_cons (pe_callB (call_len_seq : CallR _ (.builtin "len") (Evl.rLenS K)) (by rfl) Z.len_ PySem.boot_len (pa_cons (pv 2) pa_nil)) (pa_cons pe_bl (pa_cons pe_bl (pa_cons pe_str (pa_cons (pe_tup (pa_cons pe_int pa_nil)) (pa_cons (pe_op op_pow pe_int pe_int) pa_nil)))))))))))
    (pss_cons (ps_par3 (i := 4) (j := 5) (l := 6) (by rfl) scWRefusedRight.nd rfl rfl rfl (by decide) (by decide) (by decide) rfl rfl rfl (pa_cons (pe_call GWOne (hr.mono (by decide)) (by rfl) gWOne kWOne bWOne .nil pass0 (pa_cons (pv 0) (pa_cons (pe_call GWBadWebs (hr.mono (by decide)) (by rfl) gWBadWebs kWBadWebs bWBadWebs .nil pass0 (pa_cons (pv 1) pa_nil)) pa_nil))) (pa_cons (pe_call GWOne (hr.mono (by decide)) (by rfl) gWOne kWOne bWOne .nil pass0 (pa_cons (pv 0) (pa_cons (pe_call GWBadRotas (hr.mono (by decide)) (by rfl) gWBadRotas kWBadRotas bWBadRotas .nil pass0 (pa_cons (pv 1) (pa_cons (pv 2) pa_nil))) pa_nil))) (pa_cons (pe_call GWOne (hr.mono (by decide)) (by rfl) gWOne kWOne bWOne .nil pass0 (pa_cons (pv 0) (pa_cons (pv 3) pa_nil))) pa_nil))) (by rfl))
    (pss_cons (ps_set (i := 7) scWRefusedRight.nd rfl (.inl rfl) (pe_lst (pa_cons (pe_call GWWord (hr.mono (by decide)) (by rfl) gWWord kWWord bWWord .nil pass0 (pa_cons (pv 1) (pa_cons (pv 2) (pa_cons (pv 6) pa_nil)))) (pa_cons (pe_call GWWord (hr.mono (by decide)) (by rfl) gWWord kWWord bWWord .nil pass0 (pa_cons (pv 1) (pa_cons (pv 5) (pa_cons (pv 6) pa_nil)))) (pa_cons (pe_call GWWord (hr.mono (by decide)) (by rfl) gWWord kWWord bWWord .nil pass0 (pa_cons (pv 4) (pa_cons (pv 5) (pa_cons (pv 6) pa_nil)))) (pa_cons (pe_call GWWord (hr.mono (by decide)) (by rfl) gWWord kWWord bWWord .nil pass0 (pa_cons (pv 4) (pa_cons (pv 2) (pa_cons pe_int pa_nil)))) pa_nil))))))
    (pss_one (ps_ret (pe_cmpR (op_eqD hr.units) (pv 7) (pe_lst (pa_cons pe_str (pa_cons pe_str (pa_cons pe_str (pa_cons pe_str pa_nil))))) (nomark _))))))), ?_⟩
  have hlR : ρ.length = R.length := by simpa using hρ.length_eq
  have hρ14 : ρ.length ≤ 14 := by have := hg.lenR; omega
  have hW := whole_of hρ hp.ndR
  have hns : ∀ s ∈ R.map (·.1), s ∈ NMS := fun s hs => by
    obtain ⟨r, hr, rfl⟩ := List.mem_map.mp hs
    exact hp.nmR r hr
  have hlen : ∀ {σ : L2.St}, σ[2]? = some (some (.ref b)) → Ev (tCB (Evl.rLenS K) (tCons (tVar 2) tNil)) σ H (.int ρ.length) := fun h => by
    have := ev_lenT (K := K) (ev_var (i := 2) h) hb
    rwa [List.length_map] at this
  -- some
  refine q_asgF (K := K) (ds := badIdx ρ.length) (ed_cons ed_non (ed_cons (ed_of (ev_un ev_c ru_neg) (.int (-1))) (ed_cons (ed_of (ev_op (hlen rfl) ev_c rv_I0) (.int ((ρ.length : Int) - 1))) (ed_cons (ed_of (hlen rfl) (.int ρ.length)) (ed_cons ed_bl (ed_cons ed_bl (ed_cons ed_str (ed_cons (ed_tup (ed_cons ed_int ed_nil) (by simp))
    (ed_cons (ed_of (ev_op ev_c ev_c (rv_pow (i := 10) (k := 20) (by decide) (by decide))) (.int (10 ^ 20))) ed_nil))))))))) (by simp [badIdx]) fun sm v1 H1 hsm e1 h1 hd1 => ?_
  have e01 : Ex H H1 := e1.trans wo_le
  have hsmF : sm ≠ F := hf.ne hsm
  have hf1 := hf.mono e01
  have hd1' := dpa_mono (wo_le (f := sm)) hd1
  -- bad
  refine one_go (K := K) (fun d => webD d = false ∧ Sm 3 d) (ev_var rfl) hf1 (by omega) (fun H2 e2 Q2 q2 => ?_) fun bw dw H2 b2 hf2 ⟨hw1, hw2⟩ nw hdw => ?_
  · refine ev_var (v := .ref a) rfl H2 (Ex.refl H2) _ fun H3 e3 => ?_
    refine ⟨a, Pl, R, rfl, (hg.mono (Tp.of (e01.trans (e2.trans e3)))).wb, hp.ne0, hp.lenP, hp.lenR, fun l H4 vs hl e4 h4 hd4 => ?_⟩
    exact q2 l vs _ H4 (e3.trans e4) h4 ((hf1.mono (e2.trans e3)).ne hl) hd4 (badWebs_len hp.ne0).1 (badWebs_len hp.ne0).2 fun d hd => ⟨⟨bad_webs hp d hd, sm_bad hp d hd⟩, ni_bad Pl R d hd⟩
  -- wrong
  have b02 : But F H H2 := (But.of e01).trans b2
  refine one_go (K := K) (fun d => rotaD (R.map (·.1)) d = false ∧ Sm 1 d) (ev_var rfl) hf2 (by omega) (fun H3 e3 Q3 q3 => ?_) fun wr dr H3 b3 hf3 ⟨hr1, hr2⟩ nr hdr => ?_
  · refine (ea_cons (ev_var rfl) (ea_cons (ev_var rfl) ea_nil) : EvA (tCons (tVar 1) (tCons (tVar 2) tNil)) _ H3 [.ref a, .ref b]) H3 (Ex.refl H3) _ fun H4 e4 => ?_
    have tp4 : Tp K H H4 := (hf.tp b02).trans (Tp.of (e3.trans e4))
    refine ⟨a, b, Pl, ρ, R, rfl, (hg.mono tp4).wb, hp.lenP, tp4.1 _ _ hb, hρ14, fun s hs => nm_lay s (hns s (hρ.mem_iff.mp hs)), fun l H5 vs last hl e5 h5 hd5 hlast => ?_⟩
    exact q3 l vs _ H5 (e4.trans e5) h5 ((hf2.mono (e3.trans e4)).ne hl) hd5 badRotas_len.1 badRotas_len.2 fun d hd => ⟨⟨bad_rotas hρ hp.ndR hns d hd, sm_badRotas hρ (by simpa using hp.lenR) hns hp.nmP hlast d hd⟩, ni_badR Pl ρ last d hd⟩
  -- index
  have hsm2 := b2 _ _ hsmF h1
  have hsm3 := b3 _ _ hsmF hsm2
  have hds3 : DpAll K H3 v1 (badIdx ρ.length) := dpa_mono wo_le (dpa_mono ((but_wo b2).trans (but_wo b3)) (by
    obtain ⟨x, y, c, hF, _⟩ := hf1
    exact dpa_wo hF hd1' (niAll_of fun d hd => (bad_idx hρ14 d hd).2)))
  refine one_go (K := K) (fun d => idxD ρ.length d = false) (ev_var rfl) hf3 (by omega) (fun H4 e4 Q4 q4 => ?_) fun ix di H4 b4 hf4 hi1 ni4 hdi => ⟨_, _, _, rfl, ?_⟩
  · refine ev_var (v := .ref sm) rfl H4 (Ex.refl H4) _ fun H5 e5 => ?_
    exact q4 sm v1 _ H5 e5 ((e4.trans e5) _ _ hsm3) hsmF (dpa_mono (e4.trans e5) hds3) (by simp [badIdx]) (by simp [badIdx]) fun d hd => bad_idx hρ14 d hd
  have b04 : But F H H4 := (b02.trans b3).trans b4
  have tp04 : Tp K H H4 := hf.tp b04
  have hdw4 := dp_feed hf2 (b3.trans b4) hdw nw
  have hdr4 := dp_feed hf3 b4 hdr nr
  have hg4 := hg.mono tp04
  have hdW := dp_webD hg4.wb
  have hdR : Dp K H4 (.ref b) (.tuple (pd ρ)) := dp_strs (tp04.1 _ _ hb)
  have hgood := web_good hp
  have hgoodR := rota_good hρ hp.ndR
  have smR : Sm 1 (.tuple (pd ρ)) := sm_tup (by simp [pd]; omega) (sm_all fun s hs => short_nms (hns s (hρ.mem_iff.mp hs)))
  refine q_asgL (el_lst (vs := [.str "index", .str "rota", .str "web", .str "web"]) (ea_cons (ev_call (ea_cons (ev_var rfl) (ea_cons (ev_var rfl) (ea_cons (ev_var rfl) ea_nil))) (sv_word hdW (sm_web hp) hdR smR hdi (.inr ⟨hgood, a, Pl, R, rfl, hg4, .inr ⟨ρ, rfl, hgoodR, hW, hi1, rfl⟩⟩)))
    (ea_cons (ev_call (ea_cons (ev_var rfl) (ea_cons (ev_var rfl) (ea_cons (ev_var rfl) ea_nil))) (sv_word hdW (sm_web hp) hdr4 hr2 hdi (.inr ⟨hgood, a, Pl, R, rfl, hg4, .inl ⟨hr1, rfl⟩⟩)))
    (ea_cons (ev_call (ea_cons (ev_var rfl) (ea_cons (ev_var rfl) (ea_cons (ev_var rfl) ea_nil))) (sv_word hdw4 hw2 hdr4 hr2 hdi (.inl ⟨hw1, rfl⟩)))
    (ea_cons (ev_call (ea_cons (ev_var rfl) (ea_cons (ev_var rfl) (ea_cons ev_c ea_nil))) (sv_word hdw4 hw2 hdR smR (.int 0) (.inl ⟨hw1, rfl⟩))) ea_nil)))) (by simp)) fun tl H5 htl e5 h5 => ?_
  have hok : ∀ s ∈ ([("index" : Str), "rota", "web", "web"]), Ok s := fun s hs => by
    have : ([("index" : Str), "rota", "web", "web"].all fun s => PyData.canLay0 (.str s)) = true := by decide +kernel
    exact List.all_eq_true.mp this s hs
  have hsh := shaped_strs hok
  have hd5 : Dp K H5 (.ref tl) (.list (([("index" : Str), "rota", "web", "web"]).map PyData.str)) := .lst (sq_of h5) (dpa_strs [("index" : Str), "rota", "web", "web"])
  refine s_ret (ev_opL (ev_var rfl) (el_lst (vs := [.str "index", .str "rota", .str "web", .str "web"]) (ea_cons ev_c (ea_cons ev_c (ea_cons ev_c (ea_cons ev_c ea_nil)))) (by simp)) fun p H6 hp6 e6 => rv_eqD (dp_mono e6 hd5) (.lst (sq_of hp6) (dpa_strs [("index" : Str), "rota", "web", "web"])) hsh hsh) fun H6 e6 => ?_
  rw [SeqAt.eqv_refl _ (SeqAt.canLay_of_shaped hsh)]
  exact q H6 (b04.trans (But.of (e5.trans e6))) (hf4.mono (e5.trans e6))
end
end RW
end

section
set_option maxRecDepth 100000
set_option maxHeartbeats 4000000
/-! plain: the tables of differences as data, short enough to be shown -/
namespace RW
open PySem PySem.Spec PyProof.Rows L2 Evl

abbrev Du := Str × Str × Int
def dueD (e : Du) : PyData := .tuple [.str e.1, .str e.2.1, .int e.2.2]
def duD (l : List Du) : PyData := .list (l.map dueD)
structure Sh (l : List Du) : Prop where
  len : l.length ≤ 100
  mem : ∀ e ∈ l, e.1 ∈ NMS ∧ e.2.1 ∈ NMS ∧ -20 ≤ e.2.2 ∧ e.2.2 ≤ 20
theorem int_short : ∀ i : Int, -20 ≤ i → i ≤ 20 → (PyData.shown (.int i)).length ≤ 10 ∧ i.natAbs.log2 < 1920 := by
  have one : ∀ n : Nat, n ≤ 40 → (PyData.shown (.int ((n : Int) - 20))).length ≤ 10 ∧ ((n : Int) - 20).natAbs.log2 < 1920 := by decide +kernel
  intro i h1 h2
  have := one (i + 20).toNat (by omega)
  have e : (((i + 20).toNat : Nat) : Int) - 20 = i := by omega
  rw [e] at this
  exact this
theorem nms_leaf : ∀ s ∈ NMS, PyData.leavesShort 10 (.str s) = true ∧ s.cps.size ≤ 8 := by decide +kernel
section
variable {l : List Du}
theorem due_lay (h : Sh l) : PyData.canLayAll0 (l.map dueD) = true ∧ PyData.depthAll (l.map dueD) ≤ 1 ∧ PyData.showableAll (l.map dueD) = true ∧ PyData.leavesShortAll 10 (l.map dueD) = true ∧ PyData.bulkAll (l.map dueD) ≤ 20 * l.length := by
  have := h.mem
  clear h
  induction l with
  | nil => exact ⟨rfl, by decide, rfl, rfl, by simp [PyData.bulkAll]⟩
  | cons e t ih =>
    obtain ⟨q1, q2, q3, q4, q5⟩ := ih fun x hx => this x (List.mem_cons_of_mem _ hx)
    obtain ⟨m1, m2, m3, m4⟩ := this e List.mem_cons_self
    obtain ⟨i1, i2⟩ := int_short e.2.2 m3 m4
    have l1 := nm_lay e.1 m1
    have l2 := nm_lay e.2.1 m2
    obtain ⟨b1, c1⟩ := nms_leaf e.1 m1
    obtain ⟨b2, c2⟩ := nms_leaf e.2.1 m2
    refine ⟨?_, ?_, ?_, ?_, ?_⟩
    · show ((PyData.canLay0 (.str e.1) && (PyData.canLay0 (.str e.2.1) && (true && true))) && PyData.canLayAll0 (t.map dueD)) = true
      rw [show PyData.canLay0 (.str e.1) = true from l1, show PyData.canLay0 (.str e.2.1) = true from l2, q1]
      rfl
    · show max (0 + 1) (PyData.depthAll (t.map dueD)) ≤ 1
      omega
    · show ((true && (true && (decide (e.2.2.natAbs.log2 < 1920) && true))) && PyData.showableAll (t.map dueD)) = true
      rw [decide_eq_true i2, q3]
      rfl
    · show ((PyData.leavesShort 10 (.str e.1) && (PyData.leavesShort 10 (.str e.2.1) && (PyData.leavesShort 10 (.int e.2.2) && true))) && PyData.leavesShortAll 10 (t.map dueD)) = true
      rw [b1, b2, q4, show PyData.leavesShort 10 (.int e.2.2) = true by simp only [PyData.leavesShort, decide_eq_true_eq]; exact i1]
      rfl
    · show (e.1.cps.size + 1 + (e.2.1.cps.size + 1 + (0 + 1 + 0))) + 1 + PyData.bulkAll (t.map dueD) ≤ 20 * (t.length + 1)
      omega
theorem due_ok (h : Sh l) : (duD l).showable = true ∧ (duD l).hasDict = false ∧ (duD l).depth ≤ 60 ∧ (duD l).shown.length ≤ sizeLine ∧ SeqAt.shaped (duD l) = true := by
  obtain ⟨q1, q2, q3, q4, q5⟩ := due_lay h
  have hcl : (duD l).canLay0 = true := q1
  refine ⟨q3, PyData.hasDict_of_canLay _ hcl, ?_, ?_, ?_⟩
  · show PyData.depthAll (l.map dueD) + 1 ≤ 60
    omega
  · have := PyData.shown_le_bulk 10 (by decide) (duD l) q4
    have hb : (duD l).bulk ≤ 20 * l.length := q5
    have hl := h.len
    exact Nat.le_trans this (sz_of (by omega))
  · show (PyData.canLayAll0 (l.map dueD) && decide (PyData.depthAll (l.map dueD) + 1 ≤ 64)) = true
    rw [q1, decide_eq_true (by omega)]
    rfl
end
theorem day_le {R : List RdS} {ρ P : List Str} {p q : Str} {n : Nat} (h : RP.dayOf R ρ P p q = some n) : n ≤ P.length + 1 := by
  unfold RP.dayOf at h
  split at h
  · have := Option.some.inj h
    omega
  · cases hl : RP.look (RP.fin R ρ P p) q with
    | none => rw [hl] at h; cases h
    | some t =>
      rw [hl] at h
      have h : t.1 = n := Option.some.inj h
      have := RP.dayS_stamp (R := R) (ρ := ρ) (p := p) P.length _ (RP.look_mem hl)
      rcases this with z | ⟨z, _⟩
      · have z : t.1 < P.length + 1 := z
        omega
      · have z : t.1 = P.length + 1 := z
        omega
theorem due_sh {R : List RdS} {P ρ ρ' : List Str} (hP : P.length ≤ 10) (hn : ∀ s ∈ P, s ∈ NMS) : Sh (RP.due R P ρ ρ') where
  len := by
    have h1 : ∀ l : List Str, (l.flatMap fun p => P.filterMap fun q => RP.cell R P ρ ρ' p q).length ≤ l.length * 10 := by
      intro l
      induction l with
      | nil => simp
      | cons a t ih =>
        rw [List.flatMap_cons, List.length_append, List.length_cons]
        have := List.length_filterMap_le (fun q => RP.cell R P ρ ρ' a q) P
        omega
    have := h1 P
    show (P.flatMap _).length ≤ 100
    omega
  mem := fun e he => by
    obtain ⟨p, hp, he⟩ := List.mem_flatMap.mp he
    obtain ⟨q, hq, he⟩ := List.mem_filterMap.mp he
    unfold RP.cell at he
    split at he
    · cases he
    · have he := Option.some.inj he
      subst he
      have b1 : ∀ o : Option Nat, (∀ n, o = some n → n ≤ P.length + 1) → o.getD 0 ≤ P.length + 1 := fun o h => by
        cases o with
        | none => exact Nat.zero_le _
        | some n => exact h n rfl
      have h1 := b1 _ fun n h => day_le (R := R) (ρ := ρ) (p := p) (q := q) h
      have h2 := b1 _ fun n h => day_le (R := R) (ρ := ρ') (p := p) (q := q) h
      have h3 : -20 ≤ RP.dif (RP.dayOf R ρ P p q) (RP.dayOf R ρ' P p q) ∧ RP.dif (RP.dayOf R ρ P p q) (RP.dayOf R ρ' P p q) ≤ 20 := by
        unfold RP.dif
        omega
      exact ⟨hn p hp, hn q hq, h3.1, h3.2⟩
theorem turned_sh {l : List Du} (h : Sh l) : Sh (RP.turned l) where
  len := by
    unfold RP.turned
    rw [List.length_map]
    exact h.len
  mem := fun e he => by
    obtain ⟨x, hx, rfl⟩ := List.mem_map.mp he
    obtain ⟨h1, h2, h3, h4⟩ := h.mem x hx
    exact ⟨h1, h2, by show -20 ≤ -x.2.2; omega, by show -x.2.2 ≤ 20; omega⟩
theorem dp_due {K : PySem.W.Frag} {H : Hp} : ∀ {vs : List V} {l : List Du}, Paired (IsDu K H) vs l → DpAll K H vs (l.map dueD)
  | _, _, .nil => .nil
  | _, _, .cons ⟨a, e, h⟩ t => by
    subst e
    exact .cons (.tup h (.cons (.str _) (.cons (.str _) (.cons (.int _) .nil)))) (dp_due t)
theorem eqv_nil {l : List Du} : PyData.eqv (duD l) (.list []) = decide (l = []) := by
  cases l with
  | nil => rfl
  | cons e t => exact (decide_eq_false (by simp)).symm
end RW
end

section
set_option maxRecDepth 100000
set_option maxHeartbeats 4000000
/-! the walk of the law's right -/
namespace RW
open PySem PySem.Spec PyProof.Rows L2 Evl

/-- a def called where no repr is under way -/
def CalG (P : Program) (w : World) (K : PySem.W.Frag) (mg : Str → Option Value) (base : Heap) (CX : CXT) (k : Nat) (x : Str) (ps : List Str) (sp : Sp) : Prop :=
  ∃ (f : Addr) (fd : FuncData), FnOkG P w K mg base CX k f fd ps sp ∧ mg x = some (.ref f) ∧ PySem.W.keepIn K (.ref f) = true ∧ Binds K fd ps []
section
variable {P : Program} {w : World} {K : PySem.W.Frag} {mg : Str → Option Value} {base : Heap}
theorem cal_ofG {x : Str} {st : Stmt} {N ps : List Str} {k : Nat} {sp : Sp} (F : HasD K mg x st) (S : FnScope N ps (defScope st)) (len : ∀ vs H Q E, sp vs H Q E → vs.length = ps.length)
    (bd : ∀ (kV doc pm : Value) (an : Option Addr) (cdv ct : Value) (us : List Value), us.length = ps.length → bindArgs (PySem.W.fnOf x x (defArgs st) (defBody st) (defScope st) .none kV doc pm an cdv ct) ⟨us, []⟩ = pure (ps.zip us))
    (body : ∀ (f : Addr) (cdv : Value) (A : Around) (outer : List Env) (s : Shared) (H : Hp) (vs : List V) (Q : VK) (E : XK), (A.deeper (envOfC x (defScope st) s.heap.objs.size f cdv)).guards = some [] → Room k (A.deeper (envOfC x (defScope st) s.heap.objs.size f cdv)) → sp vs H Q E →
      ∃ t, PSs (cxOf CX0 P w K mg base N x (defScope st) f cdv A outer s H E).nox (defBody st) t ∧ t { nx := fun _ H' => Q .non H', rt := Q } (start N vs) H) : CalG P w K mg base CX0 (k + 1) x ps sp := by
  obtain ⟨f, fd, F, g⟩ := F
  exact ⟨f, fd, okG F S len fun cdv A outer s H vs Q E hg hr h => let ⟨t, h1, h2⟩ := body f cdv A outer s H vs Q E hg hr h; ⟨t, h1.nox, h2⟩, g, F.kp, F.binds bd⟩
end
section
variable {K : PySem.W.Frag} {σ : L2.St} {H : Hp} {te ta tb tl : TE} {tr : TA} {x z : V} {r : L2.R2} {d : PyData}
theorem ev_repr {l : List Du} (h : EvD K te σ H (duD l)) (hs : Sh l) : Ev (tCB (rReprD K) (tCons te tNil)) σ H (.str (duD l).shown) := fun H1 e Q q => h H1 e _ fun v H2 e2 hv => by
  obtain ⟨a, xs, rfl, _, _⟩ := dp_lstI hv
  obtain ⟨q1, q2, q3, q4, _⟩ := due_ok hs
  exact ⟨a, duD l, rfl, hv, q1, q2, q3, q4, q H2 e2⟩
theorem ev_opD (ha : Ev ta σ H x) (hb : EvD K tb σ H d) (hr : ∀ v H1, Ex H H1 → Dp K H1 v d → RV r x v H1 z) : Ev (tOp r ta tb) σ H z := fun H1 e Q q =>
  ha H1 e _ fun H2 e2 => hb H2 (e.trans e2) _ fun v H3 e3 hv => hr v H3 ((e.trans e2).trans e3) hv H3 (Ex.refl H3) _ fun H4 e4 => q H4 ((e2.trans e3).trans e4)
/-- a comprehension over a list that stays, a property of each -/
theorem lcL_Q {a : Addr} {xs : List V} {g : TG} {vs : List Nat} {Q : VK} (Pr : Nat → V → Hp → Prop) (h : Ev tl σ H (.ref a)) (hx : SqL K H a xs) (hz : xs.length < 100000) (st : ∀ i v H1 H2, Tp K H1 H2 → Pr i v H1 → Pr i v H2)
    (he : ∀ i x H1 Q, xs[i]? = some x → Ex H H1 → (∀ v H2, Ex H1 H2 → Pr i v H2 → Q v H2) → g x (wipe σ vs) H1 fun σ2 H2 => wipe σ2 vs = wipe σ vs ∧ te σ2 H2 Q)
    (hd : ∀ p H2 ys, H p = none → Ex H H2 → H2 p = some (.lst ys) → ys.length = xs.length → (∀ i v, ys[i]? = some v → Pr i v H2) → Q (.ref p) H2) : tLc (iList K tl) g tYes te vs σ H Q := h H (Ex.refl H) _ fun H1 e1 => ⟨a, rfl, ⟨xs, ex_l e1 hx⟩, fun D hD => by
  refine lc_list (K := K) (a := a) (xs := xs) (Qd := fun H => Q (.ref D) H) (fun i H' => Ex H1 H' ∧ ∃ ys, H' D = some (.lst ys) ∧ ys.length = i ∧ ∀ k v, ys[k]? = some v → Pr k v H') ⟨Ex.mut (Ex.refl H1) hD, [], upd_same, rfl, by simp⟩ (fun i H' _ p => ex_l (e1.trans p.1) hx) (fun i x H' hi p => ?_) (fun H' p => ?_)
  · obtain ⟨e2, ys, h1, h2, hp⟩ := p
    have hlt : i < xs.length := (List.getElem?_eq_some_iff.mp hi).1
    refine he i x H' (fun y H4 => ∃ acc, H4 D = some (.lst acc) ∧ acc.length < sizeLine ∧ (Ex H1 (upd H4 D (.lst (acc ++ [y]))) ∧ ∃ ys, upd H4 D (.lst (acc ++ [y])) D = some (.lst ys) ∧ ys.length = i + 1 ∧ ∀ k v, ys[k]? = some v → Pr k v (upd H4 D (.lst (acc ++ [y]))))) hi (e1.trans e2) fun v H2 e3 hv => ⟨ys, e3 _ _ h1, sz_lt (by omega), Ex.mut (e2.trans e3) hD, ys ++ [v], upd_same, by simp [h2], fun k u hk => ?_⟩
    have tp : Tp K H2 (upd H2 D (.lst (ys ++ [v]))) := Tp.lst (e3 _ _ h1)
    by_cases hlt2 : k < ys.length
    · rw [List.getElem?_append_left hlt2] at hk
      exact st k u _ _ ((Tp.of e3).trans tp) (hp k u hk)
    · rw [List.getElem?_append_right (by omega)] at hk
      have hk0 : k - ys.length = 0 := by
        have := (List.getElem?_eq_some_iff.mp hk).1
        simp at this
        omega
      rw [hk0] at hk
      have : v = u := by simpa using hk
      subst this
      have : k = i := by omega
      subst this
      exact st k v _ _ tp hv
  · obtain ⟨e2, ys, h1, h2, hp⟩ := p
    exact hd D H' ys (fresh_back e1 hD) (e1.trans e2) h1 h2 hp⟩
/-- what the law has in hand -/
structure Hand (K : PySem.W.Frag) (H : Hp) (a b : Addr) (Pl ρ : List Str) (R : List RdS) (i : Nat) (r s : Str) : Prop where
  gd : Gd K H a Pl R
  pl : Plain Pl R
  rt : SqT K H b (ρ.map V.str)
  pm : ρ.Perm (R.map (·.1))
  hr : ρ[i]? = some r
  hs : ρ[i + 1]? = some s
theorem Hand.mono {H' : Hp} {a b : Addr} {Pl ρ : List Str} {R : List RdS} {i : Nat} {r s : Str} (h : Hand K H a b Pl ρ R i r s) (t : Tp K H H') : Hand K H' a b Pl ρ R i r s := ⟨h.gd.mono t, h.pl, t.1 _ _ h.rt, h.pm, h.hr, h.hs⟩
theorem sw_go {C1 C2 C3 : Addr} {a b : Addr} {Pl ρ : List Str} {R : List RdS} {i : Nat} {r s : Str} {Q : VK} {E : XK} (h : Hand K H a b Pl ρ R i r s)
    (k : ∀ p H2 vs, H p = none → Ex H H2 → H2 p = some (.lst vs) → Paired (IsDu K H2) vs (RP.due R Pl ρ (RP.swp ρ i r s)) → Q (.ref p) H2) : spSwap K C1 C2 C3 [.ref a, .ref b, .int i] H Q E := by
  have hlR : ρ.length = R.length := by simpa using h.pm.length_eq
  have hR14 := h.pl.lenR
  have hns : ∀ s ∈ R.map (·.1), s ∈ NMS := fun s hs => by
    obtain ⟨r, hr, rfl⟩ := List.mem_map.mp hs
    exact h.pl.nmR r hr
  refine ⟨.ref a, .ref b, .int i, .tuple [.tuple (pd Pl), .tuple (rds R)], .tuple (pd ρ), .int i, rfl, dp_webD h.gd.wb, sm_web h.pl, dp_strs h.rt, sm_tup (by simp [pd]; omega) (sm_all fun s hs => short_nms (hns s (h.pm.mem_iff.mp hs))), .int i, .inr ⟨web_good h.pl, a, Pl, R, rfl, h.gd, .inr ⟨ρ, rfl, rota_good h.pm h.pl.ndR, whole_of h.pm h.pl.ndR, .inr ⟨i, r, s, rfl, h.hr, h.hs, k⟩⟩⟩⟩
theorem ed_sw {C1 C2 C3 : Addr} {a b : Addr} {Pl ρ : List Str} {R : List RdS} {i : Nat} {r s : Str} {E : XK} (ha : EvA tr σ H [.ref a, .ref b, .int i]) (h : Hand K H a b Pl ρ R i r s) : EvD K (tCall (spSwap K C1 C2 C3) [] E tr) σ H (duD (RP.due R Pl ρ (RP.swp ρ i r s))) := fun H1 e Q q =>
  ha H1 e _ fun H2 e2 => sw_go (h.mono (Tp.of (e.trans e2))) fun p H3 vs hp e3 h3 hP => q (.ref p) H3 (e2.trans e3) (.lst (sq_of h3) (dp_due hP))
theorem ed_swK {C1 C2 C3 : Addr} {a b : Addr} {Pl ρ : List Str} {R : List RdS} {i : Nat} {r s : Str} {ES : L2.St → XK} (ha : EvA tr σ H [.int i, .ref a, .ref b]) (h : Hand K H a b Pl ρ R i r s) : EvD K (tCallKS (spSwap K C1 C2 C3) gIWR ES tr) σ H (duD (RP.due R Pl ρ (RP.swp ρ i r s))) := fun H1 e Q q =>
  ha H1 e _ fun H2 e2 => sw_go (h.mono (Tp.of (e.trans e2))) fun p H3 vs hp e3 h3 hP => q (.ref p) H3 (e2.trans e3) (.lst (sq_of h3) (dp_due hP))
end
section
variable {P : Program} {w : World} {K : PySem.W.Frag} {mg : Str → Option Value} {base : Heap}
def spRight (K : PySem.W.Frag) : Sp := fun vs H Q _ => ∃ (a b : Addr) (Pl ρ : List Str) (R : List RdS) (i : Nat) (r s : Str) (t : Bool), vs = [.ref a, .ref b, .int i, .bl t] ∧ Hand K H a b Pl ρ R i r s ∧ (t = true → RP.Tree R Pl) ∧ Rv (.bl true) H Q
theorem c_right {C1 C2 C3 : Addr} (Z : Frees mg) (hWDue : Cal P w K mg base CX0 4 "_law_due" ["_law_web_here", "_law_rota_here", "_law_at"] (spDue K)) (hSwapDays : CalK P w K mg base (L2.CX P w) 6 "swap_days" sSwapDays ["web", "rota", "index"] (spSwap K C1 C2 C3)) (hWSwapped : Cal P w K mg base CX0 1 "_law_swapped" ["_law_rota_here", "_law_at"] (spExch K))
    (hWApart : Cal P w K mg base CX0 1 "_law_apart" ["_law_web_here", "_law_one_here", "_law_other"] (spApart K)) (hWTreeDue : Cal P w K mg base CX0 2 "_law_tree_due" ["_law_web_here", "_law_rota_here", "_law_at"] (spTreeDue K)) (F : HasD K mg "_law_right" sWRight) : CalG P w K mg base CX0 7 "_law_right" ["_law_web_here", "_law_rota_here", "_law_at", "_law_is_tree"] (spRight K) := by
  obtain ⟨_, _, GWDue, gWDue, kWDue, bWDue⟩ := hWDue
  obtain ⟨_, _, GSwapDays, gSwapDays, kSwapDays, bSwapDays, FS⟩ := hSwapDays
  obtain ⟨_, _, GWSwapped, gWSwapped, kWSwapped, bWSwapped⟩ := hWSwapped
  obtain ⟨_, _, GWApart, gWApart, kWApart, bWApart⟩ := hWApart
  obtain ⟨_, _, GWTreeDue, gWTreeDue, kWTreeDue, bWTreeDue⟩ := hWTreeDue
  have kb := kb_iwr FS
  refine cal_ofG F scWRight (fun vs H Q E ⟨_, _, _, _, _, _, _, _, _, e, _⟩ => by rw [e]; rfl) (fun _ _ _ _ _ _ us hl => match us, hl with | [_, _, _, _], _ => rfl) fun f cdv A outer s H vs Q E hgd hr h => ?_
  obtain ⟨a, b, Pl, ρ, R, i, r, s', t, rfl, hd, hT, q⟩ := h
  have hu := hu_of hr
  refine ⟨_, (pss_cons (ps_set (i := 4) scWRight.nd rfl (.inl rfl) (pe_call GWDue (hr.mono (by decide)) (by rfl) gWDue kWDue bWDue .nil pass0 (pa_cons (pv 0) (pa_cons (pv 1) (pa_cons (pv 2) pa_nil)))))
    (pss_cons (ps_set (i := 5) scWRight.nd rfl (.inl rfl) (pe_call GSwapDays (hr.mono (by decide)) (by rfl) gSwapDays kSwapDays bSwapDays .nil passL (pa_cons (pv 0) (pa_cons (pv 1) (pa_cons (pv 2) pa_nil)))))
    (pss_cons (ps_if (PW.pt (pw_or (pt_cmpR op_ne (pe_callB (call_reprD hgd hr.units) (by rfl) Z.repr_ (by decide +kernel) (pa_cons (pv 5) pa_nil)) (pe_callB (call_reprD hgd hr.units) (by rfl) Z.repr_ (by decide +kernel) (pa_cons (pv 4) pa_nil)) (nomark _)) (pw_or1 (pt_cmpR op_ne (pe_callB (call_reprD hgd hr.units) (by rfl) Z.repr_ (by decide +kernel) (pa_cons (pe_callKS (ES := fun _ => E0) GSwapDays (hr.mono (by decide)) (by rfl) gSwapDays kSwapDays kb (fun σ pins H s e s' I c => passL pins σ H s e s' I c) (pk_cons (pv 2) (pk_cons (pv 0) (pk_cons (pv 1) pk_nil)))) pa_nil)) (pe_callB (call_reprD hgd hr.units) (by rfl) Z.repr_ (by decide +kernel) (pa_cons (pv 4) pa_nil)) (nomark _)))))
      (pss_one (ps_ret pe_bl)) pss_nil)
    (pss_cons (ps_expr (pe_bm PySem.F.plainAttrs_list PySem.F.slot_list_append PySem.F.type_list_append mt_append (pv 5) (pa_cons pe_str pa_nil)))
    (pss_cons (ps_set (i := 6) scWRight.nd rfl (.inl rfl) (pe_call GSwapDays (hr.mono (by decide)) (by rfl) gSwapDays kSwapDays bSwapDays .nil passL (pa_cons (pv 0) (pa_cons (pe_call GWSwapped (hr.mono (by decide)) (by rfl) gWSwapped kWSwapped bWSwapped .nil pass0 (pa_cons (pv 1) (pa_cons (pv 2) pa_nil))) (pa_cons (pv 2) pa_nil)))))
    (pss_cons (ps_setLc (own := [("_law_place", 8), ("_law_other", 9), ("_law_more", 10)]) (g := (gTup K 3 (gCons (gName 8) (gCons (gName 9) (gCons (gName 10) gNil))))) (tt := tYes) (i := 7) (by rfl) scWRight.nd rfl rfl (sw_true rfl rfl rfl (by decide +kernel)) (pi_list (pv 4)) (blkOk_by (own := [("_law_place", 8), ("_law_other", 9), ("_law_more", 10)]) (N := nWRight) (sc := defScope sWRight) (by decide +kernel)) (fun _ _ _ _ _ => (pg_tup (n := 3) (by rfl) (pgs_cons (pg_name (i := 8) scWRight.nd rfl (.inl rfl)) (pgs_cons (pg_name (i := 9) scWRight.nd rfl (.inl rfl)) (pgs_cons (pg_name (i := 10) scWRight.nd rfl (.inl rfl)) pgs_nil))))) (fun _ _ _ _ _ => pts_nil) (fun _ _ _ _ _ => (pe_tup (pa_cons (pv 8) (pa_cons (pv 9) (pa_cons (pe_un un_neg (pv 10)) pa_nil))))))
    (pss_cons (ps_if (PW.pt (pw_or (pt_cmpR op_ne (pe_callB (call_reprD hgd hr.units) (by rfl) Z.repr_ (by decide +kernel) (pa_cons (pv 6) pa_nil)) (pe_callB (call_reprD hgd hr.units) (by rfl) Z.repr_ (by decide +kernel) (pa_cons (pv 7) pa_nil)) (nomark _)) (pw_or1 (pt_cmpR op_ne (pe_callB (call_reprD hgd hr.units) (by rfl) Z.repr_ (by decide +kernel) (pa_cons (pe_call GSwapDays (hr.mono (by decide)) (by rfl) gSwapDays kSwapDays bSwapDays .nil passL (pa_cons (pv 0) (pa_cons (pv 1) (pa_cons (pv 2) pa_nil)))) pa_nil)) (pe_callB (call_reprD hgd hr.units) (by rfl) Z.repr_ (by decide +kernel) (pa_cons (pv 4) pa_nil)) (nomark _)))))
      (pss_one (ps_ret pe_bl)) pss_nil)
    (pss_cons (ps_if (PW.pt (pw_and (pt_val (pe_call GWApart (hr.mono (by decide)) (by rfl) gWApart kWApart bWApart .nil pass0 (pa_cons (pv 0) (pa_cons (pe_ix (ix_tup : IxR _ (rIxT K)) (pv 1) (pv 2) (fun _ _ => rfl)) (pa_cons (pe_ix (ix_tup : IxR _ (rIxT K)) (pv 1) (pe_op op_add (pv 2) pe_int) (fun _ _ => rfl)) pa_nil))))) (pw_and1 (pt_cmpR (op_neD hr.units) (pv 4) (pe_lst pa_nil) (nomark _)))))
      (pss_one (ps_ret pe_bl)) pss_nil)
    (pss_one (ps_ret (pe_or (pe_not (pv 3)) (pe_one (pe_and (pe_cmpR (op_eqD hr.units) (pv 4) (pe_call GWTreeDue (hr.mono (by decide)) (by rfl) gWTreeDue kWTreeDue bWTreeDue .nil pass0 (pa_cons (pv 0) (pa_cons (pv 1) (pa_cons (pv 2) pa_nil)))) (nomark _)) (pe_one (pe_cmpR op_eq (pe_callB (cr_sum rfl : CallR _ (.builtin "sum") (rSum K)) (by rfl) Z.sum_ (by decide +kernel) (pa_cons (pe_lc (own := [("_law_row", 11)]) (g := (gName 11)) (tt := tYes) (by rfl) scWRight.nd (pi_list (pv 4)) (blkOk_by (own := [("_law_row", 11)]) (N := nWRight) (sc := defScope sWRight) (by decide +kernel)) (fun _ _ _ _ _ => (pg_name (i := 11) scWRight.nd rfl (.inl rfl))) (fun _ _ _ _ _ => pts_nil) (fun _ _ _ _ _ => (pe_ix (ix_tup : IxR _ (rIxT K)) (pv 11) pe_int (fun _ _ => rfl)))) pa_nil)) pe_int (nomark _)))))))))))))))), ?_⟩
  have hil : i + 1 < ρ.length := (List.getElem?_eq_some_iff.mp hd.hs).1
  have hlR : ρ.length = R.length := by simpa using hd.pm.length_eq
  have hR14 := hd.pl.lenR
  have hW := whole_of hd.pm hd.pl.ndR
  have hP := hd.gd.inP
  have hok : ∀ p ∈ Pl, Ok p := fun p hp => nm_lay p (hd.pl.nmP p hp)
  have look : ∀ {x : Str}, x ∈ ρ → ∃ e, RP.look R x = some e := fun hx => by
    have := RP.has_iff.mpr (hW.sub _ hx)
    unfold RP.has at this
    exact Option.isSome_iff_exists.mp this
  obtain ⟨⟨x1, y1⟩, hl1⟩ := look (List.mem_of_getElem? hd.hr)
  obtain ⟨⟨x2, y2⟩, hl2⟩ := look (List.mem_of_getElem? hd.hs)
  obtain ⟨ap, hap⟩ : ∃ ap : Bool, (ap = true ↔ RP.Apart x1 y1 x2 y2) := by
    by_cases z : RP.Apart x1 y1 x2 y2
    · exact ⟨true, fun _ => z, fun _ => rfl⟩
    · exact ⟨false, fun y => (by cases y), fun y => absurd y z⟩
  have hsh : Sh (RP.due R Pl ρ (RP.swp ρ i r s')) := due_sh hd.pl.lenP hd.pl.nmP
  have hap0 : ap = true → RP.due R Pl ρ (RP.swp ρ i r s') = [] := fun z => by
    obtain ⟨z1, z2, z3, z4⟩ := hap.mp z
    exact RP.due_nil fun p _ q _ => RP.apart_days hW hd.hr hd.hs hl1 hl2 z1 z2 z3 z4 p q
  have hpm2 : (RP.swp ρ i r s').Perm (R.map (·.1)) := (RP.swp_perm hd.hr hd.hs).trans hd.pm
  have hbk : RP.due R Pl (RP.swp ρ i r s') (RP.swp (RP.swp ρ i r s') i s' r) = RP.turned (RP.due R Pl ρ (RP.swp ρ i r s')) := by
    rw [RP.swp_swp hd.hr hd.hs]
    exact RP.due_back R Pl ρ (RP.swp ρ i r s')
  have htree : t = true → RP.due R Pl ρ (RP.swp ρ i r s') = RP.treeDue R Pl r s' ap := fun z => RP.due_tree hW hP (hT z) hd.hr hd.hs hl1 hl2 hap
  have hsum : t = true → ((RP.due R Pl ρ (RP.swp ρ i r s')).map (·.2.2)).sum = 0 := fun z => RP.due_sum hW hP (hT z) hd.hr hd.hs
  -- due, told
  refine q_call (ea_cons (ev_var rfl) (ea_cons (ev_var rfl) (ea_cons (ev_var rfl) ea_nil))) fun H1 e1 => ⟨a, b, Pl, ρ, R, i, r, s', rfl, hd.gd.mono (Tp.of e1), hd.pl.ne0, ex_t e1 hd.rt, hW, by omega, hd.hr, hd.hs, fun dl H2 vsD hdl e2 h2 hD => ?_⟩
  have e02 := e1.trans e2
  generalize hDD : RP.due R Pl ρ (RP.swp ρ i r s') = DD at *
  refine q_call (ea_cons (ev_var rfl) (ea_cons (ev_var rfl) (ea_cons (ev_var rfl) ea_nil))) fun H3 e3 => sw_go (hd.mono (Tp.of (e02.trans e3))) fun tl H4 vsT htl e4 h4 hT4 => ?_
  rw [hDD] at hT4
  have e24 := e3.trans e4
  have htl2 : H2 tl = none := fresh_back e3 htl
  have hdD : Dp K H2 (.ref dl) (duD DD) := .lst (sq_of h2) (dp_due hD)
  have hdT : Dp K H4 (.ref tl) (duD DD) := .lst (sq_of h4) (dp_due hT4)
  have hd4 := hd.mono (Tp.of (K := K) (e02.trans e24))
  have swD : ∀ {σ : L2.St} {H' : Hp} {tr : TA} {E : XK}, Ex H2 H' → EvA tr σ H' [.ref a, .ref b, .int i] → EvD K (tCall (spSwap K C1 C2 C3) [] E tr) σ H' (duD DD) := fun {_ _ _ EX} e h => by
    have := ed_sw (E := EX) (C1 := C1) (C2 := C2) (C3 := C3) (K := K) h (hd.mono (Tp.of (e02.trans e)))
    rw [hDD] at this
    exact this
  have swK : ∀ {σ : L2.St} {H' : Hp} {tr : TA} {ES : L2.St → XK}, Ex H2 H' → EvA tr σ H' [.int i, .ref a, .ref b] → EvD K (tCallKS (spSwap K C1 C2 C3) gIWR ES tr) σ H' (duD DD) := fun {_ _ _ EX} e h => by
    have := ed_swK (ES := EX) (C1 := C1) (C2 := C2) (C3 := C3) (K := K) h (hd.mono (Tp.of (e02.trans e)))
    rw [hDD] at this
    exact this
  have neF : ∀ x : Str, (!decide (V.str x = V.str x)) = false := fun x => by simp
  refine q_when (b := false) (et_or (a := false) (b := false) (et_is (et_test (ev_op (ev_repr (ed_var rfl hdT) hsh) (ev_repr (ed_var rfl (dp_mono e24 hdD)) hsh) (rv_ne rfl))) (neF _)) fun _ => et_is (et_test (ev_op (ev_repr (swK e24 (ea_cons (ev_var rfl) (ea_cons (ev_var rfl) (ea_cons (ev_var rfl) ea_nil)))) hsh) (ev_repr (ed_var rfl (dp_mono e24 hdD)) hsh) (rv_ne rfl))) (neF _)) (fun z => by cases z) (fun _ H5 e5 => ?_)
  -- told.append('spoilt')
  have hvT : vsT.length < 100000 := by
    have := paired_len hT4
    have := hsh.len
    omega
  refine q_of (s_app (e5 _ _ h4) (ev_var rfl) ev_c hvT fun H6 e6 => ?_)
  have e27 : Ex H2 (L2.upd H6 tl (.lst (vsT ++ [.str "spoilt"]))) := Ex.mut (e24.trans (e5.trans e6)) htl2
  generalize L2.upd H6 tl (.lst (vsT ++ [.str "spoilt"])) = H7 at e27
  -- back
  refine q_callP (eap_v (ev_var rfl) (eap_p (P0 := fun v H => ∃ p, v = .ref p ∧ SqT K H p ((RP.swp ρ i r s').map V.str)) (ep_call (ea_cons (ev_var rfl) (ea_cons (ev_var rfl) ea_nil)) fun H8 e8 Q' k' => ⟨b, ρ, i, r, s', rfl, ex_t (e02.trans (e27.trans e8)) hd.rt, by omega, hd.hr, hd.hs, fun p H9 e9 hp => k' _ H9 e9 ⟨p, rfl, hp⟩⟩) (fun v H1 H2 e ⟨p, h1, h2⟩ => ⟨p, h1, ex_t e h2⟩) (eap_v (ev_var rfl) eap_nil))) fun vs H8 e8 hvs => ?_
  obtain ⟨_, rfl, _, _, rfl, ⟨b2, rfl, hb2⟩, _, rfl, rfl⟩ := hvs
  have e28 := e27.trans e8
  refine sw_go (ρ := RP.swp ρ i r s') (r := s') (s := r) ⟨hd.gd.mono (Tp.of (e02.trans e28)), hd.pl, hb2, hpm2, RP.swp_get0 hil, RP.swp_get1 hil⟩ fun bl H9 vsB hbl e9 h9 hB => ?_
  rw [hbk] at hB
  have e29 := e28.trans e9
  have hdB : Dp K H9 (.ref bl) (duD (RP.turned DD)) := .lst (sq_of h9) (dp_due hB)
  have hvD := paired_len hD
  have hDl := hsh.len
  -- turned
  refine q_of ?_
  refine lcL_Q (K := K) (fun k v H' => ∃ e, (RP.turned DD)[k]? = some e ∧ IsDu K H' v e) (ev_var rfl) (sq_of (e29 _ _ h2)) (by omega) (fun k v H1 H2 tp ⟨e, h1, h2⟩ => ⟨e, h1, h2.mono tp⟩) (fun k x H10 Q2 hx e10 k2 => ?_) fun ul H10 vsU hul e10 h10 hlU hPU => ?_
  · obtain ⟨e, he, t', rfl, ht'⟩ := paired_at' hD hx
    refine g_three (ex_t (e29.trans e10) ht') ⟨rfl, ?_⟩
    refine (eu_tup (ea_cons (ev_var rfl) (ea_cons (ev_var rfl) (ea_cons (ev_un (ev_var rfl) ru_neg) ea_nil))) (by simp)) H10 (Ex.refl H10) _ fun p H11 _ e11 h11 => ?_
    refine k2 _ H11 e11 ⟨(e.1, e.2.1, -e.2.2), ?_, p, rfl, st_of h11⟩
    unfold RP.turned
    rw [List.getElem?_map, he]
    rfl
  have hU : Paired (IsDu K H10) vsU (RP.turned DD) := paired_of (by rw [hlU, hvD]; simp [RP.turned]) fun k v e hv he => by
    obtain ⟨e', h1, h2⟩ := hPU k v hv
    rw [he] at h1
    cases h1
    exact h2
  have hdU : Dp K H10 (.ref ul) (duD (RP.turned DD)) := .lst (sq_of h10) (dp_due hU)
  have e210 := e29.trans e10
  refine q_when (b := false) (et_or (a := false) (b := false) (et_is (et_test (ev_op (ev_repr (ed_var rfl (dp_mono e10 hdB)) (turned_sh hsh)) (ev_repr (ed_var rfl hdU) (turned_sh hsh)) (rv_ne rfl))) (neF _)) fun _ => et_is (et_test (ev_op (ev_repr (swD e210 (ea_cons (ev_var rfl) (ea_cons (ev_var rfl) (ea_cons (ev_var rfl) ea_nil)))) hsh) (ev_repr (ed_var rfl (dp_mono e210 hdD)) hsh) (rv_ne rfl))) (neF _)) (fun z => by cases z) (fun _ H11 e11 => ?_)
  have e211 := e210.trans e11
  have hri : (ρ.map V.str)[i]? = some (.str r) := by rw [List.getElem?_map, hd.hr]; rfl
  have hsi : (ρ.map V.str)[i + 1]? = some (.str s') := by rw [List.getElem?_map, hd.hs]; rfl
  refine q_when (b := false) (et_is (et_and (a := ap) (b := false) (et_test (ev_call (ea_cons (ev_var rfl) (ea_cons (ev_op (ev_var rfl) (ev_var rfl) (rv_ixT (ex_t (e02.trans e211) hd.rt) (atI_nat hri))) (ea_cons (ev_op (ev_var rfl) (ev_op (ev_var rfl) ev_c rv_I0) (rv_ixT (ex_t (e02.trans e211) hd.rt) (atI_nat hsi))) ea_nil))) (fun H1 e Q' k' _ => ⟨a, Pl, R, r, s', x1, y1, x2, y2, rfl, hd.gd.mono (Tp.of (e02.trans (e211.trans e))), hok, hl1, hl2, fun b' hb' => by
      have : b' = ap := Bool.eq_iff_iff.mpr (hb'.trans hap.symm)
      rw [this]
      exact k'⟩))) fun hz => et_is (et_test (ev_opL (ev_var rfl) (el_lst ea_nil (by simp)) fun p H12 hp e12 => rv_neD (dp_mono (e211.trans e12) hdD) (.lst (sq_of hp) .nil) (due_ok hsh).2.2.2.2 shaped_nil)) (by rw [eqv_nil, hap0 hz]; rfl)) (by cases ap <;> rfl)) (fun z => by cases z) (fun _ H12 e12 => ?_)
  have e212 := e211.trans e12
  refine s_ret (v := .bl true) (ev_is (ev_orV (a := !t) (b := true) (ev_notV (ev_var rfl)) fun hz => ?_) (by cases t <;> rfl)) fun H13 e13 => q H13 (e02.trans (e212.trans e13))
  have ht : t = true := by simpa using hz
  refine ev_is (ev_andV (a := true) (b := true) (ev_opD (K := K) (d := duD DD) (ev_var rfl) (fun H13 e13 Q3 q3 => ?_) fun v H13 e13 hv => ?_) fun _ => ev_is (ev_op (ev_sumN (ns := DD.map (·.2.2)) (el_lcLy ((DD.map (·.2.2)).map V.int) (ev_var rfl) (sq_of (e212 _ _ h2)) (by omega) (by simp [hvD]) (fun _ => rfl) fun k x y H13 e13 hx hy => ?_)) ev_c (rv_eq rfl)) (by rw [hsum ht]; rfl)) rfl
  · refine (ea_cons (ev_var rfl) (ea_cons (ev_var rfl) (ea_cons (ev_var rfl) ea_nil)) : EvA (tCons (tVar 0) (tCons (tVar 1) (tCons (tVar 2) tNil))) _ H13 [.ref a, .ref b, .int i]) H13 (Ex.refl H13) _ fun H14 e14 => ?_
    have e014 := e02.trans (e212.trans (e13.trans e14))
    refine ⟨a, b, Pl, ρ, R, i, r, s', x1, y1, x2, y2, rfl, hd.gd.mono (Tp.of e014), hok, ex_t e014 hd.rt, hT ht, hd.hr, hd.hs, hl1, hl2, ap, hap, fun p H15 vs hp e15 h15 hPt => q3 (.ref p) H15 (e14.trans e15) ?_⟩
    rw [← htree ht] at hPt
    exact .lst (sq_of h15) (dp_due hPt)
  · have := rv_eqD (dp_mono (e212.trans e13) hdD) hv (due_ok hsh).2.2.2.2 (due_ok hsh).2.2.2.2
    rwa [SeqAt.eqv_refl _ (SeqAt.canLay_of_shaped (due_ok hsh).2.2.2.2)] at this
  · obtain ⟨e, he, t', rfl, ht'⟩ := paired_at' hD hx
    rw [List.getElem?_map, List.getElem?_map, he] at hy
    cases hy
    exact ev_op (ev_var rfl) ev_c (rv_ixT (ex_t (e212.trans e13) ht') rfl)
end
end RW
end

section
set_option maxRecDepth 100000
set_option maxHeartbeats 4000000
/-! the walk of the law -/
namespace RW
open PySem PySem.Spec PyProof.Rows L2 Evl

theorem ex_but {F : Addr} {H H1 H2 : Hp} (h : H F = none) (e : Ex H H1) (b : But F H1 H2) : Ex H H2 := fun a o ha => b a o (ne_of_none ha h) (e _ _ ha)
theorem sub_paired {K : PySem.W.Frag} {H : Hp} : ∀ {rs : List V} {R : List RdS} (p : V → Bool), Paired (IsRd K H) rs R → ∃ R' : List RdS, R'.Sublist R ∧ Paired (IsRd K H) (rs.filter p) R'
  | _, _, _, .nil => ⟨[], List.Sublist.refl _, .nil⟩
  | v :: rs, r :: R, p, .cons h t => by
    obtain ⟨R', h1, h2⟩ := sub_paired p t
    cases hp : p v with
    | true => exact ⟨r :: R', h1.cons_cons r, by rw [List.filter_cons, if_pos hp]; exact .cons h h2⟩
    | false => exact ⟨R', h1.cons r, by rw [List.filter_cons, if_neg (by rw [hp]; decide)]; exact h2⟩
theorem plain_sub {P : List Str} {R R' : List RdS} (h : Plain P R) (s : R'.Sublist R) : Plain P R' :=
  ⟨h.ne0, h.lenP, Nat.le_trans s.length_le h.lenR, h.ndP, (s.map _).nodup h.ndR, h.nmP, fun r hr => h.nmR r (s.subset hr), fun r hr => h.ends r (s.subset hr), fun r hr => h.apart r (s.subset hr)⟩
theorem gd_of {K : PySem.W.Frag} {H : Hp} {a : Addr} {P : List Str} {R : List RdS} (w : IsWb K H a P R) (h : Plain P R) : Gd K H a P R :=
  ⟨w, h.ndR, ⟨h.ndP, fun r x y hm => h.ends (r, x, y) hm⟩, h.lenR, h.lenP⟩
section
variable {P : Program} {w : World} {K : PySem.W.Frag} {mg : Str → Option Value} {base : Heap}
def rMin2 : List V → Hp → VK → Prop := fun xs H Q => ∃ i j, xs = [.int i, .int j] ∧ Q (.int (if j < i then j else i)) H
theorem ev_min2 {σ : L2.St} {H : Hp} {ta tb : TE} {i j : Int} (ha : Ev ta σ H (.int i)) (hb : Ev tb σ H (.int j)) : Ev (tCB rMin2 (tCons ta (tCons tb tNil))) σ H (.int (if j < i then j else i)) := fun H1 e Q q =>
  ha H1 e _ fun H2 e2 => hb H2 (e.trans e2) _ fun H3 e3 => ⟨i, j, rfl, q H3 (e2.trans e3)⟩
theorem web_go {H : Hp} {E : XK} {Q : VK} {F : Addr} {n many more : Nat} (hF : Feed F H n) (h1 : 1 ≤ many) (h2 : many ≤ 10) (h3 : more ≤ 5) (hn : n ≤ 100000)
    (k : ∀ p H2 Pl R, But F H H2 → Feed F H2 (n + 200) → Gd K H2 p Pl R → GenWeb Pl R → Pl.length = many → (more = 0 → RP.Tree R Pl) → Q (.ref p) H2) : spWeb K [.ref F, .int many, .int more] H Q E := ⟨F, many, more, n, rfl, h1, h2, h3, hF, hn, k⟩
theorem web_args {σ : L2.St} {H : Hp} {t1 t2 t3 : TE} {E : XK} {Q : VK} {F : Addr} {m2 m3 : Nat} {C2 C3 : Nat → Prop} (h1 : Ev t1 σ H (.ref F))
    (h2 : ∀ H1, Ex H H1 → ∀ Q : VK, (∀ (many : Nat) H2, But F H1 H2 → Feed F H2 m2 → C2 many → Q (.int (many : Int)) H2) → t2 σ H1 Q)
    (h3 : ∀ H2, Feed F H2 m2 → ∀ Q : VK, (∀ (more : Nat) H3, But F H2 H3 → Feed F H3 m3 → C3 more → Q (.int (more : Int)) H3) → t3 σ H2 Q)
    (k : ∀ (many more : Nat) H3, But F H H3 → Feed F H3 m3 → C2 many → C3 more → spWeb K [.ref F, .int many, .int more] H3 Q E) : tCall (spWeb K) [] E (tCons t1 (tCons t2 (tCons t3 tNil))) σ H Q :=
  h1 H (Ex.refl H) _ fun H1 e1 => h2 H1 e1 _ fun many H2 b2 hf2 c2 => h3 H2 hf2 _ fun more H3 b3 hf3 c3 => k many more H3 ((But.of e1).trans (b2.trans b3)) hf3 c2 c3
theorem s_forR1m {σ : L2.St} {H : Hp} {D : Ends} {tu : TS} {ta : TA} {j : Nat} {n : Int} (h : EvA ta σ H [.int n]) (hn : -100000 ≤ n ∧ n ≤ 100000) (Pv : Nat → L2.St → Hp → Prop) (h0 : ∀ H1, Ex H H1 → Pv 0 σ H1)
    (hs : ∀ (i : Nat) σ' H', (i : Int) < n → Pv i σ' H' → tu { D with nx := Pv (i + 1), ct := Pv (i + 1), bk := D.nx } (σ'.set j (some (.int (i : Int)))) H') (hd : ∀ σ' H', Pv n.toNat σ' H' → D.nx σ' H') : tFor (iRng1 ta) (gName j) tu D σ H :=
  h H (Ex.refl H) _ fun H1 e => ⟨n, rfl, by omega, by omega, for_range (lo := 0) (n := n.toNat) Pv (h0 H1 e) (fun i σ' H' hi p => by
    have e0 : (0 : Int) + (i : Int) = (i : Int) := Int.zero_add _
    show tu _ (σ'.set j (some (.int ((0 : Int) + (i : Int))))) H'
    rw [e0]
    exact hs i σ' H' (by omega) p) hd⟩
theorem ref_go {σ : L2.St} {H : Hp} {D : Ends} {tu : TS} {ta : TA} {E : XK} {F a b : Addr} {Pl ρ : List Str} {R : List RdS} {n : Nat} (h : EvA ta σ H [.ref F, .ref a, .ref b]) (hf : Feed F H n) (hn : n ≤ 900000) (hg : Gd K H a Pl R) (hp : Plain Pl R) (hb : SqT K H b (ρ.map V.str)) (hm : ρ.Perm (R.map (·.1)))
    (k : ∀ H2, But F H H2 → D.nx σ H2) : tIfS (tNot (tTest (tCall (spRefused K) [] E ta))) tu tNext D σ H := h H (Ex.refl H) _ fun H1 e1 =>
  ⟨F, a, b, Pl, ρ, R, n, rfl, hf.mono e1, hn, hg.mono (Tp.of e1), hp, ex_t e1 hb, hm, fun H2 b2 _ => ⟨true, rfl, k H2 ((But.of e1).trans b2)⟩⟩
theorem cal_okG {x : Str} {st : Stmt} {N ps : List Str} {k : Nat} {sp : Sp} {f : Addr} {fd : FuncData} (F : Fun K x x st f fd) (S : FnScope N ps (defScope st)) (len : ∀ vs H Q E, sp vs H Q E → vs.length = ps.length)
    (body : ∀ (f : Addr) (cdv : Value) (A : Around) (outer : List Env) (s : Shared) (H : Hp) (vs : List V) (Q : VK) (E : XK), (A.deeper (envOfC x (defScope st) s.heap.objs.size f cdv)).guards = some [] → Room k (A.deeper (envOfC x (defScope st) s.heap.objs.size f cdv)) → sp vs H Q E →
      ∃ t, PSs (cxOf CX0 P w K mg base N x (defScope st) f cdv A outer s H E).nox (defBody st) t ∧ t { nx := fun _ H' => Q .non H', rt := Q } (start N vs) H) : FnOkG P w K mg base CX0 (k + 1) f fd ps sp :=
  okG F S len fun cdv A outer s H vs Q E hg hr h => let ⟨t, h1, h2⟩ := body f cdv A outer s H vs Q E hg hr h; ⟨t, h1.nox, h2⟩
def spLaw (K : PySem.W.Frag) : Sp := fun vs H Q _ => ∃ (a : Addr) (ns : List Int), vs = [.ref a] ∧ SqL K H a (ns.map V.int) ∧ ns.length ≤ 1000 ∧ ∀ H2, Q (.bl true) H2
theorem c_law (Z : Frees mg) (hWFeed : Cal P w K mg base CX0 1 "_law_feed" ["_law_script", "_law_k"] (spFeed K)) (hWDraw : Cal P w K mg base CX0 1 "_law_draw" ["_law_feed_here", "_law_many"] spDraw) (hWSizedWeb : Cal P w K mg base CX0 4 "_law_sized_web" ["_law_feed_here", "_law_many", "_law_more"] (spWeb K))
    (hWRota : Cal P w K mg base CX0 3 "_law_rota" ["_law_feed_here", "_law_web_here"] (spRota K)) (hWRight : CalG P w K mg base CX0 7 "_law_right" ["_law_web_here", "_law_rota_here", "_law_at", "_law_is_tree"] (spRight K))
    (hWRefusedRight : Cal P w K mg base CX0 8 "_law_refused_right" ["_law_feed_here", "_law_web_here", "_law_rota_here"] (spRefused K)) {f0 : Addr} {fd0 : FuncData} (F : Fun K "law" "law" sLaw f0 fd0) : FnOkG P w K mg base CX0 9 f0 fd0 ["_law_script"] (spLaw K) := by
  obtain ⟨_, _, GWFeed, gWFeed, kWFeed, bWFeed⟩ := hWFeed
  obtain ⟨_, _, GWDraw, gWDraw, kWDraw, bWDraw⟩ := hWDraw
  obtain ⟨_, _, GWSizedWeb, gWSizedWeb, kWSizedWeb, bWSizedWeb⟩ := hWSizedWeb
  obtain ⟨_, _, GWRota, gWRota, kWRota, bWRota⟩ := hWRota
  obtain ⟨_, _, GWRight, gWRight, kWRight, bWRight⟩ := hWRight
  obtain ⟨_, _, GWRefusedRight, gWRefusedRight, kWRefusedRight, bWRefusedRight⟩ := hWRefusedRight
  refine cal_okG F scLaw (fun vs H Q E ⟨_, _, e, _⟩ => by rw [e]; rfl) fun f cdv A outer s H vs Q E hgd hr h => ?_
  obtain ⟨a, ns, rfl, ha, hz, q⟩ := h
  refine ⟨_, (pss_cons (ps_for PassesOwn.never rfl (pi_range1 (by rfl) Z.range_ (pa_cons (pe_callB (call_max2 rfl : CallR _ (.builtin "max") Evl.rMax2) (by rfl) Z.max_ (by decide +kernel) (pa_cons pe_int (pa_cons (pe_callB (call_min2 rfl) (by rfl) Z.min_ (by decide +kernel) (pa_cons (pe_callB (call_len_seq : CallR _ (.builtin "len") (Evl.rLenS K)) (by rfl) Z.len_ PySem.boot_len (pa_cons (pv 0) pa_nil)) (pa_cons pe_int pa_nil))) pa_nil))) pa_nil)) (pg_name (i := 1) scLaw.nd rfl (.inl rfl))
      (pss_cons (ps_set (i := 2) scLaw.nd rfl (.inr rfl) (pe_call GWFeed (hr.mono (by decide)) (by rfl) gWFeed kWFeed bWFeed .nil pass0 (pa_cons (pv 0) (pa_cons (pv 1) pa_nil))))
      (pss_cons (ps_set (i := 3) scLaw.nd rfl (.inl rfl) (pe_cmpR op_eq (pe_call GWDraw (hr.mono (by decide)) (by rfl) gWDraw kWDraw bWDraw .nil pass0 (pa_cons (pv 2) (pa_cons pe_int pa_nil))) pe_int (nomark _)))
      (pss_cut (ps_set (i := 4) scLaw.nd rfl (.inl rfl) (pe_call GWSizedWeb (hr.mono (by decide)) (by rfl) gWSizedWeb kWSizedWeb bWSizedWeb .nil pass0 (pa_cons (pv 2) (pa_cons (pe_op op_add pe_int (pe_call GWDraw (hr.mono (by decide)) (by rfl) gWDraw kWDraw bWDraw .nil pass0 (pa_cons (pv 2) (pa_cons pe_int pa_nil)))) (pa_cons (pe_ifExp (pt_val (pv 3)) pe_int (pe_call GWDraw (hr.mono (by decide)) (by rfl) gWDraw kWDraw bWDraw .nil pass0 (pa_cons (pv 2) (pa_cons pe_int pa_nil)))) pa_nil)))))
      (pss_cut (ps_if (pt_not (pt_val (pv 3)))
        (pss_one (ps_set (i := 4) scLaw.nd rfl (.inl rfl) (pe_tup (pa_cons (pe_ix (ix_tup : IxR _ (rIxT K)) (pv 4) pe_int (fun _ _ => rfl)) (pa_cons (pe_callTy call_tuple_of (by rfl) Z.tuple_ (by decide +kernel) (pa_cons (pe_lc (own := [("_law_road", 5)]) (g := (gName 5)) (by rfl) scLaw.nd (pi_tup (pe_ix (ix_tup : IxR _ (rIxT K)) (pv 4) pe_int (fun _ _ => rfl))) (blkOk_by (own := [("_law_road", 5)]) (N := nLaw) (sc := defScope sLaw) (by decide +kernel)) (fun _ _ _ _ _ => (pg_name (i := 5) scLaw.nd rfl (.inl rfl))) (fun _ _ _ _ _ => (pts_one (pt_cmpR op_gt (pe_call GWDraw (hr.mono (by decide)) (by rfl) gWDraw kWDraw bWDraw .nil pass0 (pa_cons (pv 2) (pa_cons pe_int pa_nil))) pe_int (nomark _)))) (fun _ _ _ _ _ => (pv 5))) pa_nil)) pa_nil))))) pss_nil)
      (pss_cons (ps_set (i := 6) scLaw.nd rfl (.inl rfl) (pe_call GWRota (hr.mono (by decide)) (by rfl) gWRota kWRota bWRota .nil pass0 (pa_cons (pv 2) (pa_cons (pv 4) pa_nil))))
      (pss_cons (ps_for PassesOwn.never rfl (pi_range1 (by rfl) Z.range_ (pa_cons (pe_op op_sub (pe_callB (call_len_seq : CallR _ (.builtin "len") (Evl.rLenS K)) (by rfl) Z.len_ PySem.boot_len (pa_cons (pv 6) pa_nil)) pe_int) pa_nil)) (pg_name (i := 7) scLaw.nd rfl (.inl rfl))
        (pss_one (ps_if (pt_not (pt_val (pe_callG GWRight hgd (hr.mono (by decide)) (by rfl) gWRight kWRight bWRight pass0 (pa_cons (pv 4) (pa_cons (pv 6) (pa_cons (pv 7) (pa_cons (pv 3) pa_nil)))))))
          (pss_one (ps_ret pe_bl)) pss_nil)))
      (pss_one (ps_if (pt_not (pt_val (pe_call GWRefusedRight (hr.mono (by decide)) (by rfl) gWRefusedRight kWRefusedRight bWRefusedRight .nil pass0 (pa_cons (pv 2) (pa_cons (pv 4) (pa_cons (pv 6) pa_nil))))))
        (pss_one (ps_ret pe_bl)) pss_nil)))))))))
    (pss_one (ps_ret pe_bl))), ?_⟩
  refine q_of (s_forR1 (ea_cons (ev_max2 ev_c (ev_min2 (ev_len (ev_var rfl) ha) ev_c)) ea_nil) ?_ (fun k σ' H' => ∃ (o1 o2 o3 o4 o6 o7 : Option V), σ' = [some (.ref a), o1, o2, o3, o4, none, o6, o7] ∧ Ex H H') (fun H1 e1 => ⟨none, none, none, none, none, none, rfl, e1⟩) ?_ ?_)
  · rw [List.length_map]
    split <;> split <;> omega
  · rintro k σ' H0 hk ⟨o1, o2, o3, o4, o6, o7, rfl, e0⟩
    have hk3 : k < 1000 := by
      rw [List.length_map] at hk
      split at hk <;> split at hk <;> omega
    -- feed
    refine q_call (ea_cons (ev_var rfl) (ea_cons (ev_var rfl) ea_nil)) fun H1 e1 => ⟨a, ns, k, rfl, ex_l (e0.trans e1) ha, hk3, fun F H2 hF1 e2 hf2 => ?_⟩
    have hF0 : H0 F = none := fresh_back e1 hF1
    have e02 := e1.trans e2
    -- is_tree
    refine draw_go (ea_cons (ev_var rfl) (ea_cons ev_c ea_nil)) (by decide) (by decide) hf2 (by omega) fun g H3 b3 hf3 hg => ⟨rfl, ?_⟩
    generalize decide (V.int (g : Int) = V.int 0) = t
    -- the web
    refine q_cut (M := fun σ' H' => ∃ (wp : Addr) (Pl : List Str) (R : List RdS), σ' = [some (.ref a), some (.int k), some (.ref F), some (.bl t), some (.ref wp), none, o6, o7] ∧ But F H2 H' ∧ Feed F H' 203 ∧ Gd K H' wp Pl R ∧ Plain Pl R ∧ (t = true → RP.Tree R Pl)) ?_ ?_
    · refine web_args (F := F) (m2 := 2) (m3 := 3) (C2 := fun m => 1 ≤ m ∧ m ≤ 10) (C3 := fun m => m ≤ 5 ∧ (t = true → m = 0)) (ev_var rfl) (fun H4 e4 Q4 k4 => ?_) (fun H4 hf4 Q4 k4 => ?_) fun many more H4 b4 hf4 c2 c3 => web_go hf4 c2.1 c2.2 c3.1 (by omega) fun wp H6 Pl R b6 hf6 hg6 hgen hlen htr => ?_
      · refine draw_go (ea_cons (ev_var rfl) (ea_cons ev_c ea_nil)) (by decide) (by decide) (hf3.mono e4) (by omega) fun g1 H5 b5 hf5 hg1 => ⟨_, _, rfl, rfl, ?_⟩
        have := k4 (1 + g1) H5 b5 hf5 ⟨by omega, by omega⟩
        rw [show ((1 + g1 : Nat) : Int) = (1 : Int) + (g1 : Int) by omega] at this
        exact this
      · refine if_go (b := t) (et_test (ev_var rfl)) (fun ht H5 e5 => ?_) (fun ht H5 e5 => ?_)
        · exact k4 0 H5 (But.of e5) ((hf4.mono e5).le (by omega)) ⟨by omega, fun _ => rfl⟩
        · exact draw_go (ea_cons (ev_var rfl) (ea_cons ev_c ea_nil)) (by decide) (by decide) (hf4.mono e5) (by omega) fun g2 H6 b6 hf6 hg2 => k4 g2 H6 ((But.of e5).trans b6) hf6 ⟨by omega, fun z => by rw [ht] at z; cases z⟩
      · exact ⟨wp, Pl, R, rfl, b3.trans (b4.trans b6), hf6, hg6, plain_of hg6 hgen (fun z => by rw [z] at hlen; simp at hlen; omega), fun z => htr (c3.2 z)⟩
    rintro σ' H4 ⟨wp, Pl, R, rfl, b4, hf4, hg4, hp4, ht4⟩
    -- some roads are dropped
    refine q_cut (M := fun σ' H' => ∃ (wp : Addr) (R : List RdS), σ' = [some (.ref a), some (.int k), some (.ref F), some (.bl t), some (.ref wp), none, o6, o7] ∧ But F H2 H' ∧ Feed F H' 300 ∧ Gd K H' wp Pl R ∧ Plain Pl R ∧ (t = true → RP.Tree R Pl)) ?_ ?_
    · refine s_when (b := !t) (et_not (et_test (ev_var rfl))) (fun hnt H5 e5 => ?_) (fun hnt H5 e5 => ?_)
      · have ht : t = false := by simpa using hnt
        have hg5 := hg4.mono (Tp.of (K := K) e5)
        have hf5 := hf4.mono e5
        have hRl := hp4.lenR
        obtain ⟨ap, ar, rs, hw1, hap, hR, hrs⟩ := hg5.wb
        have hrl := paired_len hrs
        refine (ev_web0 (ev_var rfl) hw1) H5 (Ex.refl H5) _ fun H6 e6 => ?_
        refine (ev_web (ev_var rfl) (ex_t e6 hw1)) H6 (Ex.refl H6) _ fun H7 e7 => ?_
        have e57 := e6.trans e7
        refine ⟨ar, rfl, ⟨_, ex_t e57 hR⟩, fun D hD => lc_tup (K := K) (a := ar) (xs := rs) (fun i H' => But F H7 H' ∧ Feed F H' (203 + i) ∧ ∃ (acc : List V) (R' : List RdS), H' D = some (.lst acc) ∧ R'.Sublist (R.take i) ∧ Paired (IsRd K H') acc R' ∧ acc.length ≤ i)
          ⟨(But.refl F H7).mut hD, ((hf5.mono e57).upd ((hf5.mono e57).ne hD)).le (by omega), [], [], upd_same, List.Sublist.refl _, .nil, Nat.le_refl _⟩ (fun i H' _ p => ((hf5.mono e57).tp (K := K) p.1).1 _ _ (ex_t e57 hR)) ?_ ?_⟩
        · rintro i x H8 hx ⟨b8, hf8, acc, R', hacc, hsub, hPa, hal⟩
          have hDF : D ≠ F := (hf5.mono e57).ne hD
          have hil : i < rs.length := (List.getElem?_eq_some_iff.mp hx).1
          obtain ⟨rr, hrr, hrx⟩ := paired_at' hrs hx
          have htk : R.take (i + 1) = R.take i ++ [rr] := by rw [List.take_add_one, hrr]; rfl
          refine ⟨rfl, draw_go (ea_cons (ev_var rfl) (ea_cons ev_c ea_nil)) (by decide) (by decide) hf8 (by omega) fun g9 H9 b9 hf9 hg9 => ⟨_, _, rfl, rfl, _, rfl, ?_⟩⟩
          have hacc9 := b9 _ _ hDF hacc
          have tp59 : Tp K H5 H9 := (Tp.of e57).trans (((hf5.mono e57).tp b8).trans (hf8.tp b9))
          by_cases hz : (0 : Int) < (g9 : Int)
          · rw [decide_eq_true hz]
            show (if true = true then _ else _)
            rw [if_pos rfl]
            have tp : Tp K H9 (L2.upd H9 D (.lst (acc ++ [x]))) := Tp.lst hacc9
            refine ⟨_, rfl, acc, hacc9, sz_lt (by omega), (b8.trans b9).mut hD, (hf9.upd hDF).le (by omega), _, R' ++ [rr], upd_same, ?_, paired_snoc (paired_mono hPa fun v e hb => hb.mono ((hf8.tp b9).trans tp)) (hrx.mono (tp59.trans tp)), by simp; omega⟩
            rw [htk]
            exact hsub.append (List.Sublist.refl _)
          · rw [decide_eq_false hz]
            show (if false = true then _ else _)
            rw [if_neg (by decide)]
            refine ⟨b8.trans b9, hf9.le (by omega), acc, R', hacc9, ?_, paired_mono hPa fun v e hb => hb.mono (hf8.tp b9), by omega⟩
            rw [htk]
            exact hsub.trans (List.sublist_append_left _ _)
        · rintro H8 ⟨b8, hf8, acc, R', hacc, hsub, hPa, hal⟩
          rw [hrl, List.take_length] at hsub
          have tp58 : Tp K H5 H8 := (Tp.of e57).trans ((hf5.mono e57).tp b8)
          refine ⟨D, acc, rfl, .inl ⟨sq_of hacc, fun l hl => ?_⟩⟩
          have e9 : Ex H8 (L2.upd H8 l (.tup acc)) := Ex.new hl
          refine ⟨sz_of (by simp), fun w2 hw2 => ?_⟩
          have e10 : Ex (L2.upd H8 l (.tup acc)) (L2.upd (L2.upd H8 l (.tup acc)) w2 (.tup [.ref ap, .ref l])) := Ex.new hw2
          have e810 := e9.trans e10
          have hp' := plain_sub hp4 hsub
          have bAll : But F H2 (L2.upd (L2.upd H8 l (.tup acc)) w2 (.tup [.ref ap, .ref l])) := (b4.trans (But.of (e5.trans e57))).trans (b8.trans (But.of e810))
          refine ⟨w2, R', rfl, bAll, (hf8.mono e810).le (by omega), gd_of ⟨ap, l, acc, st_of upd_same, (tp58.trans (Tp.of e810)).2 _ _ hap, ex_t e10 (st_of upd_same), paired_mono hPa fun v e hb => hb.mono (Tp.of e810)⟩ hp', hp', fun z => by rw [ht] at z; cases z⟩
      · exact ⟨wp, R, rfl, b4.trans (But.of e5), (hf4.mono e5).le (by omega), hg4.mono (Tp.of e5), hp4, ht4⟩
    rintro σ' H5 ⟨wp, R, rfl, b5, hf5, hg5, hp5, ht5⟩
    have hR14 := hp5.lenR
    -- the rota
    refine q_call (ea_cons (ev_var rfl) (ea_cons (ev_var rfl) ea_nil)) fun H6 e6 => ⟨F, wp, Pl, R, 300, rfl, (hg5.mono (Tp.of e6)).wb, by omega, hf5.mono e6, by omega, fun p H7 ρ b7 hf7 hρ hpm => ?_⟩
    have b27 : But F H2 H7 := b5.trans ((But.of e6).trans b7)
    have hg7 := hg5.mono ((Tp.of (K := K) e6).trans ((hf5.mono e6).tp b7))
    have hρl : ρ.length = R.length := by simpa using hpm.length_eq
    refine q_of (s_forR1m (n := (ρ.length : Int) - 1) (ea_cons (ev_op (ev_is (ev_lenT (ev_var rfl) hρ) (by rw [List.length_map])) ev_c rv_I0) ea_nil) (by omega) (fun i σ' H' => ∃ o7, σ' = [some (.ref a), some (.int k), some (.ref F), some (.bl t), some (.ref wp), none, some (.ref p), o7] ∧ Ex H7 H') (fun H8 e8 => ⟨o7, rfl, e8⟩) ?_ ?_)
    · rintro i σ' H8 hi ⟨o7, rfl, e8⟩
      have hil : i + 1 < ρ.length := by omega
      have hd : Hand K H8 wp p Pl ρ R i ρ[i] ρ[i + 1] := ⟨hg7.mono (Tp.of e8), hp5, ex_t e8 hρ, hpm, List.getElem?_eq_getElem (by omega), List.getElem?_eq_getElem hil⟩
      refine s_when (b := false) (et_is (et_not (a := true) (et_test (ev_call (ea_cons (ev_var rfl) (ea_cons (ev_var rfl) (ea_cons (ev_var rfl) (ea_cons (ev_var rfl) ea_nil)))) (fun H9 e9 Q' q' _ => ⟨wp, p, Pl, ρ, R, i, _, _, t, rfl, hd.mono (Tp.of e9), ht5, q'⟩)))) rfl) (fun z => by cases z) (fun _ H9 e9 => ⟨_, rfl, e8.trans e9⟩)
    rintro σ' H8 ⟨o7, rfl, e8⟩
    refine ref_go (K := K) (n := 400) (ea_cons (ev_var rfl) (ea_cons (ev_var rfl) (ea_cons (ev_var rfl) ea_nil))) ((hf7.mono e8).le (by omega)) (by omega) (hg7.mono (Tp.of e8)) hp5 (ex_t e8 hρ) hpm fun H9 b9 => ?_
    exact ⟨_, _, _, _, _, _, rfl, e0.trans (ex_but hF0 e02 (b27.trans ((But.of e8).trans b9)))⟩
  · rintro σ' H' ⟨o1, o2, o3, o4, o6, o7, rfl, e0⟩
    exact q H'
end
end RW
end

section
set_option maxRecDepth 100000
set_option maxHeartbeats 4000000
/-! the end: what the top has left; the call of the law where no repr is under way -/
namespace RW
open PySem PySem.Spec PyProof.Rows L2 Evl

theorem exm_to {K : PySem.W.Frag} {S B : Addr} (h1 : PySem.W.subIn K (.ref B) (.type "BaseException") = some true) (h2 : PySem.W.isClsIn K B = true) (h3 : PySem.W.typeIn K (.ref B) = some (.type "type")) (h4 : PySem.W.subIn K (.ref S) (.ref B) = some true) : PySem.W.exmOne K (.ref S) (.ref B) = some true := by
  have e1 : (PySem.W.subIn K (.ref B) (.type "BaseException") == some true) = true := by rw [h1] <;> rfl
  have e2 : ((PySem.W.clsIn K B).isSome && PySem.W.typeIn K (.ref B) == some (.type "type")) = true := by
    have h2' : (PySem.W.clsIn K B).isSome = true := h2
    rw [h2', h3] <;> rfl
  show (if (PySem.W.subIn K (.ref B) (.type "BaseException") == some true) = true then (if ((PySem.W.clsIn K B).isSome && PySem.W.typeIn K (.ref B) == some (.type "type")) = true then PySem.W.subIn K (.ref S) (.ref B) else none) else none) = some true
  rw [if_pos e1, if_pos e2]
  exact h4
theorem int_mk {K : PySem.W.Frag} {h : Heap} {mg : Str → Option Value} {x : Str} {n : Int} {v : Value} {t : Tok} (X : K.In h) (G : h.Ns mainGlobals mg) (a : PySem.W.nsIn K mainGlobals x = some (some v)) (e : v = .int n t) : mg x = some (.int n t) := by
  subst e
  exact PySem.W.mg_of X G a
theorem hasD_mk {K : PySem.W.Frag} {h : Heap} {mg : Str → Option Value} {x : Str} {st : Stmt} {f : Addr} {oc : Value} {od an : Option Addr} {osl : Array (Option Value)} {kV doc pm cdv ct : Value} (X : K.In h) (G : h.Ns mainGlobals mg) (a : PySem.W.nsIn K mainGlobals x = some (some (.ref f)))
    (l : K.lookup f = some ⟨oc, od, .func (PySem.W.fnOf x x (defArgs st) (defBody st) (defScope st) .none kV doc pm an cdv ct), osl⟩) (c : PySem.W.codeIn K cdv x = true) (k : PySem.W.keepIn K (.ref f) = true) : HasD K mg x st := ⟨f, _, fun_mk l c k, PySem.W.mg_of X G a⟩
/-- the defs of the text, all but the law -/
structure Defs (K : PySem.W.Frag) (mg : Str → Option Value) : Prop where
  d0 : HasD K mg "is_integer" sIsInteger
  d1 : HasD K mg "is_name" sIsName
  d2 : HasD K mg "is_row_of" sIsRowOf
  d3 : HasD K mg "are_of" sAreOf
  d4 : HasD K mg "names_of_roads" sNamesOfRoads
  d5 : HasD K mg "are_names" sAreNames
  d6 : HasD K mg "is_road" sIsRoad
  d7 : HasD K mg "is_web_form" sIsWebForm
  d8 : HasD K mg "need_web" sNeedWeb
  d9 : HasD K mg "is_rota" sIsRota
  d10 : HasD K mg "need_rota" sNeedRota
  d11 : HasD K mg "round_of" sRoundOf
  d12 : HasD K mg "ends_by_road" sEndsByRoad
  d13 : HasD K mg "news_places" sNewsPlaces
  d14 : HasD K mg "arrivals_from" sArrivalsFrom
  d15 : HasD K mg "days_from" sDaysFrom
  d16 : HasD K mg "day_rows" sDayRows
  d17 : HasD K mg "exchanged" sExchanged
  d18 : HasD K mg "need_index" sNeedIndex
  d19 : HasD K mg "swap_days" sSwapDays
  d20 : HasD K mg "_law_feed" sWFeed
  d21 : HasD K mg "_law_draw" sWDraw
  d22 : HasD K mg "_law_one" sWOne
  d23 : HasD K mg "_law_mixed" sWMixed
  d24 : HasD K mg "_law_names" sWNames
  d25 : HasD K mg "_law_rota" sWRota
  d26 : HasD K mg "_law_round" sWRound
  d27 : HasD K mg "_law_arrivals" sWArrivals
  d28 : HasD K mg "_law_path" sWPath
  d29 : HasD K mg "_law_sized_web" sWSizedWeb
  d30 : HasD K mg "_law_apart" sWApart
  d31 : HasD K mg "_law_swapped" sWSwapped
  d32 : HasD K mg "_law_table" sWTable
  d33 : HasD K mg "_law_bad_webs" sWBadWebs
  d34 : HasD K mg "_law_bad_rotas" sWBadRotas
  d35 : HasD K mg "_law_due" sWDue
  d36 : HasD K mg "_law_tree_due" sWTreeDue
  d37 : HasD K mg "_law_word" sWWord
  d38 : HasD K mg "_law_refused_right" sWRefusedRight
  d39 : HasD K mg "_law_right" sWRight
theorem law_ok {P : Program} {w : World} {K : PySem.W.Frag} {mg : Str → Option Value} {base : Heap} {f : Addr} {fd : FuncData} (Z : Frees mg) (C : Consts mg) (D : Defs K mg) (T : ∃ C1 C2 C3 CP, Errs K mg C1 C2 C3 CP) (F : Fun K "law" "law" sLaw f fd) : FnOkG P w K mg base CX0 9 f fd ["_law_script"] (spLaw K) := by
  obtain ⟨C1, C2, C3, CP, T⟩ := T
  have h0 := c_int (P := P) (w := w) (K := K) (mg := mg) (base := base) Z D.d0
  have h1 := c_nm (P := P) (w := w) (K := K) (mg := mg) (base := base) Z C D.d1
  have h2 := c_row (P := P) (w := w) (K := K) (mg := mg) (base := base) Z D.d2
  have h3 := c_of (P := P) (w := w) (K := K) (mg := mg) (base := base) Z D.d3
  have h4 := c_roads (P := P) (w := w) (K := K) (mg := mg) (base := base)  D.d4
  have h5 := c_names (P := P) (w := w) (K := K) (mg := mg) (base := base) Z h1 D.d5
  have h6 := c_road (P := P) (w := w) (K := K) (mg := mg) (base := base) Z h2 h1 h3 D.d6
  have h7 := c_form (P := P) (w := w) (K := K) (mg := mg) (base := base) Z C h2 h5 h6 D.d7
  have h8 := c_needweb (P := P) (w := w) (K := K) (mg := mg) (base := base) T.e1 h7 D.d8
  have h9 := c_isrota (P := P) (w := w) (K := K) (mg := mg) (base := base) Z h2 h3 h4 D.d9
  have h10 := c_needrota (P := P) (w := w) (K := K) (mg := mg) (base := base) T.e2 h9 D.d10
  have h18 := c_needindex (P := P) (w := w) (K := K) (mg := mg) (base := base) Z T.e3 h0 D.d18
  have h11 := c_round (P := P) (w := w) (K := K) (mg := mg) (base := base) Z D.d11
  have h12 := c_ends (P := P) (w := w) (K := K) (mg := mg) (base := base)  D.d12
  have h13 := c_news (P := P) (w := w) (K := K) (mg := mg) (base := base) Z h12 D.d13
  have h14 := c_arr (P := P) (w := w) (K := K) (mg := mg) (base := base) Z h12 h13 h11 D.d14
  have h15 := c_days (P := P) (w := w) (K := K) (mg := mg) (base := base) Z h14 D.d15
  have h16 := c_rows (P := P) (w := w) (K := K) (mg := mg) (base := base) h15 D.d16
  have h17 := c_exch (P := P) (w := w) (K := K) (mg := mg) (base := base)  D.d17
  have h19 := c_swap (P := P) (w := w) (K := K) (mg := mg) (base := base) Z h8 h10 h18 h16 h17 D.d19
  have h20 := c_feed (P := P) (w := w) (K := K) (mg := mg) (base := base) Z D.d20
  have h21 := c_draw (P := P) (w := w) (K := K) (mg := mg) (base := base) Z D.d21
  have h22 := c_one (P := P) (w := w) (K := K) (mg := mg) (base := base) Z h21 D.d22
  have h23 := c_mixed (P := P) (w := w) (K := K) (mg := mg) (base := base) Z h21 D.d23
  have h24 := c_nms (P := P) (w := w) (K := K) (mg := mg) (base := base) h23 D.d24
  have h25 := c_rota (P := P) (w := w) (K := K) (mg := mg) (base := base) Z h23 D.d25
  have h26 := c_lround (P := P) (w := w) (K := K) (mg := mg) (base := base) Z D.d26
  have h31 := c_lswapped (P := P) (w := w) (K := K) (mg := mg) (base := base)  D.d31
  have h27 := c_larr (P := P) (w := w) (K := K) (mg := mg) (base := base) Z h26 D.d27
  have h28 := c_path (P := P) (w := w) (K := K) (mg := mg) (base := base) Z D.d28
  have h29 := c_web (P := P) (w := w) (K := K) (mg := mg) (base := base) Z h24 h21 h23 D.d29
  have h30 := c_apart (P := P) (w := w) (K := K) (mg := mg) (base := base) Z D.d30
  have h32 := c_table (P := P) (w := w) (K := K) (mg := mg) (base := base) Z h27 D.d32
  have h33 := c_badwebs (P := P) (w := w) (K := K) (mg := mg) (base := base) Z D.d33
  have h34 := c_badrotas (P := P) (w := w) (K := K) (mg := mg) (base := base) Z D.d34
  have h35 := c_due (P := P) (w := w) (K := K) (mg := mg) (base := base) Z h32 h31 D.d35
  have h36 := c_treedue (P := P) (w := w) (K := K) (mg := mg) (base := base) Z h28 h30 D.d36
  have h37 := c_word (P := P) (w := w) (K := K) (mg := mg) (base := base) Z T h19 D.d37
  have h38 := c_refused (P := P) (w := w) (K := K) (mg := mg) (base := base) Z h22 h33 h34 h37 D.d38
  have h39 := c_right (P := P) (w := w) (K := K) (mg := mg) (base := base) Z h35 h19 h31 h30 h36 D.d39
  exact c_law Z h20 h21 h29 h25 h39 h38 F

/-- the law's call behind the top: callerA has no repr under way -/
theorem law_callG {P : Program} {w : World} {K : PySem.W.Frag} {mg mb : Str → Option Value} {k : Nat} {fa a : Addr} {fd : FuncData} {x : Str} {sp : Sp} {s1 : Shared} {vs : List Value} {ns : List Int}
    (KX : K.In s1.heap) (hns : s1.heap.Ns mainGlobals mg) (hb : s1.heap.Ns builtinsNs mb) (hbb : ∀ x : Str, x ≠ "__name__" → mb x = bootBuiltins x) (hlim : s1.heap.NoLimit) (hg : s1.gens = #[])
    (ha : s1.heap.get? a = some { cls := .type "list", data := .seq vs.toArray }) (hi : IntsAre vs ns) (hl : ns.length ≤ sizeLine) (hr : Room k callerA)
    (F : ∀ base : Heap, K.In base → base.Ns mainGlobals mg → FnOkG P w K mg base CX0 k fa fd [x] sp) (hbind : ∀ (s : Shared) (u : Value), BindsTo s fd ⟨[u], []⟩ [(x, u)])
    (hsp : ∀ H : Hp, SqL K H a (ns.map V.int) → sp [.ref a] H (fun v _ => v = .bl true) fun _ _ _ => False) :
    codeAny (model P w) callerA (.call (.ref fa) ⟨[.ref a], []⟩) (fun r s' => r = .ok (.ret (.bool true)) ∧ OldK s1.heap s'.heap ∧ s'.os = s1.os ∧ AllBare s'.gens) s1 := by
  have rv := vals_ints hi
  have lenV := hi.length
  have core : ∀ H : Hp, Only H → SqL K H a (ns.map V.int) → HOk P w H s1.heap → (∀ b, H b ≠ none → b = a) → (H a ≠ none → K.lookup a = none) →
      codeAny (model P w) callerA (.call (.ref fa) ⟨[.ref a], []⟩) (fun r s' => r = .ok (.ret (.bool true)) ∧ OldK s1.heap s'.heap ∧ s'.os = s1.os ∧ AllBare s'.gens) s1 := by
    intro H hO hS hok hA hK
    have only_a : ∀ {b : Addr}, H b ≠ none → s1.heap.get? b = some { cls := .type "list", data := .seq vs.toArray } := fun h => by rw [hA _ h]; exact ha
    have free_d : ∀ {b : Addr} {o : Obj} {es : Array DictEntry} {ep : Nat}, s1.heap.get? b = some o → o.data = .dict es ep → H b = none := fun {b o es ep} e d => by
      by_cases q : H b = none
      · exact q
      · have e2 := only_a q
        rw [e] at e2
        cases e2
        have d2 : Data.seq vs.toArray _ = Data.dict es ep := d
        cases d2
    have toB : ∀ {b : Addr} {m : Str → Option Value}, s1.heap.Ns b m → (hidT s1.heap H).Ns b m := fun {b m} ⟨o, es, ep, e, d, r⟩ => ⟨o, es, ep, hidT_get e (free_d e d), d, r⟩
    have hKb : K.In (hidT s1.heap H) := fun b o e => hidT_get (KX b o e) (by
      by_cases q : H b = none
      · exact q
      · have e2 := hA b q
        subst e2
        rw [hK q] at e
        cases e)
    have hM : Mod K mg (hidT s1.heap H) := ⟨hKb, toB hns, ⟨mb, toB hb, hbb⟩, let ⟨mc, h1, h2⟩ := hlim; ⟨mc, toB h1, h2⟩⟩
    have e0 : Env0 P w K mg (hidT s1.heap H) callerA [] s1 H := ⟨rfl, hM, fun b o e => of_hidT e, Nat.le_of_eq (hidT_size _ _), trivial, fun b hb => absurd (show b ∈ ([] : List Addr) from hb) (by simp), hok, .of_eq hg⟩
    refine codeAny_mono ((F _ hKb (toB hns)).run callerA [] s1 H ⟨[.ref a], []⟩ [.ref a] [.ref a] _ _ rfl hr e0 (hbind s1 (.ref a)) (.cons rfl .nil) (hsp H hS)) fun r s' h => ?_
    match r, h with
    | .error e, h => exact False.elim h
    | .ok .next, h => exact False.elim h
    | .ok .brk, h => exact False.elim h
    | .ok .cont, h => exact False.elim h
    | .ok (.ret u), h =>
      obtain ⟨v, H', os, bare, un, hok', r', q⟩ := h
      have q' : v = .bl true := q
      subst q'
      obtain rfl : u = Value.bool true := r'
      refine ⟨rfl, OldK.of_keep fun b o e => ?_, os, bare⟩
      rcases hO b with z | ⟨ob, xs, z⟩
      · exact un.keep b o e z (by intro z; exact absurd (show b ∈ ([] : List Addr) from z) (by simp)) (by simp)
      · obtain ⟨e1, _⟩ := hok b _ z
        obtain ⟨e2, _⟩ := hok' b _ (un.frzs b ob _ z)
        rw [e] at e1
        cases e1
        exact e2
  cases hk : K.lookup a with
  | some o =>
    have e := KX a o hk
    rw [ha] at e
    cases e
    exact core (fun _ => none) (fun _ => .inl rfl) (.inr ⟨_, vs.toArray, _, hk, rfl, rfl, rfl, by rw [List.size_toArray, lenV]; exact hl, by simpa using rv⟩) (fun b u z => by cases z) (fun b z => absurd rfl z) fun z => absurd rfl z
  | none =>
    have at_ : ∀ {b : Addr} {u : HO}, (if b = a then some (HO.frz { cls := .type "list", data := .seq vs.toArray } (.lst (ns.map V.int))) else none) = some u → b = a ∧ u = .frz { cls := .type "list", data := .seq vs.toArray } (.lst (ns.map V.int)) := fun {b u} z => by
      by_cases hb : b = a
      · rw [if_pos hb] at z
        exact ⟨hb, (Option.some.inj z).symm⟩
      · rw [if_neg hb] at z
        cases z
    refine core (fun b => if b = a then some (.frz { cls := .type "list", data := .seq vs.toArray } (.lst (ns.map V.int))) else none) (fun b => ?_) (.inl (.inr ⟨{ cls := .type "list", data := .seq vs.toArray }, if_pos rfl⟩)) (fun b u z => ?_) (fun b z => ?_) fun _ => hk
    · by_cases hb : b = a
      · exact .inr ⟨_, _, if_pos hb⟩
      · exact .inl (if_neg hb)
    · obtain ⟨rfl, rfl⟩ := at_ z
      exact ⟨ha, by rw [List.length_map]; exact hl, vs, _, rv, ha⟩
    · by_cases hb : b = a
      · exact hb
      · exact absurd (if_neg hb) z
theorem walk_law {l : PySem.W.OpenLaw} {q : Program} {loose : List Str} {XP : (Str → Option Value) → Heap → Prop} {YP : World → Heap → Prop} {d : DefRec} {K : Params → PySem.W.Frag} (hn : l.most = some 63) (hdf : d.params.defaults = [])
    (hY : ∀ (w : World) (h : Heap), YP w h → (K w.params).In h)
    (F : ∀ (w : World) (mg : Str → Option Value) (fa : Addr) (h : Heap), (K w.params).In h → h.Ns mainGlobals mg → mg d.name = some (.ref fa) →
      ∃ fd : FuncData, (∀ (s : Shared) (u : Value), BindsTo s fd ⟨[u], []⟩ [("_law_script", u)]) ∧ ∀ base : Heap, (K w.params).In base → base.Ns mainGlobals mg → FnOkG l.prog w (K w.params) mg base CX0 9 fa fd ["_law_script"] (spLaw (K w.params))) :
    PySem.W.WalkO q loose XP YP l.row.toRowW d [] (fun f vs => PySem.call f vs) := by
  refine Att.attach_call hn hdf fun w s0 s1 mg mb fa o pm cd doc a vs ns G Y ho hd hcd hmg hobj hints hlen hg => ?_
  obtain ⟨fd, hb, hF⟩ := F w mg fa _ (hY w _ Y) G.T.g hmg
  exact law_callG (hY w _ Y) G.T.g G.T.b G.T.builtins G.T.nolimit hg hobj hints (Nat.le_trans hlen (by decide)) ⟨rfl, by decide, by decide⟩ hF hb fun H hS => ⟨a, ns, rfl, hS, Nat.le_trans hlen (by decide), fun _ => rfl⟩
theorem all_mk {P : Program} {w : World} {K : PySem.W.Frag} {h : Heap} {mg : Str → Option Value} {fa f : Addr} {oc : Value} {od an : Option Addr} {osl : Array (Option Value)} {kV doc pm cdv ct : Value} (X : K.In h) (G : h.Ns mainGlobals mg) (hfa : mg "law" = some (.ref fa))
    (a : PySem.W.nsIn K mainGlobals "law" = some (some (.ref f))) (l : K.lookup f = some ⟨oc, od, .func (PySem.W.fnOf "law" "law" (defArgs sLaw) (defBody sLaw) (defScope sLaw) .none kV doc pm an cdv ct), osl⟩) (c : PySem.W.codeIn K cdv "law" = true) (k : PySem.W.keepIn K (.ref f) = true)
    (Z : Frees mg) (C : Consts mg) (D : Defs K mg) (T : ∃ C1 C2 C3 CP, Errs K mg C1 C2 C3 CP) :
    ∃ fd : FuncData, (∀ (s : Shared) (u : Value), BindsTo s fd ⟨[u], []⟩ [("_law_script", u)]) ∧ ∀ base : Heap, K.In base → base.Ns mainGlobals mg → FnOkG P w K mg base CX0 9 fa fd ["_law_script"] (spLaw K) := by
  have e := hfa.symm.trans (PySem.W.mg_of X G a)
  cases e
  exact ⟨_, fun s u => .of_eq rfl, fun base _ _ => law_ok Z C D T (fun_mk (st := sLaw) l c k)⟩
end RW
end

section
theorem RW.str_mk {K : PySem.W.Frag} {h : PySem.Heap} {mg : PySem.Str → Option PySem.Value} {x s : PySem.Str} {v : PySem.Value} {t : PySem.Tok} (X : K.In h) (G : h.Ns PySem.mainGlobals mg) (a : PySem.W.nsIn K PySem.mainGlobals x = some (some v)) (e : v = .str s t) : mg x = some (.str s t) := by
  subst e
  exact PySem.W.mg_of X G a
theorem RW.str_eq {a b : PySem.Str} {t : PySem.Tok} (e : a = b) : PySem.Value.str a t = .str b t := by rw [e]
open PySem PySem.W PyProof.Rows
set_option maxRecDepth 100000
set_option maxHeartbeats 0 in
theorem PySem.Challenge.cw_roundpost_k43_whole_swapped_neighbours_holds : PySem.Challenge.rw_roundpost_k43_whole_swapped_neighbours.Holds := by
  w_on; o_law; k_head; (case hw => w_witness2)
  k_fill
  refine RW.walk_law (l := PySem.Challenge.rw_roundpost_k43_whole_swapped_neighbours) rfl rfl (fun w h Y => PySem.W.kIn_of Y) ?F
  case F =>
    intro w mg fa h KX G hmg
    refine' RW.all_mk KX G hmg ?a ?l ?c ?k ?Z ?C ?D ?T
    (case a => k_is); (case l => k_is); (case c => k_is); (case k => k_is)
    case Z =>
      refine' ⟨?z0, ?z1, ?z2, ?z3, ?z4, ?z5, ?z6, ?z7, ?z8, ?z9, ?z10, ?z11, ?z12, ?z13, ?z14, ?z15, ?z16⟩
      (case z0 => refine PySem.W.mg_none_of KX G ?e; (case e => k_is))
      (case z1 => refine PySem.W.mg_none_of KX G ?e; (case e => k_is))
      (case z2 => refine PySem.W.mg_none_of KX G ?e; (case e => k_is))
      (case z3 => refine PySem.W.mg_none_of KX G ?e; (case e => k_is))
      (case z4 => refine PySem.W.mg_none_of KX G ?e; (case e => k_is))
      (case z5 => refine PySem.W.mg_none_of KX G ?e; (case e => k_is))
      (case z6 => refine PySem.W.mg_none_of KX G ?e; (case e => k_is))
      (case z7 => refine PySem.W.mg_none_of KX G ?e; (case e => k_is))
      (case z8 => refine PySem.W.mg_none_of KX G ?e; (case e => k_is))
      (case z9 => refine PySem.W.mg_none_of KX G ?e; (case e => k_is))
      (case z10 => refine PySem.W.mg_none_of KX G ?e; (case e => k_is))
      (case z11 => refine PySem.W.mg_none_of KX G ?e; (case e => k_is))
      (case z12 => refine PySem.W.mg_none_of KX G ?e; (case e => k_is))
      (case z13 => refine PySem.W.mg_none_of KX G ?e; (case e => k_is))
      (case z14 => refine PySem.W.mg_none_of KX G ?e; (case e => k_is))
      (case z15 => refine PySem.W.mg_none_of KX G ?e; (case e => k_is))
      (case z16 => refine PySem.W.mg_none_of KX G ?e; (case e => k_is))
    case C =>
      refine' ⟨?c0, ?c1, ?c2, ?c3, ?c4⟩
      (case c0 => refine' ⟨_, RW.str_mk KX G ?e ?f⟩; (case e => k_is); (case f => first | rfl | exact RW.str_eq (by decide +kernel)))
      (case c1 => refine' ⟨_, RW.str_mk KX G ?e ?f⟩; (case e => k_is); (case f => first | rfl | exact RW.str_eq (by decide +kernel)))
      (case c2 => refine' ⟨_, RW.int_mk KX G ?e ?f⟩; (case e => k_is); (case f => rfl))
      (case c3 => refine' ⟨_, RW.int_mk KX G ?e ?f⟩; (case e => k_is); (case f => rfl))
      (case c4 => refine' ⟨_, RW.int_mk KX G ?e ?f⟩; (case e => k_is); (case f => rfl))
    case D =>
      refine' ⟨?d0, ?d1, ?d2, ?d3, ?d4, ?d5, ?d6, ?d7, ?d8, ?d9, ?d10, ?d11, ?d12, ?d13, ?d14, ?d15, ?d16, ?d17, ?d18, ?d19, ?d20, ?d21, ?d22, ?d23, ?d24, ?d25, ?d26, ?d27, ?d28, ?d29, ?d30, ?d31, ?d32, ?d33, ?d34, ?d35, ?d36, ?d37, ?d38, ?d39⟩
      (case d0 => refine' RW.hasD_mk KX G ?a ?l ?c ?k; (case a => k_is); (case l => k_is); (case c => k_is); (case k => k_is))
      (case d1 => refine' RW.hasD_mk KX G ?a ?l ?c ?k; (case a => k_is); (case l => k_is); (case c => k_is); (case k => k_is))
      (case d2 => refine' RW.hasD_mk KX G ?a ?l ?c ?k; (case a => k_is); (case l => k_is); (case c => k_is); (case k => k_is))
      (case d3 => refine' RW.hasD_mk KX G ?a ?l ?c ?k; (case a => k_is); (case l => k_is); (case c => k_is); (case k => k_is))
      (case d4 => refine' RW.hasD_mk KX G ?a ?l ?c ?k; (case a => k_is); (case l => k_is); (case c => k_is); (case k => k_is))
      (case d5 => refine' RW.hasD_mk KX G ?a ?l ?c ?k; (case a => k_is); (case l => k_is); (case c => k_is); (case k => k_is))
      (case d6 => refine' RW.hasD_mk KX G ?a ?l ?c ?k; (case a => k_is); (case l => k_is); (case c => k_is); (case k => k_is))
      (case d7 => refine' RW.hasD_mk KX G ?a ?l ?c ?k; (case a => k_is); (case l => k_is); (case c => k_is); (case k => k_is))
      (case d8 => refine' RW.hasD_mk KX G ?a ?l ?c ?k; (case a => k_is); (case l => k_is); (case c => k_is); (case k => k_is))
      (case d9 => refine' RW.hasD_mk KX G ?a ?l ?c ?k; (case a => k_is); (case l => k_is); (case c => k_is); (case k => k_is))
      (case d10 => refine' RW.hasD_mk KX G ?a ?l ?c ?k; (case a => k_is); (case l => k_is); (case c => k_is); (case k => k_is))
      (case d11 => refine' RW.hasD_mk KX G ?a ?l ?c ?k; (case a => k_is); (case l => k_is); (case c => k_is); (case k => k_is))
      (case d12 => refine' RW.hasD_mk KX G ?a ?l ?c ?k; (case a => k_is); (case l => k_is); (case c => k_is); (case k => k_is))
      (case d13 => refine' RW.hasD_mk KX G ?a ?l ?c ?k; (case a => k_is); (case l => k_is); (case c => k_is); (case k => k_is))
      (case d14 => refine' RW.hasD_mk KX G ?a ?l ?c ?k; (case a => k_is); (case l => k_is); (case c => k_is); (case k => k_is))
      (case d15 => refine' RW.hasD_mk KX G ?a ?l ?c ?k; (case a => k_is); (case l => k_is); (case c => k_is); (case k => k_is))
      (case d16 => refine' RW.hasD_mk KX G ?a ?l ?c ?k; (case a => k_is); (case l => k_is); (case c => k_is); (case k => k_is))
      (case d17 => refine' RW.hasD_mk KX G ?a ?l ?c ?k; (case a => k_is); (case l => k_is); (case c => k_is); (case k => k_is))
      (case d18 => refine' RW.hasD_mk KX G ?a ?l ?c ?k; (case a => k_is); (case l => k_is); (case c => k_is); (case k => k_is))
      (case d19 => refine' RW.hasD_mk KX G ?a ?l ?c ?k; (case a => k_is); (case l => k_is); (case c => k_is); (case k => k_is))
      (case d20 => refine' RW.hasD_mk KX G ?a ?l ?c ?k; (case a => k_is); (case l => k_is); (case c => k_is); (case k => k_is))
      (case d21 => refine' RW.hasD_mk KX G ?a ?l ?c ?k; (case a => k_is); (case l => k_is); (case c => k_is); (case k => k_is))
      (case d22 => refine' RW.hasD_mk KX G ?a ?l ?c ?k; (case a => k_is); (case l => k_is); (case c => k_is); (case k => k_is))
      (case d23 => refine' RW.hasD_mk KX G ?a ?l ?c ?k; (case a => k_is); (case l => k_is); (case c => k_is); (case k => k_is))
      (case d24 => refine' RW.hasD_mk KX G ?a ?l ?c ?k; (case a => k_is); (case l => k_is); (case c => k_is); (case k => k_is))
      (case d25 => refine' RW.hasD_mk KX G ?a ?l ?c ?k; (case a => k_is); (case l => k_is); (case c => k_is); (case k => k_is))
      (case d26 => refine' RW.hasD_mk KX G ?a ?l ?c ?k; (case a => k_is); (case l => k_is); (case c => k_is); (case k => k_is))
      (case d27 => refine' RW.hasD_mk KX G ?a ?l ?c ?k; (case a => k_is); (case l => k_is); (case c => k_is); (case k => k_is))
      (case d28 => refine' RW.hasD_mk KX G ?a ?l ?c ?k; (case a => k_is); (case l => k_is); (case c => k_is); (case k => k_is))
      (case d29 => refine' RW.hasD_mk KX G ?a ?l ?c ?k; (case a => k_is); (case l => k_is); (case c => k_is); (case k => k_is))
      (case d30 => refine' RW.hasD_mk KX G ?a ?l ?c ?k; (case a => k_is); (case l => k_is); (case c => k_is); (case k => k_is))
      (case d31 => refine' RW.hasD_mk KX G ?a ?l ?c ?k; (case a => k_is); (case l => k_is); (case c => k_is); (case k => k_is))
      (case d32 => refine' RW.hasD_mk KX G ?a ?l ?c ?k; (case a => k_is); (case l => k_is); (case c => k_is); (case k => k_is))
      (case d33 => refine' RW.hasD_mk KX G ?a ?l ?c ?k; (case a => k_is); (case l => k_is); (case c => k_is); (case k => k_is))
      (case d34 => refine' RW.hasD_mk KX G ?a ?l ?c ?k; (case a => k_is); (case l => k_is); (case c => k_is); (case k => k_is))
      (case d35 => refine' RW.hasD_mk KX G ?a ?l ?c ?k; (case a => k_is); (case l => k_is); (case c => k_is); (case k => k_is))
      (case d36 => refine' RW.hasD_mk KX G ?a ?l ?c ?k; (case a => k_is); (case l => k_is); (case c => k_is); (case k => k_is))
      (case d37 => refine' RW.hasD_mk KX G ?a ?l ?c ?k; (case a => k_is); (case l => k_is); (case c => k_is); (case k => k_is))
      (case d38 => refine' RW.hasD_mk KX G ?a ?l ?c ?k; (case a => k_is); (case l => k_is); (case c => k_is); (case k => k_is))
      (case d39 => refine' RW.hasD_mk KX G ?a ?l ?c ?k; (case a => k_is); (case l => k_is); (case c => k_is); (case k => k_is))
    case T =>
      refine' ⟨_, _, _, _, ⟨⟨PySem.W.mg_of KX G ?g1, ?x1, ?k1, ?b1, ?t1⟩, ⟨PySem.W.mg_of KX G ?g2, ?x2, ?k2, ?b2, ?t2⟩, ⟨PySem.W.mg_of KX G ?g3, ?x3, ?k3, ?b3, ?t3⟩, PySem.W.mg_of KX G ?gP, ?y1, ?y2, ?y3, ⟨?ea1, ?eb1, ?ec1, ?ed1, ?ee1, ?ef1, ?eg1, ?eh1⟩, ⟨?ea2, ?eb2, ?ec2, ?ed2, ?ee2, ?ef2, ?eg2, ?eh2⟩, ⟨?ea3, ?eb3, ?ec3, ?ed3, ?ee3, ?ef3, ?eg3, ?eh3⟩, ?m11, ?m12, ?m13, ?m22, ?m23, ?m33⟩⟩
      (case g1 => k_is); (case g2 => k_is); (case g3 => k_is); (case gP => k_is)
      (case x1 => k_exc); (case k1 => k_is); (case b1 => k_is); (case t1 => k_is)
      (case x2 => k_exc); (case k2 => k_is); (case b2 => k_is); (case t2 => k_is)
      (case x3 => k_exc); (case k3 => k_is); (case b3 => k_is); (case t3 => k_is)
      (case ea1 => k_is); (case eb1 => k_is); (case ec1 => k_is); (case ed1 => k_is); (case ee1 => k_is); (case ef1 => k_is); (case eg1 => k_is); (case eh1 => k_is)
      (case ea2 => k_is); (case eb2 => k_is); (case ec2 => k_is); (case ed2 => k_is); (case ee2 => k_is); (case ef2 => k_is); (case eg2 => k_is); (case eh2 => k_is)
      (case ea3 => k_is); (case eb3 => k_is); (case ec3 => k_is); (case ed3 => k_is); (case ee3 => k_is); (case ef3 => k_is); (case eg3 => k_is); (case eh3 => k_is)
      (case y1 => refine' RW.exm_to ?a ?b ?c ?d; (case a => k_is); (case b => k_is); (case c => k_is); (case d => k_is))
      (case y2 => refine' RW.exm_to ?a ?b ?c ?d; (case a => k_is); (case b => k_is); (case c => k_is); (case d => k_is))
      (case y3 => refine' RW.exm_to ?a ?b ?c ?d; (case a => k_is); (case b => k_is); (case c => k_is); (case d => k_is))
      (case m11 => first | rfl | k_is); (case m12 => first | rfl | k_is); (case m13 => first | rfl | k_is); (case m22 => first | rfl | k_is); (case m23 => first | rfl | k_is); (case m33 => first | rfl | k_is)
end
