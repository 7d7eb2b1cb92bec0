import PyProof.Rows.All
import Wide.All
import OpenK.AllK
import Wide.FinOn
import KE.KStateDown
import KE.SortData
import Lean
import HandS.ForMost
import HandS.Flow
import HandS.Style
import HandS.Zip
import HandS.DictComp
import HandS.Conv
import HandS.Deep
import HandS.IsInst
import HandS.TupAny
import HandS.TupLe
import HandS.Strs
import HandS.SetKeys
import HandS.TupSets
import HandS.Star
import HandS.WordsExc
import HandS.Defaults
import HandS.Head0
import HandS.Head1
import HandS.Head2
import HandS.HeadEnd
import HandS.HeadHook1
import HandS.HeadHook2
import PySem.Challenge.RW_kitsleft_k57_whole_days_by_deeds
import KE.KDictPairs
import KE.KDictSum
import HandS.Words
import HandS.Ends
set_option Elab.async false
set_option linter.all false
set_option maxRecDepth 100000
set_option maxHeartbeats 0
/-! The mathematics of the hand without foresight: no program in sight. -/
namespace K57
section
variable {N : Type} [DecidableEq N]
/-- a pack -/
structure Pk (N : Type) where
  name : N
  made : Int
  apart : Bool
  sheet : List (N × Int)
/-- how often a name is counted in a list of pairs -/
def cnt : List (N × Int) → N → Int
  | [], _ => 0
  | p :: l, x => (if p.1 = x then p.2 else 0) + cnt l x
def sumI {α : Type} (f : α → Int) : List α → Int
  | [] => 0
  | a :: l => f a + sumI f l
def turn (M A : N → Int) (p : Pk N) : Int := if p.apart = true ∨ A p.name > M p.name then A p.name - M p.name else 0
/-- the netting's equations -/
def Sol (ps : List (Pk N)) (M r A : N → Int) : Prop := ∀ x, A x = r x + sumI (fun p => cnt p.sheet x * turn M A p) ps
def dl (a x : N) : Int := if a = x then 1 else 0
/-- what a shop's packs keep to -/
structure Wf (ps : List (Pk N)) (rk : N → Nat) : Prop where
  nd : (ps.map (·.name)).Nodup
  rank : ∀ p ∈ ps, ∀ q ∈ p.sheet, rk q.1 < rk p.name
  pos : ∀ p ∈ ps, ∀ q ∈ p.sheet, 1 ≤ q.2

theorem sumI_congr {α : Type} {f g : α → Int} : ∀ {l : List α}, (∀ a ∈ l, f a = g a) → sumI f l = sumI g l
  | [], _ => rfl
  | a :: l, h => by
    unfold sumI
    rw [h a List.mem_cons_self, sumI_congr fun b hb => h b (List.mem_cons_of_mem _ hb)]
theorem sumI_nonneg {α : Type} {f : α → Int} : ∀ {l : List α}, (∀ a ∈ l, 0 ≤ f a) → 0 ≤ sumI f l
  | [], _ => Int.le_refl 0
  | a :: l, h => by
    unfold sumI
    have h1 := h a List.mem_cons_self
    have h2 := sumI_nonneg (l := l) fun b hb => h b (List.mem_cons_of_mem _ hb)
    omega
theorem sumI_nonpos {α : Type} {f : α → Int} : ∀ {l : List α}, (∀ a ∈ l, f a ≤ 0) → sumI f l ≤ 0
  | [], _ => Int.le_refl 0
  | a :: l, h => by
    unfold sumI
    have h1 := h a List.mem_cons_self
    have h2 := sumI_nonpos (l := l) fun b hb => h b (List.mem_cons_of_mem _ hb)
    omega
theorem sumI_append {α : Type} {f : α → Int} : ∀ {l m : List α}, sumI f (l ++ m) = sumI f l + sumI f m
  | [], m => by show _ = 0 + _; rw [Int.zero_add]; rfl
  | a :: l, m => by
    show f a + sumI f (l ++ m) = f a + sumI f l + sumI f m
    rw [sumI_append, Int.add_assoc]
theorem sumI_perm {α : Type} {f : α → Int} {l m : List α} (h : l.Perm m) : sumI f l = sumI f m := by
  induction h with
  | nil => rfl
  | cons a _ ih => show f a + _ = f a + _; rw [ih]
  | swap a b l => show f b + (f a + _) = f a + (f b + _); omega
  | trans _ _ h1 h2 => exact h1.trans h2
/-- one place changes by k -/
theorem sumI_one {f g : Pk N → Int} {q : Pk N} {k : Int} : ∀ {l : List (Pk N)}, (l.map (·.name)).Nodup → q ∈ l → (∀ p ∈ l, p.name ≠ q.name → g p = f p) → g q = f q + k → sumI g l = sumI f l + k
  | [], _, hq, _, _ => by cases hq
  | a :: l, nd, hq, h, hk => by
    rw [List.map_cons, List.nodup_cons] at nd
    obtain ⟨n1, n2⟩ := nd
    show g a + sumI g l = f a + sumI f l + k
    rcases List.mem_cons.mp hq with e | hm
    · subst e
      have e2 : sumI g l = sumI f l := sumI_congr fun b hb => h b (List.mem_cons_of_mem _ hb) fun e => n1 (e ▸ List.mem_map_of_mem hb)
      omega
    · have hne : a.name ≠ q.name := fun e => n1 (e ▸ List.mem_map_of_mem hm)
      have e1 := h a List.mem_cons_self hne
      have e2 := sumI_one n2 hm (fun p hp => h p (List.mem_cons_of_mem _ hp)) hk
      omega
theorem cnt_zero : ∀ {l : List (N × Int)} {x : N}, (∀ q ∈ l, q.1 ≠ x) → cnt l x = 0
  | [], _, _ => rfl
  | p :: l, x, h => by
    unfold cnt
    rw [if_neg (h p List.mem_cons_self), cnt_zero fun q hq => h q (List.mem_cons_of_mem _ hq)]
    rfl
theorem cnt_nonneg : ∀ {l : List (N × Int)} {x : N}, (∀ q ∈ l, 0 ≤ q.2) → 0 ≤ cnt l x
  | [], _, _ => Int.le_refl 0
  | p :: l, x, h => by
    have h1 := h p List.mem_cons_self
    have h2 := cnt_nonneg (l := l) (x := x) fun q hq => h q (List.mem_cons_of_mem _ hq)
    unfold cnt
    split <;> omega
theorem cnt_append : ∀ {l m : List (N × Int)} {x : N}, cnt (l ++ m) x = cnt l x + cnt m x
  | [], m, x => by show _ = 0 + _; rw [Int.zero_add]; rfl
  | p :: l, m, x => by
    show _ + cnt (l ++ m) x = _ + cnt l x + cnt m x
    rw [cnt_append, Int.add_assoc]
theorem cnt_perm {l m : List (N × Int)} (h : l.Perm m) (x : N) : cnt l x = cnt m x := by
  induction h with
  | nil => rfl
  | cons a _ ih => show _ + _ = _ + _; rw [ih]
  | swap a b l => show _ + (_ + _) = _ + (_ + _); omega
  | trans _ _ h1 h2 => exact h1.trans h2
/-- the pieces of a pair list are positive somewhere only where named -/
theorem mem_of_cnt {l : List (N × Int)} {x : N} (h : cnt l x ≠ 0) : ∃ q ∈ l, q.1 = x := by
  by_cases hx : ∃ q ∈ l, q.1 = x
  · exact hx
  · exact absurd (cnt_zero fun q hq e => hx ⟨q, hq, e⟩) h

section
variable {ps : List (Pk N)} {rk : N → Nat} {part : N → Prop}
theorem Wf.cnt0 (W : Wf ps rk) {p : Pk N} (hp : p ∈ ps) (x : N) : 0 ≤ cnt p.sheet x := cnt_nonneg fun q hq => by have := W.pos p hp q hq; omega
/-- a step: every netting ahead of it gives one behind it, with the same left of every part -/
def Step (ps : List (Pk N)) (part : N → Prop) (d : N → Int) (M M' : N → Int) : Prop :=
  ∀ (r s A : N → Int), (∀ x, 0 ≤ r x) → (∀ x, s x = r x + d x) → Sol ps M s A → ∃ A' : N → Int, Sol ps M' r A' ∧ ∀ x, part x → M' x - A' x = M x - A x
def Bad (ps : List (Pk N)) (part : N → Prop) (d : N → Int) (M : N → Int) : Prop :=
  ∀ (r s A : N → Int), (∀ x, 0 ≤ r x) → (∀ x, s x = r x + d x) → Sol ps M s A → ∃ x, part x ∧ M x - A x < 0
theorem Sol.congr {M r r' A : N → Int} (h : Sol ps M r A) (e : ∀ x, r x = r' x) : Sol ps M r' A := fun x => by rw [← e x]; exact h x
theorem Step.refl {M d : N → Int} (hd : ∀ x, d x = 0) : Step ps part d M M := by
  intro r s A _ hs h
  exact ⟨A, h.congr fun x => by have := hs x; have := hd x; omega, fun _ _ => rfl⟩
theorem Step.comp {d1 d2 d M M1 M2 : N → Int} (a : Step ps part d1 M M1) (b : Step ps part d2 M1 M2) (h2 : ∀ x, 0 ≤ d2 x) (hd : ∀ x, d x = d1 x + d2 x) : Step ps part d M M2 := by
  intro r s A hr hs h
  obtain ⟨A1, h1, e1⟩ := a (fun x => r x + d2 x) s A (fun x => by have := hr x; have := h2 x; show 0 ≤ r x + d2 x; omega) (fun x => by have := hs x; have := hd x; show s x = r x + d2 x + d1 x; omega) h
  obtain ⟨A2, h3, e2⟩ := b r _ A1 hr (fun x => rfl) h1
  exact ⟨A2, h3, fun x hx => (e2 x hx).trans (e1 x hx)⟩
theorem Step.bad {d1 d2 d M M1 : N → Int} (a : Step ps part d1 M M1) (b : Bad ps part d2 M1) (h2 : ∀ x, 0 ≤ d2 x) (hd : ∀ x, d1 x + d2 x ≤ d x) : Bad ps part d M := by
  intro r s A hr hs h
  obtain ⟨A1, h1, e1⟩ := a (fun x => s x - d1 x) s A (fun x => by have := hr x; have := h2 x; have := hs x; have := hd x; show 0 ≤ s x - d1 x; omega) (fun x => by show s x = s x - d1 x + d1 x; omega) h
  obtain ⟨x, hx, hl⟩ := b (fun x => s x - d1 x - d2 x) _ A1 (fun x => by have := hr x; have := hs x; have := hd x; show 0 ≤ s x - d1 x - d2 x; omega) (fun x => by show s x - d1 x = s x - d1 x - d2 x + d2 x; omega) h1
  exact ⟨x, hx, by have := e1 x hx; omega⟩
theorem Bad.more {d e M : N → Int} (b : Bad ps part d M) (h : ∀ x, d x ≤ e x) : Bad ps part e M := by
  intro r s A hr hs h'
  exact b (fun x => s x - d x) s A (fun x => by have := hr x; have := h x; have := hs x; show 0 ≤ s x - d x; omega) (fun x => by show s x = s x - d x + d x; omega) h'
theorem Step.cd {d e M M' : N → Int} (b : Step ps part d M M') (h : ∀ x, d x = e x) : Step ps part e M M' := by
  intro r s A hr hs h'
  exact b r s A hr (fun x => by rw [h x]; exact hs x) h'
theorem Step.cM {d M M' M2 : N → Int} (b : Step ps part d M M') (h : ∀ x, M' x = M2 x) : Step ps part d M M2 := by
  have : M' = M2 := funext h
  rw [← this]; exact b
/-- the turns stay where asked less there stays -/
theorem turn_eq {M M' A A' : N → Int} {p : Pk N} (h : A' p.name - M' p.name = A p.name - M p.name) : turn M' A' p = turn M A p := by
  unfold turn
  by_cases c : p.apart = true
  · rw [if_pos (.inl c), if_pos (.inl c)]; omega
  · by_cases g : A p.name > M p.name
    · rw [if_pos (.inr (by omega)), if_pos (.inr g)]; omega
    · rw [if_neg (by rintro (z | z); exact c z; omega), if_neg (by rintro (z | z); exact c z; exact g z)]
/-- a piece that is there is taken -/
theorem step_take {M M' : N → Int} {a : N} (hM : ∀ x, M' x = M x - dl a x) : Step ps part (dl a) M M' := by
  intro r s A _ hs h
  obtain ⟨A', hA⟩ : ∃ A' : N → Int, ∀ x, A' x = A x - dl a x := ⟨_, fun _ => rfl⟩
  refine ⟨A', fun x => ?_, fun x _ => by rw [hM x, hA x]; omega⟩
  have e : sumI (fun p => cnt p.sheet x * turn M' A' p) ps = sumI (fun p => cnt p.sheet x * turn M A p) ps := sumI_congr fun p _ => by
    rw [turn_eq (M := M) (A := A) (by rw [hM, hA]; omega)]
  have h1 := h x
  have h2 := hs x
  rw [e, hA x]
  omega
/-- a made piece is taken apart -/
theorem step_apart (W : Wf ps rk) (hpt : ∀ p ∈ ps, ¬ part p.name) {M M' : N → Int} {q : Pk N} (hq : q ∈ ps) (ha : q.apart = true) (hM : ∀ x, M' x = M x - dl q.name x + cnt q.sheet x) : Step ps part (fun _ => 0) M M' := by
  intro r s A _ hs h
  have c0 : cnt q.sheet q.name = 0 := cnt_zero fun z hz e => by
    have := W.rank q hq z hz
    rw [e] at this
    exact Nat.lt_irrefl _ this
  obtain ⟨A', hA⟩ : ∃ A' : N → Int, ∀ x, A' x = A x + cnt q.sheet x := ⟨_, fun _ => rfl⟩
  refine ⟨A', fun x => ?_, fun x hx => ?_⟩
  · have e : sumI (fun p => cnt p.sheet x * turn M' A' p) ps = sumI (fun p => cnt p.sheet x * turn M A p) ps + cnt q.sheet x := by
      refine sumI_one W.nd hq (fun p _ hne => ?_) ?_
      · have z : dl q.name p.name = 0 := if_neg (Ne.symm hne)
        rw [turn_eq (M := M) (A := A) (by rw [hM, hA, z]; omega)]
      · have e2 : turn M' A' q = turn M A q + 1 := by
          have z : dl q.name q.name = 1 := if_pos rfl
          unfold turn
          rw [if_pos (.inl ha), if_pos (.inl ha), hM q.name, hA q.name, z, c0]
          omega
        rw [e2, Int.mul_add, Int.mul_one]
    have h1 := h x
    have h2 : s x = r x + 0 := hs x
    rw [e, hA x]
    omega
  · have z : dl q.name x = 0 := if_neg fun e : q.name = x => hpt q hq (e ▸ hx)
    rw [hM x, hA x, z]
    omega
/-- nothing that can be taken apart leads to a -/
structure NoLead (ps : List (Pk N)) (M : N → Int) (a : N) (V : N → Prop) : Prop where
  self : V a
  up : ∀ p ∈ ps, p.apart = true → (∃ z ∈ p.sheet, V z.1) → V p.name ∧ M p.name ≤ 0
theorem asked_of (W : Wf ps rk) {M r A : N → Int} {a : N} {V : N → Prop} (L : NoLead ps M a V) (hr : ∀ x, 0 ≤ r x) (h : Sol ps M r A) {R : Nat} (hR : ∀ p ∈ ps, rk p.name < R) : ∀ (n : Nat) (x : N), R ≤ rk x + n → V x → r x ≤ A x := by
  intro n
  induction n with
  | zero =>
    intro x hx _
    have e : sumI (fun p => cnt p.sheet x * turn M A p) ps = 0 := by
      have : sumI (fun p => cnt p.sheet x * turn M A p) ps = sumI (fun _ => 0) ps := sumI_congr fun p hp => by
        have : cnt p.sheet x = 0 := cnt_zero fun q hq e => by
          have h1 := W.rank p hp q hq
          have h2 := hR p hp
          rw [e] at h1
          omega
        rw [this, Int.zero_mul]
      rw [this]
      clear this hR h hr L W
      induction ps with
      | nil => rfl
      | cons a l ih => show 0 + _ = (0 : Int); rw [ih]; rfl
    have := h x
    omega
  | succ n ih =>
    intro x hx hV
    have e : 0 ≤ sumI (fun p => cnt p.sheet x * turn M A p) ps := sumI_nonneg fun p hp => by
      by_cases c : cnt p.sheet x = 0
      · rw [c, Int.zero_mul]; exact Int.le_refl 0
      · obtain ⟨z, hz, ez⟩ := mem_of_cnt c
        have h1 := W.rank p hp z hz
        rw [ez] at h1
        refine Int.mul_nonneg (W.cnt0 hp x) ?_
        unfold turn
        by_cases k : p.apart = true
        · obtain ⟨v1, v2⟩ := L.up p hp k ⟨z, hz, by rw [ez]; exact hV⟩
          have := ih p.name (by omega) v1
          have := hr p.name
          rw [if_pos (.inl k)]
          omega
        · by_cases g : A p.name > M p.name
          · rw [if_pos (.inr g)]; omega
          · rw [if_neg (by rintro (z | z); exact k z; exact g z)]; exact Int.le_refl 0
    have := h x
    omega
theorem rk_bound (rk : N → Nat) : ∀ ps : List (Pk N), ∃ R, ∀ p ∈ ps, rk p.name < R
  | [] => ⟨0, fun _ h => nomatch h⟩
  | p :: l => by
    obtain ⟨R, h⟩ := rk_bound rk l
    refine ⟨R + rk p.name + 1, fun q hq => ?_⟩
    rcases List.mem_cons.mp hq with e | hq
    · subst e; omega
    · have := h q hq; omega
theorem NoLead.asked (W : Wf ps rk) {M r A : N → Int} {a : N} {V : N → Prop} (L : NoLead ps M a V) (hr : ∀ x, 0 ≤ r x) (h : Sol ps M r A) : r a ≤ A a := by
  obtain ⟨R, hR⟩ := rk_bound rk ps
  exact asked_of W L hr h hR R a (by omega) L.self
/-- a part of which none is there, and none can be had -/
theorem bad_part (W : Wf ps rk) {M : N → Int} {a : N} {V : N → Prop} (L : NoLead ps M a V) (hp : part a) (h0 : M a ≤ 0) : Bad ps part (dl a) M := by
  intro r s A hr hs h
  have z : dl a a = 1 := if_pos rfl
  have h1 := L.asked W (fun x => by have := hr x; rw [hs x]; unfold dl; split <;> omega) h
  have h2 := hs a
  have h3 := hr a
  exact ⟨a, hp, by omega⟩
/-- a pack of which none is there, and none can be had: its pieces are asked in its place -/
theorem step_build (W : Wf ps rk) (hpt : ∀ p ∈ ps, ¬ part p.name) {M : N → Int} {q : Pk N} {V : N → Prop} (L : NoLead ps M q.name V) (hq : q ∈ ps) (h0 : M q.name = 0) {r s t A : N → Int} (hr : ∀ x, 0 ≤ r x) (hs : ∀ x, s x = r x + dl q.name x) (h : Sol ps M s A)
    (ht : ∀ x, t x = r x + cnt q.sheet x) : ∃ A', Sol ps M t A' ∧ ∀ x, part x → A' x = A x := by
  have z : dl q.name q.name = 1 := if_pos rfl
  have h1 := L.asked W (fun x => by have := hr x; rw [hs x]; unfold dl; split <;> omega) h
  have h2 := hs q.name
  have h3 := hr q.name
  obtain ⟨A', hA⟩ : ∃ A' : N → Int, ∀ x, A' x = A x - dl q.name x := ⟨_, fun _ => rfl⟩
  refine ⟨A', fun x => ?_, fun x hx => ?_⟩
  · have e : sumI (fun p => cnt p.sheet x * turn M A' p) ps = sumI (fun p => cnt p.sheet x * turn M A p) ps + - cnt q.sheet x := by
      refine sumI_one W.nd hq (fun p _ hne => ?_) ?_
      · have z : dl q.name p.name = 0 := if_neg (Ne.symm hne)
        rw [turn_eq (M := M) (A := A) (by rw [hA, z]; omega)]
      · have e2 : turn M A' q = turn M A q + -1 := by
          unfold turn
          rw [hA q.name, z, h0]
          by_cases k : q.apart = true
          · rw [if_pos (.inl k), if_pos (.inl k)]; omega
          · rw [if_pos (c := q.apart = true ∨ A q.name > 0) (.inr (by omega))]
            by_cases g : A q.name - 1 > 0
            · rw [if_pos (.inr g)]; omega
            · rw [if_neg (by rintro (z | z); exact k z; exact g z)]; omega
        rw [e2, Int.mul_add, Int.mul_neg, Int.mul_one]
    have h4 := h x
    have h5 := hs x
    have h6 := ht x
    rw [e, hA x]
    omega
  · rw [hA x, show dl q.name x = 0 from if_neg fun e : q.name = x => hpt q hq (e ▸ hx)]
    omega
theorem built_step (W : Wf ps rk) (hpt : ∀ p ∈ ps, ¬ part p.name) {M M' : N → Int} {q : Pk N} {V : N → Prop} (L : NoLead ps M q.name V) (hq : q ∈ ps) (h0 : M q.name = 0) (b : Step ps part (cnt q.sheet) M M') : Step ps part (dl q.name) M M' := by
  intro r s A hr hs h
  obtain ⟨A1, h1, e1⟩ := step_build W hpt L hq h0 hr hs h (t := fun x => r x + cnt q.sheet x) fun _ => rfl
  obtain ⟨A2, h2, e2⟩ := b r _ A1 hr (fun _ => rfl) h1
  exact ⟨A2, h2, fun x hx => by rw [e2 x hx, e1 x hx]⟩
theorem built_bad (W : Wf ps rk) (hpt : ∀ p ∈ ps, ¬ part p.name) {M : N → Int} {q : Pk N} {V : N → Prop} (L : NoLead ps M q.name V) (hq : q ∈ ps) (h0 : M q.name = 0) (b : Bad ps part (cnt q.sheet) M) : Bad ps part (dl q.name) M := by
  intro r s A hr hs h
  obtain ⟨A1, h1, e1⟩ := step_build W hpt L hq h0 hr hs h (t := fun x => r x + cnt q.sheet x) fun _ => rfl
  obtain ⟨x, hx, hl⟩ := b r _ A1 hr (fun _ => rfl) h1
  exact ⟨x, hx, by have := e1 x hx; omega⟩
/-- nothing asked: nothing is overasked -/
theorem none_asked (W : Wf ps rk) {M r A : N → Int} (hM : ∀ x, 0 ≤ M x) (hr : ∀ x, r x = 0) (h : Sol ps M r A) : ∀ x, A x ≤ 0 := by
  obtain ⟨R, hR⟩ := rk_bound rk ps
  have key : ∀ (n : Nat) (x : N), R ≤ rk x + n → A x ≤ 0 := by
    intro n
    induction n with
    | zero =>
      intro x hx
      have e : sumI (fun p => cnt p.sheet x * turn M A p) ps ≤ 0 := sumI_nonpos fun p hp => by
        have : cnt p.sheet x = 0 := cnt_zero fun q hq e => by
          have h1 := W.rank p hp q hq
          have h2 := hR p hp
          rw [e] at h1
          omega
        rw [this, Int.zero_mul]; exact Int.le_refl 0
      have := h x
      have := hr x
      omega
    | succ n ih =>
      intro x hx
      have e : sumI (fun p => cnt p.sheet x * turn M A p) ps ≤ 0 := sumI_nonpos fun p hp => by
        by_cases c : cnt p.sheet x = 0
        · rw [c, Int.zero_mul]; exact Int.le_refl 0
        · obtain ⟨z, hz, ez⟩ := mem_of_cnt c
          have h1 := W.rank p hp z hz
          rw [ez] at h1
          have h2 := ih p.name (by omega)
          have h3 := hM p.name
          refine Int.mul_nonpos_of_nonneg_of_nonpos (W.cnt0 hp x) ?_
          unfold turn
          by_cases k : p.apart = true
          · rw [if_pos (.inl k)]; omega
          · rw [if_neg (by rintro (z | z); exact k z; omega)]; exact Int.le_refl 0
      have := h x
      have := hr x
      omega
  exact fun x => key R x (by omega)
end
end
end K57
namespace K57
open PySem PySem.Spec PyProof.Rows L2
def top (i : Nat) : Stmt := PySem.Challenge.pw_kitsleft_k57_whole_days_by_deeds.main.body.getD i (.Pass ⟨0, 0, 0, 0⟩)
abbrev s_is_integer : Stmt := top 3
abbrev s_is_number : Stmt := top 4
abbrev s_is_count : Stmt := top 5
abbrev s_is_name : Stmt := top 6
abbrev s_is_among : Stmt := top 7
abbrev s_is_tuple_of : Stmt := top 8
abbrev s_is_names : Stmt := top 9
abbrev s_is_counted : Stmt := top 10
abbrev s_first_names : Stmt := top 11
abbrev s_is_article : Stmt := top 12
abbrev s_is_row : Stmt := top 13
abbrev s_stocks_by : Stmt := top 15
abbrev s_packs_by : Stmt := top 16
abbrev s_outer_names : Stmt := top 17
abbrev s_names_at_bottom : Stmt := top 19
abbrev s_turns_and_asks : Stmt := top 20
abbrev s_left_by : Stmt := top 21
abbrev s_row_with : Stmt := top 23
abbrev s_rows_together : Stmt := top 24
abbrev s_want : Stmt := top 30
abbrev s_is_rising : Stmt := top 32
abbrev s_is_order : Stmt := top 33
abbrev s_are_orders : Stmt := top 34
abbrev s_is_coming : Stmt := top 35
abbrev s_are_goods : Stmt := top 36
abbrev s_want_no_choices : Stmt := top 37
abbrev s_want_schedule : Stmt := top 38
abbrev s_lacks_by_days : Stmt := top 39
abbrev s_first_late : Stmt := top 40
abbrev s_can_deliver : Stmt := top 41
abbrev s_law_spring : Stmt := top 43
abbrev s_law_dip : Stmt := top 44
abbrev s_law_pick : Stmt := top 45
abbrev s_law_same : Stmt := top 46
abbrev s_law_tags : Stmt := top 47
abbrev s_law_some : Stmt := top 48
abbrev s_law_sheet : Stmt := top 49
abbrev s_law_shop : Stmt := top 50
abbrev s_law_bare : Stmt := top 51
abbrev s_law_inner : Stmt := top 52
abbrev s_law_flat_sheets : Stmt := top 53
abbrev s_law_worth : Stmt := top 54
abbrev s_law_articles : Stmt := top 55
abbrev s_law_row : Stmt := top 56
abbrev s_law_there : Stmt := top 57
abbrev s_law_no_choices : Stmt := top 58
abbrev s_law_schedule : Stmt := top 59
abbrev s_law_leading : Stmt := top 60
abbrev s_law_got : Stmt := top 61
abbrev s_law_built : Stmt := top 62
abbrev s_law_hand_late : Stmt := top 63
abbrev s_law : Stmt := top 64
def d_is_integer : He.DefD := ⟨("is_integer", none), "is_integer", "is_integer", defArgs s_is_integer, defBody s_is_integer, defScope s_is_integer, [], []⟩
def d_is_number : He.DefD := ⟨("is_number", none), "is_number", "is_number", defArgs s_is_number, defBody s_is_number, defScope s_is_number, [], []⟩
def d_is_count : He.DefD := ⟨("is_count", none), "is_count", "is_count", defArgs s_is_count, defBody s_is_count, defScope s_is_count, [], []⟩
def d_is_name : He.DefD := ⟨("is_name", none), "is_name", "is_name", defArgs s_is_name, defBody s_is_name, defScope s_is_name, [], []⟩
def d_is_among : He.DefD := ⟨("is_among", none), "is_among", "is_among", defArgs s_is_among, defBody s_is_among, defScope s_is_among, [], []⟩
def d_is_tuple_of : He.DefD := ⟨("is_tuple_of", none), "is_tuple_of", "is_tuple_of", defArgs s_is_tuple_of, defBody s_is_tuple_of, defScope s_is_tuple_of, [], []⟩
def d_is_names : He.DefD := ⟨("is_names", none), "is_names", "is_names", defArgs s_is_names, defBody s_is_names, defScope s_is_names, [], []⟩
def d_is_counted : He.DefD := ⟨("is_counted", none), "is_counted", "is_counted", defArgs s_is_counted, defBody s_is_counted, defScope s_is_counted, [], []⟩
def d_first_names : He.DefD := ⟨("first_names", none), "first_names", "first_names", defArgs s_first_names, defBody s_first_names, defScope s_first_names, [], []⟩
def d_is_article : He.DefD := ⟨("is_article", none), "is_article", "is_article", defArgs s_is_article, defBody s_is_article, defScope s_is_article, [], []⟩
def d_is_row : He.DefD := ⟨("is_row", none), "is_row", "is_row", defArgs s_is_row, defBody s_is_row, defScope s_is_row, [], []⟩
def d_stocks_by : He.DefD := ⟨("stocks_by", none), "stocks_by", "stocks_by", defArgs s_stocks_by, defBody s_stocks_by, defScope s_stocks_by, [], []⟩
def d_packs_by : He.DefD := ⟨("packs_by", none), "packs_by", "packs_by", defArgs s_packs_by, defBody s_packs_by, defScope s_packs_by, [], []⟩
def d_outer_names : He.DefD := ⟨("outer_names", none), "outer_names", "outer_names", defArgs s_outer_names, defBody s_outer_names, defScope s_outer_names, [], []⟩
def d_names_at_bottom : He.DefD := ⟨("names_at_bottom", none), "names_at_bottom", "names_at_bottom", defArgs s_names_at_bottom, defBody s_names_at_bottom, defScope s_names_at_bottom, [], []⟩
def d_turns_and_asks : He.DefD := ⟨("turns_and_asks", none), "turns_and_asks", "turns_and_asks", defArgs s_turns_and_asks, defBody s_turns_and_asks, defScope s_turns_and_asks, [], []⟩
def d_left_by : He.DefD := ⟨("left_by", none), "left_by", "left_by", defArgs s_left_by, defBody s_left_by, defScope s_left_by, [], []⟩
def d_row_with : He.DefD := ⟨("row_with", none), "row_with", "row_with", defArgs s_row_with, defBody s_row_with, defScope s_row_with, [], []⟩
def d_rows_together : He.DefD := ⟨("rows_together", none), "rows_together", "rows_together", defArgs s_rows_together, defBody s_rows_together, defScope s_rows_together, [], []⟩
def d_want : He.DefD := ⟨("want", none), "want", "want", defArgs s_want, defBody s_want, defScope s_want, [.int (-1)], []⟩
def d_is_rising : He.DefD := ⟨("is_rising", none), "is_rising", "is_rising", defArgs s_is_rising, defBody s_is_rising, defScope s_is_rising, [], []⟩
def d_is_order : He.DefD := ⟨("is_order", none), "is_order", "is_order", defArgs s_is_order, defBody s_is_order, defScope s_is_order, [], []⟩
def d_are_orders : He.DefD := ⟨("are_orders", none), "are_orders", "are_orders", defArgs s_are_orders, defBody s_are_orders, defScope s_are_orders, [], []⟩
def d_is_coming : He.DefD := ⟨("is_coming", none), "is_coming", "is_coming", defArgs s_is_coming, defBody s_is_coming, defScope s_is_coming, [], []⟩
def d_are_goods : He.DefD := ⟨("are_goods", none), "are_goods", "are_goods", defArgs s_are_goods, defBody s_are_goods, defScope s_are_goods, [], []⟩
def d_want_no_choices : He.DefD := ⟨("want_no_choices", none), "want_no_choices", "want_no_choices", defArgs s_want_no_choices, defBody s_want_no_choices, defScope s_want_no_choices, [], []⟩
def d_want_schedule : He.DefD := ⟨("want_schedule", none), "want_schedule", "want_schedule", defArgs s_want_schedule, defBody s_want_schedule, defScope s_want_schedule, [], []⟩
def d_lacks_by_days : He.DefD := ⟨("lacks_by_days", none), "lacks_by_days", "lacks_by_days", defArgs s_lacks_by_days, defBody s_lacks_by_days, defScope s_lacks_by_days, [], []⟩
def d_first_late : He.DefD := ⟨("first_late", none), "first_late", "first_late", defArgs s_first_late, defBody s_first_late, defScope s_first_late, [], []⟩
def d_can_deliver : He.DefD := ⟨("can_deliver", none), "can_deliver", "can_deliver", defArgs s_can_deliver, defBody s_can_deliver, defScope s_can_deliver, [], []⟩
def d_law_spring : He.DefD := ⟨("_law_spring", none), "_law_spring", "_law_spring", defArgs s_law_spring, defBody s_law_spring, defScope s_law_spring, [], []⟩
def d_law_dip : He.DefD := ⟨("_law_dip", none), "_law_dip", "_law_dip", defArgs s_law_dip, defBody s_law_dip, defScope s_law_dip, [], []⟩
def d_law_pick : He.DefD := ⟨("_law_pick", none), "_law_pick", "_law_pick", defArgs s_law_pick, defBody s_law_pick, defScope s_law_pick, [], []⟩
def d_law_same : He.DefD := ⟨("_law_same", none), "_law_same", "_law_same", defArgs s_law_same, defBody s_law_same, defScope s_law_same, [], []⟩
def d_law_tags : He.DefD := ⟨("_law_tags", none), "_law_tags", "_law_tags", defArgs s_law_tags, defBody s_law_tags, defScope s_law_tags, [], []⟩
def d_law_some : He.DefD := ⟨("_law_some", none), "_law_some", "_law_some", defArgs s_law_some, defBody s_law_some, defScope s_law_some, [], []⟩
def d_law_sheet : He.DefD := ⟨("_law_sheet", none), "_law_sheet", "_law_sheet", defArgs s_law_sheet, defBody s_law_sheet, defScope s_law_sheet, [], []⟩
def d_law_shop : He.DefD := ⟨("_law_shop", none), "_law_shop", "_law_shop", defArgs s_law_shop, defBody s_law_shop, defScope s_law_shop, [], []⟩
def d_law_bare : He.DefD := ⟨("_law_bare", none), "_law_bare", "_law_bare", defArgs s_law_bare, defBody s_law_bare, defScope s_law_bare, [], []⟩
def d_law_inner : He.DefD := ⟨("_law_inner", none), "_law_inner", "_law_inner", defArgs s_law_inner, defBody s_law_inner, defScope s_law_inner, [], []⟩
def d_law_flat_sheets : He.DefD := ⟨("_law_flat_sheets", none), "_law_flat_sheets", "_law_flat_sheets", defArgs s_law_flat_sheets, defBody s_law_flat_sheets, defScope s_law_flat_sheets, [], []⟩
def d_law_worth : He.DefD := ⟨("_law_worth", none), "_law_worth", "_law_worth", defArgs s_law_worth, defBody s_law_worth, defScope s_law_worth, [], []⟩
def d_law_articles : He.DefD := ⟨("_law_articles", none), "_law_articles", "_law_articles", defArgs s_law_articles, defBody s_law_articles, defScope s_law_articles, [], []⟩
def d_law_row : He.DefD := ⟨("_law_row", none), "_law_row", "_law_row", defArgs s_law_row, defBody s_law_row, defScope s_law_row, [], []⟩
def d_law_there : He.DefD := ⟨("_law_there", none), "_law_there", "_law_there", defArgs s_law_there, defBody s_law_there, defScope s_law_there, [], []⟩
def d_law_no_choices : He.DefD := ⟨("_law_no_choices", none), "_law_no_choices", "_law_no_choices", defArgs s_law_no_choices, defBody s_law_no_choices, defScope s_law_no_choices, [], []⟩
def d_law_schedule : He.DefD := ⟨("_law_schedule", none), "_law_schedule", "_law_schedule", defArgs s_law_schedule, defBody s_law_schedule, defScope s_law_schedule, [], []⟩
def d_law_leading : He.DefD := ⟨("_law_leading", none), "_law_leading", "_law_leading", defArgs s_law_leading, defBody s_law_leading, defScope s_law_leading, [], []⟩
def d_law_got : He.DefD := ⟨("_law_got", none), "_law_got", "_law_got", defArgs s_law_got, defBody s_law_got, defScope s_law_got, [], []⟩
def d_law_built : He.DefD := ⟨("_law_built", none), "_law_built", "_law_built", defArgs s_law_built, defBody s_law_built, defScope s_law_built, [], []⟩
def d_law_hand_late : He.DefD := ⟨("_law_hand_late", none), "_law_hand_late", "_law_hand_late", defArgs s_law_hand_late, defBody s_law_hand_late, defScope s_law_hand_late, [], []⟩
def d_law : He.DefD := ⟨("law", none), "law", "law", defArgs s_law, defBody s_law, defScope s_law, [], []⟩
def fn : List He.DefD := [d_is_integer, d_is_number, d_is_count, d_is_name, d_is_among, d_is_tuple_of, d_is_names, d_is_counted, d_first_names, d_is_article, d_is_row, d_stocks_by, d_packs_by, d_outer_names, d_names_at_bottom, d_turns_and_asks, d_left_by, d_row_with, d_rows_together, d_want, d_is_rising, d_is_order, d_are_orders, d_is_coming, d_are_goods, d_want_no_choices, d_want_schedule, d_lacks_by_days, d_first_late, d_can_deliver, d_law_spring, d_law_dip, d_law_pick, d_law_same, d_law_tags, d_law_some, d_law_sheet, d_law_shop, d_law_bare, d_law_inner, d_law_flat_sheets, d_law_worth, d_law_articles, d_law_row, d_law_there, d_law_no_choices, d_law_schedule, d_law_leading, d_law_got, d_law_built, d_law_hand_late, d_law]
def fa : List He.Fa := [.glo "is_integer", .glo "is_number", .glo "is_count", .glo "is_name", .glo "is_among", .glo "is_tuple_of", .glo "is_names", .glo "is_counted", .glo "first_names", .glo "is_article", .glo "is_row", .glo "stocks_by", .glo "packs_by", .glo "outer_names", .glo "names_at_bottom", .glo "turns_and_asks", .glo "left_by", .glo "row_with", .glo "rows_together", .glo "want", .glo "is_rising", .glo "is_order", .glo "are_orders", .glo "is_coming", .glo "are_goods", .glo "want_no_choices", .glo "want_schedule", .glo "lacks_by_days", .glo "first_late", .glo "can_deliver", .glo "_law_spring", .glo "_law_dip", .glo "_law_pick", .glo "_law_same", .glo "_law_tags", .glo "_law_some", .glo "_law_sheet", .glo "_law_shop", .glo "_law_bare", .glo "_law_inner", .glo "_law_flat_sheets", .glo "_law_worth", .glo "_law_articles", .glo "_law_row", .glo "_law_there", .glo "_law_no_choices", .glo "_law_schedule", .glo "_law_leading", .glo "_law_got", .glo "_law_built", .glo "_law_hand_late", .glo "law", .free "isinstance", .free "int", .free "bool", .free "str", .free "len", .free "all", .free "any", .free "tuple", .free "zip", .free "sorted", .free "set", .free "list", .free "dict", .free "range", .free "sum", .free "min", .free "max", .free "repr", .str "LETTERS" "abcdefghijklmnopqrstuvwxyz", .int "LONGEST_NAME" 8]

/-! ### what the walks ask of the top -/
structure Tx (K : PySem.W.Frag) (mg : Str → Option Value) : Prop where
  defs : ∀ d ∈ fn, ∃ f fd, FunD K d.name d.qual d.params d.body d.scope (d.dvs K) (d.kws K) f fd ∧ mg d.name = some (.ref f)
  m_isinstance : mg "isinstance" = none
  m_int : mg "int" = none
  m_bool : mg "bool" = none
  m_str : mg "str" = none
  m_len : mg "len" = none
  m_all : mg "all" = none
  m_any : mg "any" = none
  m_tuple : mg "tuple" = none
  m_zip : mg "zip" = none
  m_sorted : mg "sorted" = none
  m_set : mg "set" = none
  m_list : mg "list" = none
  m_dict : mg "dict" = none
  m_range : mg "range" = none
  m_sum : mg "sum" = none
  m_min : mg "min" = none
  m_max : mg "max" = none
  m_repr : mg "repr" = none
  letters : ∃ t, mg "LETTERS" = some (.str "abcdefghijklmnopqrstuvwxyz" t)
  longest : ∃ t, mg "LONGEST_NAME" = some (.int 8 t)
/-- a def keeps a promise, and can be called -/
structure OkF (P : Program) (w : World) (K : PySem.W.Frag) (mg : Str → Option Value) (base : Heap) (x : Str) (k : Nat) (ps : List Str) (dvs : List V) (sp : Sp) : Prop where
  ex : ∃ f fd ds, FnOk P w K mg base CX0 k f fd ps sp ∧ mg x = some (.ref f) ∧ PySem.W.keepIn K (.ref f) = true ∧ Binds K fd ps ds ∧ Vals dvs ds
theorem OkF.imp {P : Program} {w : World} {K : PySem.W.Frag} {mg : Str → Option Value} {base : Heap} {x : Str} {k : Nat} {ps : List Str} {dvs : List V} {sp sp' : Sp} (O : OkF P w K mg base x k ps dvs sp)
    (h : ∀ vs H Q E, sp' vs H Q E → sp vs H Q E) : OkF P w K mg base x k ps dvs sp' := by
  obtain ⟨f, fd, ds, a, b, c, d, e⟩ := O.ex
  exact ⟨f, fd, ds, a.imp h, b, c, d, e⟩
section
variable {X : Cx} {x : Str} {j k : Nat} {ps : List Str} {dvs : List V} {sp : Sp} {e : Expr} {es : List Expr} {t : TA} {p pos : Pos}
theorem pe_callO (O : OkF X.prog X.w X.K X.mg X.base x j ps dvs sp) (hr : Room k X.A) (ha : PA X (e :: es) t) (hg : Gl X x := by rfl) (hjk : j ≤ k := by decide) (hdb : (x == ("__debug__" : Str)) = false := by decide)
    (he : starEach (e :: es) X.env = (false, eval e X.env) :: starEach es X.env := by rfl) (hpl : (backTo pos (starEach es X.env)).any (·.1) = false := by rfl) : PE X (.Call (.Name x p) (e :: es) [] pos) (tCall sp dvs E0 t) := by
  obtain ⟨f, fd, ds, a, b, c, d, v⟩ := O.ex
  exact pe_call a (hr.mono hjk) hg b c d v pass0 ha hdb he hpl
end
section
variable {P : Program} {w : World} {K : PySem.W.Frag} {mg : Str → Option Value} {base : Heap} {N ps : List Str} {k : Nat} {sp : Sp}
/-- THE RULE for a def of the text without defaults -/
theorem okF_mk (d : He.DefD) (T : Tx K mg) (hd : d ∈ fn) (hdv : d.dfl = []) (hkw : d.kwd = [])
    (S : FnScope N ps d.scope) (hb : ∀ (kV doc pm : Value) (an : Option Addr) (cdv ct : Value) (us : List Value), us.length = ps.length → bindArgs (PySem.W.fnOf d.name d.qual d.params d.body d.scope .none kV doc pm an cdv ct) ⟨us, []⟩ = pure (ps.zip us))
    (len : ∀ vs H Q E, sp vs H Q E → vs.length = ps.length)
    (hbody : ∀ (f : Addr) (cdv : Value) (A : Around) (outer : List Env) (s : Shared) (H : Hp) (vs : List V) (Q : VK) (E : XK), Room k (A.deeper (envOfC d.qual d.scope s.heap.objs.size f cdv)) → sp vs H Q E →
      ∃ t, PSs (cxOf CX0 P w K mg base N d.qual d.scope f cdv A outer s H E).nox d.body t ∧ t { nx := fun _ H' => Q .non H', rt := Q } (start N vs) H) : OkF P w K mg base d.name (k + 1) ps [] sp := by
  obtain ⟨f, fd, F, hm⟩ := T.defs d hd
  have e1 : d.dvs K = [] := by show d.dfl.map _ = []; rw [hdv]; rfl
  rw [e1] at F
  refine ⟨f, fd, [], F.ok S len fun cdv A outer s H vs Q E hr h => ?_, hm, F.kp, F.bindsN hb, .nil⟩
  obtain ⟨t, h1, h2⟩ := hbody f cdv A outer s H vs Q E hr h
  exact ⟨t, h1.nox, h2⟩
end
/-! ### how arguments bind: one to four parameters -/
theorem fn_mem {d : He.DefD} (i : Nat) (h : fn[i]? = some d) : d ∈ fn := List.mem_of_getElem? h
theorem hu65_of {A : Around} {k : Nat} (hr : Room k A) : A.units + 65 < cLine := by have := hr.un; omega
theorem b_isinstance : bootBuiltins "isinstance" = some (.builtin "isinstance") := by decide +kernel
theorem b_int : bootBuiltins "int" = some (.type "int") := by decide +kernel
theorem b_bool : bootBuiltins "bool" = some (.type "bool") := by decide +kernel
theorem b_str : bootBuiltins "str" = some (.type "str") := by decide +kernel
theorem b_len : bootBuiltins "len" = some (.builtin "len") := by decide +kernel
theorem b_all : bootBuiltins "all" = some (.builtin "all") := by decide +kernel
theorem b_any : bootBuiltins "any" = some (.builtin "any") := by decide +kernel
theorem b_tuple : bootBuiltins "tuple" = some (.type "tuple") := by decide +kernel
theorem b_zip : bootBuiltins "zip" = some (.type "zip") := by decide +kernel
theorem b_sorted : bootBuiltins "sorted" = some (.builtin "sorted") := by decide +kernel
theorem b_set : bootBuiltins "set" = some (.type "set") := by decide +kernel
theorem b_list : bootBuiltins "list" = some (.type "list") := by decide +kernel
theorem b_dict : bootBuiltins "dict" = some (.type "dict") := by decide +kernel
theorem b_range : bootBuiltins "range" = some (.type "range") := by decide +kernel
theorem b_sum : bootBuiltins "sum" = some (.builtin "sum") := by decide +kernel
theorem b_min : bootBuiltins "min" = some (.builtin "min") := by decide +kernel
theorem b_max : bootBuiltins "max" = some (.builtin "max") := by decide +kernel
theorem b_repr : bootBuiltins "repr" = some (.builtin "repr") := by decide +kernel
end K57
namespace K57
open PySem PySem.Spec PyProof.Rows L2
/-! ### heaps -/
/-- all tuples stand as they stood -/
def Tk (H H' : Hp) : Prop := ∀ b xs, H b = some (.tup xs) → H' b = some (.tup xs)
/-- all but what stands at e -/
def Kp (e : Addr) (H H' : Hp) : Prop := ∀ b o, b ≠ e → H b = some o → H' b = some o
theorem Tk.refl (H : Hp) : Tk H H := fun _ _ h => h
theorem Tk.trans {H H1 H2 : Hp} (a : Tk H H1) (b : Tk H1 H2) : Tk H H2 := fun c o h => b c o (a c o h)
theorem tk_of {H H' : Hp} (s : Same H H') : Tk H H' := fun b xs h => s b _ h
theorem Kp.refl (e : Addr) (H : Hp) : Kp e H H := fun _ _ _ h => h
theorem Kp.trans {e : Addr} {H H1 H2 : Hp} (a : Kp e H H1) (b : Kp e H1 H2) : Kp e H H2 := fun c o n h => b c o n (a c o n h)
theorem kp_of {e : Addr} {H H' : Hp} (s : Same H H') : Kp e H H' := fun b o _ h => s b o h
/-- a new object -/
structure New (H : Hp) (p : Addr) (o : HO) (H' : Hp) : Prop where
  none_ : H p = none
  at_ : H' p = some o
  same : Same H H'
theorem same_upd {H : Hp} {p : Addr} {o : HO} (h : H p = none) : Same H (upd H p o) := fun b x e => by rw [upd_ne (ne_of_none e h)]; exact e
theorem new_upd {H : Hp} {p : Addr} {o : HO} (h : H p = none) : New H p o (upd H p o) := ⟨h, upd_same, same_upd h⟩
/-- an object changed -/
structure Md (H : Hp) (a : Addr) (o : HO) (H' : Hp) : Prop where
  at_ : H' a = some o
  else_ : ∀ b, b ≠ a → H' b = H b
theorem md_upd {H : Hp} {a : Addr} {o : HO} : Md H a o (upd H a o) := ⟨upd_same, fun _ h => upd_ne h⟩
theorem Md.kp {H : Hp} {a : Addr} {o : HO} {H' : Hp} (m : Md H a o H') : Kp a H H' := fun b x n h => by rw [m.else_ b n]; exact h
theorem Md.tk {H : Hp} {a : Addr} {o o' : HO} {H' : Hp} (m : Md H a o H') (h : H a = some o') (n : ∀ xs, o' ≠ .tup xs) : Tk H H' := fun b xs e => by
  rw [m.else_ b (fun z => by rw [z, h] at e; exact n xs (Option.some.inj e))]; exact e
/-- .. of what was new: what stood ahead stands -/
theorem Md.same {H0 H : Hp} {a : Addr} {o : HO} {H' : Hp} (m : Md H a o H') (s : Same H0 H) (n : H0 a = none) : Same H0 H' := fun b x e => by
  rw [m.else_ b (ne_of_none e n)]; exact s b x e
theorem Kp.same {H0 H H' : Hp} {e : Addr} (k : Kp e H H') (s : Same H0 H) (n : H0 e = none) : Same H0 H' := fun b x h => k b x (ne_of_none h n) (s b x h)

/-! ### rules whose new heaps are told by what stands there -/
section
variable {X : Cx}
theorem CallR.imp {f : Value} {r r' : List V → Hp → VK → Prop} (h : CallR X f r) (i : ∀ xs H Q, r' xs H Q → r xs H Q) : CallR X f r' := fun pins s σ H xs us Q I rx q => h pins s σ H xs us Q I rx (i _ _ _ q)
theorem OpR.imp {f : Value → Value → Sem Value} {r r' : R2} (h : OpR X f r) (i : ∀ x y H Q, r' x y H Q → r x y H Q) : OpR X f r' := fun pins s σ H x y v u Q I rx ry q => h pins s σ H x y v u Q I rx ry (i _ _ _ _ q)
theorem SlR.imp {r r' : V → Option Int → Option Int → Hp → VK → Prop} (h : SlR X r) (i : ∀ x lo hi H Q, r' x lo hi H Q → r x lo hi H Q) : SlR X r' := fun pins s σ H x v vl vu lo hi sl Q I rx hs pl pu q => h pins s σ H x v vl vu lo hi sl Q I rx hs pl pu (i _ _ _ _ _ q)
def tTupN (t : TA) : TE := fun σ H Q => t σ H fun xs H1 => xs.length ≤ sizeLine ∧ ∀ p H2, New H1 p (.tup xs) H2 → Q (.ref p) H2
def tLstN (t : TA) : TE := fun σ H Q => t σ H fun xs H1 => xs.length ≤ sizeLine ∧ ∀ p H2, New H1 p (.lst xs) H2 → Q (.ref p) H2
theorem pe_tupN {es : List Expr} {t : TA} {pos : Pos} {x1} (h : PA X es t) : PE X (.Tuple es x1 pos) (tTupN t) := by
  refine ⟨fun pins s σ H Q I hq => ?_⟩
  refine wpAny_Tuple_spliced (thn (h.run pos pins s σ H _ I hq) fun us s1 ⟨xs, H1, I1, r, z, q⟩ => ⟨by rw [← r.length]; exact z, ?_⟩)
  have hf : H1 s1.heap.objs.size = none := I1.hok.fresh (Nat.le_refl _)
  refine ⟨.ref s1.heap.objs.size, upd H1 s1.heap.objs.size (.tup xs), I1.laid (t' := s1.toks) (fun b u e => Heap.get?_push_of_some _ e) (Nat.le_refl _) ?_, rfl, q _ _ (new_upd hf)⟩
  exact ⟨z, us, r, ⟨_, Heap.get?_push_size _ rfl, rfl, _, rfl⟩⟩
theorem pe_lstN {es : List Expr} {t : TA} {pos : Pos} (h : PA X es t) : PE X (.List es pos) (tLstN t) := by
  refine ⟨fun pins s σ H Q I hq => ?_⟩
  refine wpAny_List_spliced (thn (h.run pos pins s σ H _ I hq) fun us s1 ⟨xs, H1, I1, r, z, q⟩ => ⟨by rw [← r.length]; exact z, ?_⟩)
  have hf : H1 s1.heap.objs.size = none := I1.hok.fresh (Nat.le_refl _)
  refine ⟨.ref s1.heap.objs.size, upd H1 s1.heap.objs.size (.lst xs), I1.laid (t' := s1.toks) (fun b u e => Heap.get?_push_of_some _ e) (Nat.le_refl _) ?_, rfl, q _ _ (new_upd hf)⟩
  exact ⟨z, us, 0, r, Heap.get?_push_size _ rfl⟩
def tDNewN : TE := fun _ H Q => ∀ p H2, New H p (.dK []) H2 → Q (.ref p) H2
theorem pe_dnewN {pos : Pos} : PE X (.Dict [] [] pos) tDNewN := ⟨fun pins s σ H Q I h => pe_dnewK.run pins s σ H Q I fun p np => h p _ (new_upd np)⟩
/-- a tracked list or tuple -/
def SqA (H : Hp) (p : Addr) (ys : List V) : Prop := H p = some (.lst ys) ∨ H p = some (.tup ys)
theorem SqA.sq {K : PySem.W.Frag} {H : Hp} {p : Addr} {ys : List V} (h : SqA H p ys) : SqL K H p ys ∨ SqT K H p ys := h.elim (fun h => .inl (SqL.of h)) fun h => .inr (SqT.of h)
theorem call_list_ofN : CallR X (.type "list") (fun xs H Q => ∃ p ys, xs = [.ref p] ∧ SqA H p ys ∧ ∀ l H2, New H l (.lst ys) H2 → Q (.ref l) H2) :=
  CallR.imp call_list_of fun _ _ _ ⟨p, ys, e, h, q⟩ => ⟨p, ys, e, h.sq, fun l nl => q l _ (new_upd nl)⟩
theorem call_tuple_ofN : CallR X (.type "tuple") (fun xs H Q => ∃ p ys, xs = [.ref p] ∧ H p = some (.lst ys) ∧ ∀ l H2, New H l (.tup ys) H2 → Q (.ref l) H2) :=
  CallR.imp call_tuple_of fun _ _ _ ⟨p, ys, e, h, q⟩ => ⟨p, ys, e, .inl ⟨SqL.of h, fun l nl => q l _ (new_upd nl)⟩⟩
theorem call_list_dKN : X.calm = true → CallR X (.type "list") (fun xs H Q => ∃ p kvs, xs = [.ref p] ∧ H p = some (.dK kvs) ∧ ∀ l H2, New H l (.lst (kvs.map fun kv => kV kv.1)) H2 → Q (.ref l) H2) := fun hc =>
  CallR.imp (call_list_dK hc) fun _ _ _ ⟨p, kvs, e, h, q⟩ => ⟨p, kvs, e, h, fun l nl => q l _ (new_upd nl)⟩
theorem call_len_seqN : CallR X (.builtin "len") (fun xs H Q => ∃ p ys, xs = [.ref p] ∧ SqA H p ys ∧ Q (.int ys.length) H) :=
  CallR.imp call_len_seq fun _ _ _ ⟨p, ys, e, h, q⟩ => ⟨p, ys, e, h.sq, q⟩
theorem sl_listN : SlR X (fun x lo hi H Q => ∃ a xs, x = .ref a ∧ H a = some (.lst xs) ∧ ∀ p H2, New H p (.lst (cutV xs lo hi)) H2 → Q (.ref p) H2) :=
  SlR.imp sl_list fun _ _ _ _ _ ⟨a, xs, e, h, q⟩ => ⟨a, xs, e, SqL.of h, fun p np => q p _ (new_upd np)⟩
/-- a slice of a tuple: some tuple of these items -/
theorem sl_tupN : SlR X (fun x lo hi H Q => ∃ a xs, x = .ref a ∧ H a = some (.tup xs) ∧ ∀ p H2, Same H H2 → H2 p = some (.tup (cutV xs lo hi)) → Q (.ref p) H2) :=
  SlR.imp sl_tupA fun x lo hi H Q ⟨a, xs, e, h, q⟩ => ⟨a, xs, e, SqT.of h, fun w => q a H (Same.refl H) (by
    have : cutV xs lo hi = xs := by
      unfold cutV
      rw [w.1, w.2, List.drop_zero, Nat.sub_zero, List.take_length]
    rw [this]; exact h), fun _ p np => q p _ (same_upd np) upd_same⟩
theorem op_catN : OpR X (binaryOp .Add) (fun x y H Q => ∃ l b xs zs, x = .ref l ∧ y = .ref b ∧ H l = some (.lst xs) ∧ H b = some (.lst zs) ∧ xs.length + zs.length ≤ sizeLine ∧ ∀ p H2, New H p (.lst (xs ++ zs)) H2 → Q (.ref p) H2) :=
  OpR.imp op_cat fun _ _ _ _ ⟨l, b, xs, zs, e1, e2, h1, h2, hz, q⟩ => ⟨l, b, xs, zs, e1, e2, h1, h2, hz, fun p np => q p _ (new_upd np)⟩
theorem op_catTN : OpR X (binaryOp .Add) (fun x y H Q => ∃ l b xs zs, x = .ref l ∧ y = .ref b ∧ H l = some (.tup xs) ∧ H b = some (.tup zs) ∧ xs ≠ [] ∧ zs ≠ [] ∧ xs.length + zs.length ≤ sizeLine ∧ ∀ p H2, New H p (.tup (xs ++ zs)) H2 → Q (.ref p) H2) :=
  OpR.imp op_catA fun _ _ _ _ ⟨l, b, xs, zs, e1, e2, h1, h2, n1, n2, hz, q⟩ => ⟨l, b, xs, zs, e1, e2, SqT.of h1, SqT.of h2, hz, fun z => absurd z n1, fun _ z => absurd z n2, fun _ _ p np => q p _ (new_upd np)⟩
theorem mt_appendN : MtR X "list.append" (fun x vs H Q => ∃ l xs y, x = .ref l ∧ vs = [y] ∧ H l = some (.lst xs) ∧ xs.length < sizeLine ∧ ∀ H2, Md H l (.lst (xs ++ [y])) H2 → Q .non H2) := by
  intro pins s σ H x xs v us Q I rx rxs h
  obtain ⟨l, ys, y, e1, e2, h1, hz, q⟩ := h
  exact mt_append pins s σ H x xs v us Q I rx rxs ⟨l, ys, y, e1, e2, h1, hz, q _ md_upd⟩
theorem dput_of {H : Hp} {a : Addr} {kvs : List (Key × V)} {v : V} (k : Key) (e : H a = some (.dK kvs)) (hl : kvs.length < sizeLine) : ∃ H4, DPut H a (kV k) v H4 ∧ Md H a (.dK (putK kvs k v)) H4 := ⟨_, DPut.k e hl, md_upd⟩
/-- isinstance in the four answers that the program gets -/
def rIsG : List V → Hp → VK → Prop := fun xs H Q =>
  (∃ i, xs = [.int i, .ty "int"] ∧ Q (.bl true) H) ∨ (∃ i, xs = [.int i, .ty "bool"] ∧ Q (.bl false) H) ∨ (∃ s, xs = [.str s, .ty "str"] ∧ Q (.bl true) H) ∨ (∃ a ys, xs = [.ref a, .ty "tuple"] ∧ H a = some (.tup ys) ∧ Q (.bl true) H)
theorem call_isG : CallR X (.builtin "isinstance") rIsG := by
  intro pins s σ H xs us Q I r h
  refine call_isi pins s σ H xs us Q I r ?_
  rcases h with ⟨i, rfl, q⟩ | ⟨i, rfl, q⟩ | ⟨z, rfl, q⟩ | ⟨a, ys, rfl, ha, q⟩
  · exact ⟨_, _, _, _, true, rfl, .ty "int", .base (.int i), kit_ty (by decide +kernel), q⟩
  · exact ⟨_, _, _, _, false, rfl, .ty "bool", .base (.int i), kit_ty (by decide +kernel), q⟩
  · exact ⟨_, _, _, _, true, rfl, .ty "str", .base (.str z), kit_ty (by decide +kernel), q⟩
  · exact ⟨_, _, _, _, true, rfl, .ty "tuple", .base (.tup ha), kit_ty (by decide +kernel), q⟩
/-! rules that do not speak of the written part -/
theorem IxR.imp {r r' : R2} (h : IxR X r) (i : ∀ x y H Q, r' x y H Q → r x y H Q) : IxR X r' := fun value slice pins s σ H x y v u Q I rx ry q hs => h value slice pins s σ H x y v u Q I rx ry (i _ _ _ _ q) hs
theorem ix_listN : IxR X (fun x y H Q => ∃ p xs i v, x = .ref p ∧ y = .int i ∧ H p = some (.lst xs) ∧ atI xs i = some v ∧ Q v H) := IxR.imp ix_list fun _ _ _ _ ⟨p, xs, i, v, e1, e2, h, e, q⟩ => ⟨p, xs, i, v, e1, e2, SqL.of h, e, q⟩
theorem ix_tupN : IxR X (fun x y H Q => ∃ p xs i v, x = .ref p ∧ y = .int i ∧ H p = some (.tup xs) ∧ atI xs i = some v ∧ Q v H) := IxR.imp ix_tup fun _ _ _ _ ⟨p, xs, i, v, e1, e2, h, e, q⟩ => ⟨p, xs, i, v, e1, e2, SqT.of h, e, q⟩
def rInN (neg : Bool) : R2 := fun x y H Q => ∃ (z : Str) (p : Addr) (ns : List Str), x = .str z ∧ y = .ref p ∧ H p = some (.lst (ns.map V.str)) ∧ Q (.bl (if neg then !decide (z ∈ ns) else decide (z ∈ ns))) H
theorem inV_str (z : Str) : ∀ ns : List Str, inV (.str z) (ns.map V.str) = decide (z ∈ ns)
  | [] => by simp [inV]
  | n :: ns => by
    have ih := inV_str z ns
    unfold inV at ih ⊢
    rw [List.map_cons, List.any_cons, ih]
    by_cases e : n = z
    · subst e; simp [eqV]
    · have e' : ¬ z = n := fun h => e h.symm
      simp [eqV, e, e']
theorem flat_strs (ns : List Str) : (ns.map V.str).all flatV = true := by
  rw [List.all_eq_true]
  intro v hv
  obtain ⟨n, _, rfl⟩ := List.mem_map.mp hv
  rfl
theorem op_inN : OpR X (compareOp .In) (rInN false) := OpR.imp op_in_seq fun _ _ _ _ ⟨z, p, ns, e1, e2, h, q⟩ => ⟨p, _, e2, .inl (SqL.of h), by rw [e1]; rfl, flat_strs ns, by
  rw [e1]
  show _
  have e := inV_str z ns
  simp only [if_neg Bool.false_ne_true] at q ⊢
  rw [e]; exact q⟩
theorem op_notInN : OpR X (compareOp .NotIn) (rInN true) := OpR.imp op_notIn_seq fun _ _ _ _ ⟨z, p, ns, e1, e2, h, q⟩ => ⟨p, _, e2, .inl (SqL.of h), by rw [e1]; rfl, flat_strs ns, by
  rw [e1]
  have e := inV_str z ns
  simp only [if_pos] at q ⊢
  rw [e]; exact q⟩
theorem cr_allN (hc : X.calm = true) : CallR X (.builtin "all") (fun vs H Q => ∃ (a : Addr) (bs : List Bool), vs = [.ref a] ∧ H a = some (.lst (bs.map V.bl)) ∧ Q (.bl (bs.all id)) H) := CallR.imp (cr_all hc) fun _ _ _ ⟨a, bs, e, h, q⟩ => ⟨a, bs, e, SqL.of h, q⟩
theorem cr_anyN (hc : X.calm = true) : CallR X (.builtin "any") (fun vs H Q => ∃ (a : Addr) (bs : List Bool), vs = [.ref a] ∧ H a = some (.lst (bs.map V.bl)) ∧ Q (.bl (bs.any id)) H) := CallR.imp (cr_any hc) fun _ _ _ ⟨a, bs, e, h, q⟩ => ⟨a, bs, e, SqL.of h, q⟩
theorem cr_sumN (hc : X.calm = true) : CallR X (.builtin "sum") (fun vs H Q => ∃ (a : Addr) (ns : List Int), vs = [.ref a] ∧ H a = some (.lst (ns.map V.int)) ∧ Q (.int ns.sum) H) := CallR.imp (cr_sum hc) fun _ _ _ ⟨a, ns, e, h, q⟩ => ⟨a, ns, e, SqL.of h, q⟩
def iLstN (tl : TE) : TI := fun σ H R => tl σ H fun x H1 => ∃ a, x = .ref a ∧ (∃ xs, H1 a = some (.lst xs)) ∧ ∀ K, R (Itl K a) H1
def iTupN (tl : TE) : TI := fun σ H R => tl σ H fun x H1 => ∃ a, x = .ref a ∧ (∃ xs, H1 a = some (.tup xs)) ∧ ∀ K, R (Itt K a) H1
theorem pi_lstN {tg l : Expr} {tl : TE} (h : PE X l tl) : PI X tg l (iLstN tl) := by
  have h2 : PE X l (fun σ H Q => tl σ H Q) := h
  refine ⟨fun pins s σ H R I hw => ?_⟩
  have z : PE X l (fun σ' H' Q => tl σ H (fun x H1 => ∃ a, x = .ref a ∧ (∃ xs, H1 a = some (.lst xs)) ∧ ∀ K, R (Itl K a) H1) ∧ σ' = σ ∧ H' = H ∧ ∀ x H1, (∃ a, x = .ref a ∧ (∃ xs, H1 a = some (.lst xs)) ∧ ∀ K, R (Itl K a) H1) → Q x H1) :=
    ⟨fun pins' s' σ' H' Q J ⟨q, e1, e2, k⟩ => by subst e1 e2; exact thn (h.run pins' s' σ' H' _ J q) fun v s1 ⟨x, H1, I1, r1, q1⟩ => ⟨x, H1, I1, r1, k x H1 q1⟩⟩
  exact (pi_list (tg := tg) z).run pins s σ H R I ⟨hw, rfl, rfl, fun x H1 ⟨a, e, ⟨xs, hx⟩, q⟩ => ⟨a, e, ⟨xs, SqL.of hx⟩, q _⟩⟩
theorem pi_tupN {tg l : Expr} {tl : TE} (h : PE X l tl) : PI X tg l (iTupN tl) := by
  refine ⟨fun pins s σ H R I hw => ?_⟩
  have z : PE X l (fun σ' H' Q => tl σ H (fun x H1 => ∃ a, x = .ref a ∧ (∃ xs, H1 a = some (.tup xs)) ∧ ∀ K, R (Itt K a) H1) ∧ σ' = σ ∧ H' = H ∧ ∀ x H1, (∃ a, x = .ref a ∧ (∃ xs, H1 a = some (.tup xs)) ∧ ∀ K, R (Itt K a) H1) → Q x H1) :=
    ⟨fun pins' s' σ' H' Q J ⟨q, e1, e2, k⟩ => by subst e1 e2; exact thn (h.run pins' s' σ' H' _ J q) fun v s1 ⟨x, H1, I1, r1, q1⟩ => ⟨x, H1, I1, r1, k x H1 q1⟩⟩
  exact (pi_tup (tg := tg) z).run pins s σ H R I ⟨hw, rfl, rfl, fun x H1 ⟨a, e, ⟨xs, hx⟩, q⟩ => ⟨a, e, ⟨xs, SqT.of hx⟩, q _⟩⟩
def gTupN (n : Nat) (t : TGs) : TG := fun v σ H Q => ∃ a xs, v = .ref a ∧ H a = some (.tup xs) ∧ xs.length = n ∧ t xs σ H Q
theorem pg_tupN {es : List Expr} {k : Nat} {t : TGs} {n : Nat} {pos : Pos} (hc : X.calm = true) (h : PGs X es t)
    (hn : (assignEach es X.env).length = n := by rfl) (hst : (assignEach es X.env).findIdx? (·.1) = none := by rfl) : PG X (.Tuple es k pos) (gTupN n t) :=
  ⟨fun pins s σ H v u Q I r ⟨a, xs, e, hx, hl, hw⟩ => (pg_tup (k := k) (pos := pos) hc h hn hst).run pins s σ H v u Q I r ⟨a, xs, e, SqT.of hx, hl, hw⟩⟩
/-- a value handed back is held as it is from then on (a dict that a for walks) -/
def tFrz (td : TE) : TE := fun σ H Q => td σ H fun x H1 => ∃ d u, x = .ref d ∧ H1 d = some u ∧ Mut (some u) ∧ ∀ od, Q x (upd H1 d (.frz od u))
theorem pe_frz {e : Expr} {td : TE} (h : PE X e td) : PE X e (tFrz td) := by
  refine ⟨fun pins s σ H Q I hw => ?_⟩
  refine thn (h.run pins s σ H _ I hw) fun v s1 ⟨x, H1, I1, r1, d, u, e1, hd, mu, q⟩ => ?_
  obtain ⟨od, I2⟩ := I1.lock hd mu
  exact ⟨x, _, I2, r1, q od⟩
end
/-! ### comprehensions -/
section
variable {g : TG} {tt : TT} {te tk tv : TE} {vs : List Nat} {σ : L2.St} {H1 : Hp}
/-- a list comprehension: turns, what is made so far (G), what may change (e: at most what stands there) -/
theorem lcK {J : It} {n : Nat} {Q : Addr → Hp → Prop} (e : Addr) (he : H1 e ≠ none) (Y : Nat → V → Hp → Prop) (G : Nat → List V → Hp → Prop)
    (hgo : ∀ i H, i < n → Kp e H1 H → J.go i H) (hstop : ∀ H, Kp e H1 H → J.stop n H) (hy : ∀ i H x H', i < n → Kp e H1 H → J.yld i H x H' → Same H H' ∧ Y i x H') (hn : n < sizeLine)
    (hG : ∀ i acc H H' D l, H1 D = none → Kp e H1 H → H D = some (.lst l) → (∀ b, b ≠ D → H' b = H b) → G i acc H → G i acc H') (hG2 : ∀ i acc H H', Kp e H1 H → Same H H' → G i acc H → G i acc H')
    (h0 : G 0 [] H1)
    (hs : ∀ (Ky : V → Hp → Prop) (Kn : Hp → Prop) (i : Nat) (x : V) (acc : List V) (H : Hp), i < n → Kp e H1 H → Y i x H → G i acc H → (∀ y H4, Kp e H H4 → G (i + 1) (acc ++ [y]) H4 → Ky y H4) → (∀ H3, Kp e H H3 → G (i + 1) acc H3 → Kn H3) →
      g x (wipe σ vs) H fun σ2 H2 => wipe σ2 vs = wipe σ vs ∧ tt σ2 H2 fun b H3 => if b = true then te σ2 H3 Ky else Kn H3)
    (hd : ∀ D acc H, H1 D = none → Kp e H1 H → H D = some (.lst acc) → acc.length ≤ n → G n acc H → Q D H) :
    ∀ D, H1 D = none → ∃ W : Nat → Nat → Hp → Prop, (∃ m, W 0 m (upd H1 D (.lst []))) ∧ ∀ i m H, W i m H →
      (J.stop i H ∧ Q D H) ∨ (J.go i H ∧ ∃ Nx : Hp → Prop, (∀ H', Nx H' → ∃ m', m' < m ∧ W (i + 1) m' H') ∧ ∀ x H', J.yld i H x H' → g x (wipe σ vs) H' fun σ2 H2 => wipe σ2 vs = wipe σ vs ∧ tt σ2 H2 fun b H3 =>
        if b = true then te σ2 H3 fun y H4 => ∃ acc, H4 D = some (.lst acc) ∧ acc.length < sizeLine ∧ Nx (upd H4 D (.lst (acc ++ [y]))) else Nx H3) := by
  intro D hD
  have hDe : D ≠ e := fun z => he (z ▸ hD)
  let Pv : Nat → Hp → Prop := fun i H => Kp e H1 H ∧ ∃ acc, H D = some (.lst acc) ∧ acc.length ≤ i ∧ G i acc H
  refine ⟨fun i m H => m = n - i ∧ i ≤ n ∧ Pv i H, ⟨n, by simp, Nat.zero_le _, ?_⟩, ?_⟩
  · have k0 : Same H1 (upd H1 D (.lst [])) := same_upd hD
    exact ⟨kp_of k0, [], upd_same, Nat.le_refl _, hG2 _ _ _ _ (Kp.refl _ _) k0 h0⟩
  rintro i m H ⟨rfl, hi, k, acc, hA, hl, hg⟩
  by_cases hlt : i < n
  · refine .inr ⟨hgo i H hlt k, Pv (i + 1), fun H' p' => ⟨n - (i + 1), by omega, rfl, hlt, p'⟩, fun x H' y => ?_⟩
    obtain ⟨s1, y1⟩ := hy i H x H' hlt k y
    have k1 : Kp e H1 H' := k.trans (kp_of s1)
    refine hs _ _ i x acc H' hlt k1 y1 (hG2 _ _ _ _ k s1 hg) (fun y H4 s4 g4 => ?_) (fun H3 s3 g3 => ?_)
    · have a4 : H4 D = some (.lst acc) := s4 D _ hDe (s1 D _ hA)
      have k4 : Kp e H1 H4 := k1.trans s4
      refine ⟨acc, a4, by omega, fun b o nb hb => ?_, acc ++ [y], upd_same, by rw [List.length_append]; exact Nat.succ_le_succ hl, hG _ _ H4 _ D acc hD k4 a4 (fun b hb => upd_ne hb) g4⟩
      rw [upd_ne (ne_of_none hb hD)]
      exact k4 b o nb hb
    · exact ⟨k1.trans s3, acc, s3 D _ hDe (s1 D _ hA), by omega, g3⟩
  · have e1 : i = n := by omega
    subst e1
    exact .inl ⟨hstop H k, hd D acc H hD k hA hl hg⟩
/-- .. that changes nothing -/
theorem lcS {J : It} {n : Nat} {Q : Addr → Hp → Prop} (Y : Nat → V → Hp → Prop) (G : Nat → List V → Hp → Prop)
    (hgo : ∀ i H, i < n → Same H1 H → J.go i H) (hstop : ∀ H, Same H1 H → J.stop n H) (hy : ∀ i H x H', i < n → Same H1 H → J.yld i H x H' → Same H H' ∧ Y i x H') (hn : n < sizeLine)
    (hG : ∀ i acc H H', Tk H H' → G i acc H → G i acc H') (h0 : G 0 [] H1)
    (hs : ∀ (Ky : V → Hp → Prop) (Kn : Hp → Prop) (i : Nat) (x : V) (acc : List V) (H : Hp), i < n → Same H1 H → Y i x H → G i acc H → (∀ y H4, Same H H4 → G (i + 1) (acc ++ [y]) H4 → Ky y H4) → (∀ H3, Same H H3 → G (i + 1) acc H3 → Kn H3) →
      g x (wipe σ vs) H fun σ2 H2 => wipe σ2 vs = wipe σ vs ∧ tt σ2 H2 fun b H3 => if b = true then te σ2 H3 Ky else Kn H3)
    (hd : ∀ D acc H, H1 D = none → Same H1 H → H D = some (.lst acc) → acc.length ≤ n → G n acc H → Q D H) :
    ∀ D, H1 D = none → ∃ W : Nat → Nat → Hp → Prop, (∃ m, W 0 m (upd H1 D (.lst []))) ∧ ∀ i m H, W i m H →
      (J.stop i H ∧ Q D H) ∨ (J.go i H ∧ ∃ Nx : Hp → Prop, (∀ H', Nx H' → ∃ m', m' < m ∧ W (i + 1) m' H') ∧ ∀ x H', J.yld i H x H' → g x (wipe σ vs) H' fun σ2 H2 => wipe σ2 vs = wipe σ vs ∧ tt σ2 H2 fun b H3 =>
        if b = true then te σ2 H3 fun y H4 => ∃ acc, H4 D = some (.lst acc) ∧ acc.length < sizeLine ∧ Nx (upd H4 D (.lst (acc ++ [y]))) else Nx H3) := by
  intro D hD
  let Pv : Nat → Hp → Prop := fun i H => Same H1 H ∧ ∃ acc, H D = some (.lst acc) ∧ acc.length ≤ i ∧ G i acc H
  refine ⟨fun i m H => m = n - i ∧ i ≤ n ∧ Pv i H, ⟨n, by simp, Nat.zero_le _, ?_⟩, ?_⟩
  · have k0 : Same H1 (upd H1 D (.lst [])) := same_upd hD
    exact ⟨k0, [], upd_same, Nat.le_refl _, hG _ _ _ _ (tk_of k0) h0⟩
  rintro i m H ⟨rfl, hi, k, acc, hA, hl, hg⟩
  by_cases hlt : i < n
  · refine .inr ⟨hgo i H hlt k, Pv (i + 1), fun H' p' => ⟨n - (i + 1), by omega, rfl, hlt, p'⟩, fun x H' y => ?_⟩
    obtain ⟨s1, y1⟩ := hy i H x H' hlt k y
    have k1 : Same H1 H' := k.trans s1
    refine hs _ _ i x acc H' hlt k1 y1 (hG _ _ _ _ (tk_of s1) hg) (fun y H4 s4 g4 => ?_) (fun H3 s3 g3 => ?_)
    · have a4 : H4 D = some (.lst acc) := s4 D _ (s1 D _ hA)
      have k4 : Same H1 H4 := k1.trans s4
      refine ⟨acc, a4, by omega, fun b o hb => ?_, acc ++ [y], upd_same, by rw [List.length_append]; exact Nat.succ_le_succ hl, hG _ _ H4 _ (md_upd.tk a4 (fun xs z => nomatch z)) g4⟩
      rw [upd_ne (ne_of_none hb hD)]
      exact k4 b o hb
    · exact ⟨k1.trans s3, acc, s3 D _ (s1 D _ hA), by omega, g3⟩
  · have e1 : i = n := by omega
    subst e1
    exact .inl ⟨hstop H k, hd D acc H hD k hA hl hg⟩
theorem lcTup {K : PySem.W.Frag} {a : Addr} {xs : List V} {Q : Addr → Hp → Prop} (hx : H1 a = some (.tup xs)) (hn : xs.length < sizeLine) (G : Nat → List V → Hp → Prop)
    (hG : ∀ i acc H H', Tk H H' → G i acc H → G i acc H') (h0 : G 0 [] H1)
    (hs : ∀ (Ky : V → Hp → Prop) (Kn : Hp → Prop) (i : Nat) (x : V) (acc : List V) (H : Hp), xs[i]? = some x → Same H1 H → G i acc H → (∀ y H4, Same H H4 → G (i + 1) (acc ++ [y]) H4 → Ky y H4) → (∀ H3, Same H H3 → G (i + 1) acc H3 → Kn H3) →
      g x (wipe σ vs) H fun σ2 H2 => wipe σ2 vs = wipe σ vs ∧ tt σ2 H2 fun b H3 => if b = true then te σ2 H3 Ky else Kn H3)
    (hd : ∀ D acc H, H1 D = none → Same H1 H → H D = some (.lst acc) → acc.length ≤ xs.length → G xs.length acc H → Q D H) :
    ∀ D, H1 D = none → ∃ W : Nat → Nat → Hp → Prop, (∃ m, W 0 m (upd H1 D (.lst []))) ∧ ∀ i m H, W i m H →
      ((Itt K a).stop i H ∧ Q D H) ∨ ((Itt K a).go i H ∧ ∃ Nx : Hp → Prop, (∀ H', Nx H' → ∃ m', m' < m ∧ W (i + 1) m' H') ∧ ∀ x H', (Itt K a).yld i H x H' → g x (wipe σ vs) H' fun σ2 H2 => wipe σ2 vs = wipe σ vs ∧ tt σ2 H2 fun b H3 =>
        if b = true then te σ2 H3 fun y H4 => ∃ acc, H4 D = some (.lst acc) ∧ acc.length < sizeLine ∧ Nx (upd H4 D (.lst (acc ++ [y]))) else Nx H3) :=
  lcS (J := Itt K a) (fun i x _ => xs[i]? = some x) G (fun i H hi s => ⟨xs, xs[i], SqT.of (s _ _ hx), by simp [hi]⟩) (fun H s => ⟨xs, SqT.of (s _ _ hx), Nat.le_refl _⟩)
    (fun i H x H' hi s y => ⟨y.1 ▸ Same.refl H, y.2 xs (SqT.of (s _ _ hx))⟩) hn hG h0 (fun Ky Kn i x acc H _ s y g a b => hs Ky Kn i x acc H y s g a b) hd
theorem lcLst {K : PySem.W.Frag} {a : Addr} {xs : List V} {Q : Addr → Hp → Prop} (hx : H1 a = some (.lst xs)) (hn : xs.length < sizeLine) (G : Nat → List V → Hp → Prop)
    (hG : ∀ i acc H H', Tk H H' → G i acc H → G i acc H') (h0 : G 0 [] H1)
    (hs : ∀ (Ky : V → Hp → Prop) (Kn : Hp → Prop) (i : Nat) (x : V) (acc : List V) (H : Hp), xs[i]? = some x → Same H1 H → G i acc H → (∀ y H4, Same H H4 → G (i + 1) (acc ++ [y]) H4 → Ky y H4) → (∀ H3, Same H H3 → G (i + 1) acc H3 → Kn H3) →
      g x (wipe σ vs) H fun σ2 H2 => wipe σ2 vs = wipe σ vs ∧ tt σ2 H2 fun b H3 => if b = true then te σ2 H3 Ky else Kn H3)
    (hd : ∀ D acc H, H1 D = none → Same H1 H → H D = some (.lst acc) → acc.length ≤ xs.length → G xs.length acc H → Q D H) :
    ∀ D, H1 D = none → ∃ W : Nat → Nat → Hp → Prop, (∃ m, W 0 m (upd H1 D (.lst []))) ∧ ∀ i m H, W i m H →
      ((Itl K a).stop i H ∧ Q D H) ∨ ((Itl K a).go i H ∧ ∃ Nx : Hp → Prop, (∀ H', Nx H' → ∃ m', m' < m ∧ W (i + 1) m' H') ∧ ∀ x H', (Itl K a).yld i H x H' → g x (wipe σ vs) H' fun σ2 H2 => wipe σ2 vs = wipe σ vs ∧ tt σ2 H2 fun b H3 =>
        if b = true then te σ2 H3 fun y H4 => ∃ acc, H4 D = some (.lst acc) ∧ acc.length < sizeLine ∧ Nx (upd H4 D (.lst (acc ++ [y]))) else Nx H3) :=
  lcS (J := Itl K a) (fun i x _ => xs[i]? = some x) G (fun i H hi s => ⟨xs, xs[i], SqL.of (s _ _ hx), by simp [hi]⟩) (fun H s => ⟨xs, SqL.of (s _ _ hx), Nat.le_refl _⟩)
    (fun i H x H' hi s y => ⟨y.1 ▸ Same.refl H, y.2 xs (SqL.of (s _ _ hx))⟩) hn hG h0 (fun Ky Kn i x acc H _ s y g a b => hs Ky Kn i x acc H y s g a b) hd
theorem lcTupY {K : PySem.W.Frag} {a : Addr} {xs : List V} {Q : Addr → Hp → Prop} (hx : H1 a = some (.tup xs)) (hn : xs.length < sizeLine) (G : Nat → List V → Hp → Prop)
    (hG : ∀ i acc H H', Tk H H' → G i acc H → G i acc H') (h0 : G 0 [] H1)
    (hs : ∀ (Ky : V → Hp → Prop) (i : Nat) (x : V) (acc : List V) (H : Hp), xs[i]? = some x → Same H1 H → G i acc H → (∀ y H4, Same H H4 → G (i + 1) (acc ++ [y]) H4 → Ky y H4) →
      g x (wipe σ vs) H fun σ2 H2 => wipe σ2 vs = wipe σ vs ∧ te σ2 H2 Ky)
    (hd : ∀ D acc H, H1 D = none → Same H1 H → H D = some (.lst acc) → acc.length ≤ xs.length → G xs.length acc H → Q D H) :
    ∀ D, H1 D = none → ∃ W : Nat → Nat → Hp → Prop, (∃ m, W 0 m (upd H1 D (.lst []))) ∧ ∀ i m H, W i m H →
      ((Itt K a).stop i H ∧ Q D H) ∨ ((Itt K a).go i H ∧ ∃ Nx : Hp → Prop, (∀ H', Nx H' → ∃ m', m' < m ∧ W (i + 1) m' H') ∧ ∀ x H', (Itt K a).yld i H x H' → g x (wipe σ vs) H' fun σ2 H2 => wipe σ2 vs = wipe σ vs ∧ tYes σ2 H2 fun b H3 =>
        if b = true then te σ2 H3 fun y H4 => ∃ acc, H4 D = some (.lst acc) ∧ acc.length < sizeLine ∧ Nx (upd H4 D (.lst (acc ++ [y]))) else Nx H3) := by
  refine lcTup (tt := tYes) (te := te) hx hn G hG h0 (fun Ky Kn i x acc H hx s g1 ky kn => ?_) hd
  exact hs Ky i x acc H hx s g1 ky
theorem lcLstY {K : PySem.W.Frag} {a : Addr} {xs : List V} {Q : Addr → Hp → Prop} (hx : H1 a = some (.lst xs)) (hn : xs.length < sizeLine) (G : Nat → List V → Hp → Prop)
    (hG : ∀ i acc H H', Tk H H' → G i acc H → G i acc H') (h0 : G 0 [] H1)
    (hs : ∀ (Ky : V → Hp → Prop) (i : Nat) (x : V) (acc : List V) (H : Hp), xs[i]? = some x → Same H1 H → G i acc H → (∀ y H4, Same H H4 → G (i + 1) (acc ++ [y]) H4 → Ky y H4) →
      g x (wipe σ vs) H fun σ2 H2 => wipe σ2 vs = wipe σ vs ∧ te σ2 H2 Ky)
    (hd : ∀ D acc H, H1 D = none → Same H1 H → H D = some (.lst acc) → acc.length ≤ xs.length → G xs.length acc H → Q D H) :
    ∀ D, H1 D = none → ∃ W : Nat → Nat → Hp → Prop, (∃ m, W 0 m (upd H1 D (.lst []))) ∧ ∀ i m H, W i m H →
      ((Itl K a).stop i H ∧ Q D H) ∨ ((Itl K a).go i H ∧ ∃ Nx : Hp → Prop, (∀ H', Nx H' → ∃ m', m' < m ∧ W (i + 1) m' H') ∧ ∀ x H', (Itl K a).yld i H x H' → g x (wipe σ vs) H' fun σ2 H2 => wipe σ2 vs = wipe σ vs ∧ tYes σ2 H2 fun b H3 =>
        if b = true then te σ2 H3 fun y H4 => ∃ acc, H4 D = some (.lst acc) ∧ acc.length < sizeLine ∧ Nx (upd H4 D (.lst (acc ++ [y]))) else Nx H3) := by
  refine lcLst (tt := tYes) (te := te) hx hn G hG h0 (fun Ky Kn i x acc H hx s g1 ky kn => ?_) hd
  exact hs Ky i x acc H hx s g1 ky
end
end K57
namespace K57
open PySem PySem.Spec PyProof.Rows L2
section
variable {X : Cx}
theorem vals_zip : ∀ {xs : List V} {us : List Value} {ds : List PyData}, Vals xs us → xs.length = ds.length → PySem.W.EachIs (fun v (b : V × PyData) => RelV b.1 v) us (xs.zip ds)
  | _, _, [], .nil, _ => .nil
  | _, _, d :: ds, .cons r t, h => .cons r (vals_zip t (by simpa using h))
theorem readsAll_zip {h : Heap} : ∀ {xs : List V} {us : List Value} {ds : List PyData} {as : List Addr}, ReadsAll h us ds as → xs.length = ds.length → PySem.W.EachIs (fun v (b : V × PyData) => ∃ as, Reads h v b.2 as) us (xs.zip ds)
  | [], us, [], as, r, _ => by cases r; exact .nil
  | x :: xs, us, d :: ds, as, r, h => by
    cases r with
    | cons h1 h2 => exact .cons ⟨_, h1⟩ (readsAll_zip h2 (by simpa using h))
theorem zip_snd' : ∀ {xs : List V} {ds : List PyData}, xs.length = ds.length → (xs.zip ds).map Prod.snd = ds
  | [], [], _ => rfl
  | x :: xs, d :: ds, h => by simp only [List.zip_cons_cons, List.map_cons]; rw [zip_snd' (by simpa using h)]
theorem dpAll_length {K : PySem.W.Frag} {H : Hp} : ∀ {xs : List V} {ds : List PyData}, DpAll K H xs ds → xs.length = ds.length
  | _, _, .nil => rfl
  | _, _, .cons _ t => congrArg (· + 1) (dpAll_length t)
theorem vals_of_each : ∀ {us : List Value} {bs : List (V × PyData)}, PySem.W.EachIs (fun v (b : V × PyData) => RelV b.1 v) us bs → Vals (bs.map Prod.fst) us
  | _, _, .nil => .nil
  | _, _, .cons r t => .cons r (vals_of_each t)
theorem le_total_data : ∀ (a b : V × PyData), (PySem.W.dataLe false Prod.snd a b || PySem.W.dataLe false Prod.snd b a) = true := fun a b => by
  show ((!PySem.W.dataLt b.2 a.2) || (!PySem.W.dataLt a.2 b.2)) = true
  cases h1 : PySem.W.dataLt b.2 a.2 with
  | false => rfl
  | true =>
    cases h2 : PySem.W.dataLt a.2 b.2 with
    | false => rfl
    | true =>
      have h3 := lex_trans _ _ _ h1 h2
      rw [lex_irrefl] at h3
      cases h3
theorem le_trans_data : ∀ (a b c : V × PyData), PySem.W.dataLe false Prod.snd a b = true → PySem.W.dataLe false Prod.snd b c = true → PySem.W.dataLe false Prod.snd a c = true := fun a b c h1 h2 => by
  have h1 : (!PySem.W.dataLt b.2 a.2) = true := h1
  have h2 : (!PySem.W.dataLt c.2 b.2) = true := h2
  show (!PySem.W.dataLt c.2 a.2) = true
  cases h : PySem.W.dataLt c.2 a.2 with
  | false => rfl
  | true =>
    rcases lex_negTrans _ (PySem.W.keyToks b.2) _ h with z | z
    · rw [show PySem.W.dataLt c.2 b.2 = true from z] at h2; cases h2
    · rw [show PySem.W.dataLt b.2 a.2 = true from z] at h1; cases h1
/-- data that stands in tracked tuples and lists -/
inductive Dt (H : Hp) : V → PyData → Prop
  | non : Dt H .non .none
  | bl (b : Bool) : Dt H (.bl b) (.bool b)
  | int (i : Int) : Dt H (.int i) (.int i)
  | str (x : Str) : Dt H (.str x) (.str x)
  | lst {a : Addr} {xs : List V} {ds : List PyData} : H a = some (.lst xs) → Paired (Dt H) xs ds → Dt H (.ref a) (.list ds)
  | tup {a : Addr} {xs : List V} {ds : List PyData} : H a = some (.tup xs) → Paired (Dt H) xs ds → Dt H (.ref a) (.tuple ds)
theorem Dt.dp (K : PySem.W.Frag) {H : Hp} : ∀ {v : V} {d : PyData}, Dt H v d → Dp K H v d := by
  intro v d h
  refine Dt.rec (motive_1 := fun v d _ => Dp K H v d) (motive_2 := fun vs ds _ => DpAll K H vs ds) ?_ ?_ ?_ ?_ ?_ ?_ ?_ ?_ h
  · exact .non
  · exact fun b => .bl b
  · exact fun i => .int i
  · exact fun x => .str x
  · exact fun h _ ih => .lst (SqL.of h) ih
  · exact fun h _ ih => .tup (SqT.of h) ih
  · exact .nil
  · exact fun _ _ h1 h2 => .cons h1 h2
theorem dt_all (K : PySem.W.Frag) {H : Hp} : ∀ {xs : List V} {ds : List PyData}, Paired (Dt H) xs ds → DpAll K H xs ds
  | _, _, .nil => .nil
  | _, _, .cons r t => .cons (r.dp K) (dt_all K t)
/-- sorted(xs), xs a list of alike data: some arrangement of it that rises -/
def rSortG (K : PySem.W.Frag) : List V → Hp → VK → Prop := fun vs H Q => ∃ (a : Addr) (xs : List V) (ds : List PyData), vs = [.ref a] ∧ H a = some (.lst xs) ∧ DpAll K H xs ds ∧ PySem.W.AllAlike ds ∧ PySem.W.Sortable ds ∧ (∀ d ∈ ds, d.depth ≤ 20) ∧
  ∀ (zs : List (V × PyData)) p H2, zs.Perm (xs.zip ds) → zs.Pairwise (fun a b => PySem.W.dataLt b.2 a.2 = false) → New H p (.lst (zs.map Prod.fst)) H2 → Q (.ref p) H2
theorem cr_sortG (hu : X.A.units + 65 < cLine) : CallR X (.builtin "sorted") (rSortG X.K) := by
  intro pins s σ H vs us Q I r h
  obtain ⟨a, xs, ds, rfl, ha, hd, hal, hso, hdp, q⟩ := h
  obtain ⟨its, rv, hl, hz⟩ := I.list (SqL.of ha)
  obtain ⟨u, rfl, ru⟩ := vals1 r
  obtain rfl : u = Value.ref a := ru
  have hlen := dpAll_length hd
  obtain ⟨as, hr⟩ := Dp.readsAll I ds xs its hd rv
  have e1 : (xs.zip ds).map Prod.snd = ds := zip_snd' hlen
  refine PySem.W.sorted_data (vs := its) (bs := xs.zip ds) (enc := Prod.snd) (R := fun v (b : V × PyData) => RelV b.1 v) hl.isList (vals_zip rv hlen) (readsAll_zip hr hlen) (by rw [e1]; exact hal) (by rw [e1]; exact hso)
    (by rw [List.length_zip, ← hlen, Nat.min_self]; exact hz) (fun b hb => by have := hdp b.2 (by rw [← e1]; exact List.mem_map_of_mem hb); omega) fun out ho eo => ?_
  obtain ⟨c, hc⟩ := sortedAll_at s.heap its (List.toArray out)
  have rv2 := vals_of_each eo
  have hfr : H (s.heap.objs.size + 1) = none := I.hok.fresh (Nat.le_succ _)
  refine ⟨.ref (s.heap.objs.size + 1), upd H (s.heap.objs.size + 1) (.lst (((xs.zip ds).mergeSort (PySem.W.dataLe false Prod.snd)).map Prod.fst)), I.laid (t' := s.toks) (fun b o e => sortedAll_old e) (Nat.le_succ _) ?_, rfl, q _ _ _ (List.mergeSort_perm _ _) ?_ (new_upd hfr)⟩
  · refine ⟨?_, out, c, rv2, hc⟩
    rw [List.length_map, (List.mergeSort_perm _ _).length_eq, List.length_zip, ← hlen, Nat.min_self]
    exact hz
  · refine (List.pairwise_mergeSort le_trans_data le_total_data (xs.zip ds)).imp fun {a b} h => ?_
    have h : (!PySem.W.dataLt b.2 a.2) = true := h
    simpa using h
theorem cr_sortN (hu : X.A.units + 65 < cLine) : CallR X (.builtin "sorted") (fun vs H Q => ∃ (a : Addr) (xs : List V) (ds : List PyData), vs = [.ref a] ∧ H a = some (.lst xs) ∧ Paired (Dt H) xs ds ∧ PySem.W.AllAlike ds ∧ PySem.W.Sortable ds ∧ (∀ d ∈ ds, d.depth ≤ 20) ∧
  ∀ (zs : List (V × PyData)) p H2, zs.Perm (xs.zip ds) → zs.Pairwise (fun a b => PySem.W.dataLt b.2 a.2 = false) → New H p (.lst (zs.map Prod.fst)) H2 → Q (.ref p) H2) :=
  CallR.imp (cr_sortG hu) fun _ _ _ ⟨a, xs, ds, e, h, hd, r⟩ => ⟨a, xs, ds, e, h, dt_all _ hd, r⟩
theorem op_eqN (hu : X.A.units + 65 < cLine) : OpR X (compareOp .Eq) (fun x y H Q => ∃ d e, Dt H x d ∧ Dt H y e ∧ SeqAt.shaped d = true ∧ SeqAt.shaped e = true ∧ Q (.bl (PyData.eqv d e)) H) :=
  OpR.imp (op_eqD (by omega)) fun _ _ _ _ ⟨d, e, h1, h2, r⟩ => ⟨d, e, h1.dp _, h2.dp _, r⟩
theorem op_neN (hu : X.A.units + 65 < cLine) : OpR X (compareOp .NotEq) (fun x y H Q => ∃ d e, Dt H x d ∧ Dt H y e ∧ SeqAt.shaped d = true ∧ SeqAt.shaped e = true ∧ Q (.bl (!PyData.eqv d e)) H) :=
  OpR.imp (op_neD (by omega)) fun _ _ _ _ ⟨d, e, h1, h2, r⟩ => ⟨d, e, h1.dp _, h2.dp _, r⟩
theorem op_inDN (hu : X.A.units + 65 < cLine) : OpR X (compareOp .In) (fun x y H Q => ∃ d ds, Dt H x d ∧ Dt H y (.list ds) ∧ SeqAt.shaped d = true ∧ SeqAt.shaped (.list ds) = true ∧ Q (.bl (ds.any fun z => PyData.eqv z d)) H) :=
  OpR.imp (op_inD hu) fun _ _ _ _ ⟨d, e, h1, h2, r⟩ => ⟨d, e, h1.dp _, h2.dp _, r⟩
theorem op_notInDN (hu : X.A.units + 65 < cLine) : OpR X (compareOp .NotIn) (fun x y H Q => ∃ d ds, Dt H x d ∧ Dt H y (.list ds) ∧ SeqAt.shaped d = true ∧ SeqAt.shaped (.list ds) = true ∧ Q (.bl (!ds.any fun z => PyData.eqv z d)) H) :=
  OpR.imp (op_notInD hu) fun _ _ _ _ ⟨d, e, h1, h2, r⟩ => ⟨d, e, h1.dp _, h2.dp _, r⟩
/-- x < y of alike data (not None) -/
def rLtG (K : PySem.W.Frag) : R2 := fun x y H Q => ∃ d e, Dp K H x d ∧ Dp K H y e ∧ PySem.W.alike d e = true ∧ d ≠ .none ∧ d.depth ≤ 20 ∧ Q (.bl (PySem.W.dataLt d e)) H
theorem op_ltG (hu : X.A.units + 65 < cLine) : OpR X (compareOp .Lt) (rLtG X.K) := by
  intro pins s σ H x y v u Q I rx ry h
  obtain ⟨d, e, hd, he, al, nn, dp, q⟩ := h
  obtain ⟨as, r1⟩ := Dp.reads I d x v hd rx
  obtain ⟨bs, r2⟩ := Dp.reads I e y u he ry
  have hm : min d.depth e.depth ≤ 20 := Nat.le_trans (Nat.min_le_left _ _) dp
  exact PySem.W.rcLt_alike d e X.A s v u as bs r1 r2 al nn (by omega) _ _ _ _ ⟨.bl _, H, I, rfl, q⟩
theorem op_ltN (hu : X.A.units + 65 < cLine) : OpR X (compareOp .Lt) (fun x y H Q => ∃ d e, Dt H x d ∧ Dt H y e ∧ PySem.W.alike d e = true ∧ d ≠ .none ∧ d.depth ≤ 20 ∧ Q (.bl (PySem.W.dataLt d e)) H) :=
  OpR.imp (op_ltG hu) fun _ _ _ _ ⟨d, e, h1, h2, r⟩ => ⟨d, e, h1.dp _, h2.dp _, r⟩
/-- dict(d) -/
theorem call_dictC : CallR X (.type "dict") (fun xs H Q => ∃ a kvs, xs = [.ref a] ∧ H a = some (.dK kvs) ∧ ∀ p H2, New H p (.dK kvs) H2 → Q (.ref p) H2) := by
  intro pins s σ H xs us Q I r h
  obtain ⟨a, kvs, rfl, ha, q⟩ := h
  obtain ⟨u, rfl, ru⟩ := vals1 r
  obtain rfl : u = Value.ref a := ru
  exact d_copyOf I (.inl ha) fun p s' np I' => ⟨.ref p, _, I', rfl, q p _ (new_upd np)⟩
/-! ### a tuple that is held as the object it is: dict(t) of pairs -/
/-- a tuple at a, without a dict of its own -/
def FzT (H : Hp) (a : Addr) (xs : List V) : Prop := ∃ o : Obj, H a = some (.frz o (.tup xs)) ∧ o.dict = none
def tTupF (t : TA) : TE := fun σ H Q => t σ H fun xs H1 => xs.length ≤ sizeLine ∧ ∀ p H2, H1 p = none → Same H1 H2 → FzT H2 p xs → Q (.ref p) H2
theorem pe_tupF {es : List Expr} {t : TA} {pos : Pos} {x1} (h : PA X es t) : PE X (.Tuple es x1 pos) (tTupF t) := by
  refine ⟨fun pins s σ H Q I hq => ?_⟩
  refine wpAny_Tuple_spliced (thn (h.run pos pins s σ H _ I hq) fun us s1 ⟨xs, H1, I1, r, z, q⟩ => ⟨by rw [← r.length]; exact z, ?_⟩)
  have hf : H1 s1.heap.objs.size = none := I1.hok.fresh (Nat.le_refl _)
  refine ⟨.ref s1.heap.objs.size, _, I1.laid (t' := s1.toks) (o := .frz { cls := .type "tuple", data := .seq us.toArray } (.tup xs)) (fun b u e => Heap.get?_push_of_some _ e) (Nat.le_refl _) ?_, rfl, q _ _ hf (same_upd hf) ⟨_, upd_same, rfl⟩⟩
  exact ⟨Heap.get?_push_size _ rfl, z, us, r, ⟨_, Heap.get?_push_size _ rfl, rfl, _, rfl⟩⟩
theorem call_tuple_ofF : CallR X (.type "tuple") (fun xs H Q => ∃ p ys, xs = [.ref p] ∧ H p = some (.lst ys) ∧ ∀ l H2, H l = none → Same H H2 → FzT H2 l ys → Q (.ref l) H2) := by
  intro pins s σ H xs us Q I r h
  obtain ⟨p, ys, rfl, hp, q⟩ := h
  obtain ⟨u, rfl, rx⟩ := vals1 r
  cases rx
  obtain ⟨its, rv, pl, hz⟩ := I.list (SqL.of hp)
  have hn := rv.length
  refine call_tuple_list pl.isList (fun g kp => ?_) (by rw [List.size_toArray]; omega)
  have I1 : Inv X pins σ H { s with heap := g } := I.kept (t' := s.toks) kp
  have hf : H g.objs.size = none := I1.hok.fresh (Nat.le_refl _)
  have hat : (g.push { cls := .type "tuple", data := .seq its.toArray }).get? g.objs.size = some { cls := .type "tuple", data := .seq its.toArray } := Heap.get?_push_size _ rfl
  have ok : ObjOk X.prog X.w (upd H g.objs.size (.frz { cls := .type "tuple", data := .seq its.toArray } (.tup ys))) (g.push { cls := .type "tuple", data := .seq its.toArray }) g.objs.size (.frz { cls := .type "tuple", data := .seq its.toArray } (.tup ys)) :=
    ⟨hat, hz, its, rv, ⟨_, hat, rfl, _, rfl⟩⟩
  exact ⟨.ref g.objs.size, _, I1.laid (t' := s.toks) (fun b o e => Heap.get?_push_of_some _ e) (Nat.le_refl _) ok, rfl, q _ _ hf (same_upd hf) ⟨_, upd_same, rfl⟩⟩
theorem call_dictT (hc : X.calm = true) : CallR X (.type "dict") (fun xs H Q => ∃ (a : Addr) (ps : List Addr) (kvs : List (Key × V)), xs = [.ref a] ∧ FzT H a (ps.map V.ref) ∧ Paired (fun p kv => H p = some (.tup [kV kv.1, kv.2])) ps kvs ∧
    ∀ p H2, New H p (.dK (mergeK [] kvs)) H2 → Q (.ref p) H2) := by
  intro pins s σ H xs us Q I r q
  obtain ⟨a, ps, kvs, ex, ⟨o, ho, hod⟩, hp, q⟩ := q
  subst ex
  obtain ⟨u, eu, rx⟩ := vals1 r
  subst eu
  cases rx
  obtain ⟨hg, hz, its, rv, o', ho', hcls, n, hdat⟩ := I.hok a _ ho
  rw [hg] at ho'
  cases ho'
  have ei := refs_at rv
  subst ei
  rw [List.length_map] at hz
  obtain ⟨prs, rel, hl, hpr⟩ := pairs_of I (Paired.mapP hp fun p kv h => SqT.of h)
  let Ts : Nat → Addr := fun j => ps.getD j 0
  have hkey : ∀ (j : Nat) (qq : Key × Value), prs[j]? = some qq → ∃ (b : Addr) (u : Value), ps[j]? = some b ∧ IsTup s.heap b #[u, qq.2] ∧ keyIs qq.1 u = true := hpr
  -- the pairs as values
  obtain ⟨vps, hvl, hvp⟩ : ∃ vps : List (Value × Value), vps.length = prs.length ∧ ∀ (j : Nat) (k v : Value), vps[j]? = some (k, v) → ∃ (b : Addr) (kk : Key), ps[j]? = some b ∧ prs[j]? = some (kk, v) ∧ IsTup s.heap b #[k, v] ∧ keyIs kk k = true := by
    have all : ∀ (prs : List (Key × Value)) (ps : List Addr), (∀ (j : Nat) (qq : Key × Value), prs[j]? = some qq → ∃ (b : Addr) (u : Value), ps[j]? = some b ∧ IsTup s.heap b #[u, qq.2] ∧ keyIs qq.1 u = true) →
        ∃ vps : List (Value × Value), vps.length = prs.length ∧ ∀ (j : Nat) (k v : Value), vps[j]? = some (k, v) → ∃ (b : Addr) (kk : Key), ps[j]? = some b ∧ prs[j]? = some (kk, v) ∧ IsTup s.heap b #[k, v] ∧ keyIs kk k = true := by
      intro prs
      induction prs with
      | nil => intro ps _; exact ⟨[], rfl, fun j k v e => by simp at e⟩
      | cons q r ih =>
        intro ps h
        obtain ⟨b, u, e1, e2, e3⟩ := h 0 q rfl
        cases ps with
        | nil => simp at e1
        | cons p ps =>
          obtain ⟨vps, l1, l2⟩ := ih ps fun j qq e => by simpa using h (j + 1) qq (by simpa using e)
          refine ⟨(u, q.2) :: vps, by simp [l1], fun j k v e => ?_⟩
          cases j with
          | zero =>
            have e' : (u, q.2) = (k, v) := Option.some.inj e
            cases e'
            exact ⟨b, q.1, e1, rfl, e2, e3⟩
          | succ j =>
            obtain ⟨b', kk, a1, a2, a3, a4⟩ := l2 j k v (by simpa using e)
            exact ⟨b', kk, by simpa using a1, by simpa using a2, a3, a4⟩
    exact all prs ps hkey
  refine call_dict_pairs (knd := mixKind X.prog X.w) (kvs := prs) (PairArg.tuple a (ps.map Value.ref).toArray Ts vps) (I.ok.hd hc) ⟨⟨o, n, hg, hcls, hod, hdat⟩, ⟨by simp [hvl, hl], fun j k v e => ?_⟩⟩ ⟨by rw [hvl], fun j k v e => ?_⟩ (by rw [hvl, hl]; exact hz) fun h' tk hd' kp => ?_
  · obtain ⟨b, kk, e1, _, e3, _⟩ := hvp j k v e
    have eT : Ts j = b := by show ps.getD j 0 = b; rw [List.getD_eq_getElem?_getD, e1]; rfl
    rw [eT]
    exact ⟨by simp [e1], .inl e3⟩
  · obtain ⟨b, kk, _, e2, _, e4⟩ := hvp j k v e
    exact ⟨kk, e2, e4⟩
  · have hm : (s.heap.objs.size == sysModules) = false := beq_eq_false_iff_ne.mpr (Nat.ne_of_gt I.big)
    have hlen : (mergeK [] kvs).length ≤ sizeLine := by
      refine Nat.le_trans (length_mergeK kvs []) ?_
      rw [List.length_nil, Nat.zero_add, rel.length, hl]
      exact hz
    exact ⟨.ref s.heap.objs.size, upd H s.heap.objs.size (.dK (mergeK [] kvs)), I.laid (t' := tk) (fun b o e => kp b o (by simp) e) (Nat.le_refl _) (show ObjOk X.prog X.w _ _ _ (.dK (mergeK [] kvs)) from ⟨hlen, hm, merged [] prs, KV.merge rel .nil, hd'⟩), rfl, q _ _ (new_upd (I.hok.fresh (Nat.le_refl _)))⟩
/-! ### t[::-1] of a tuple -/
theorem rev_adjust (n : Nat) : Builtin.Slice.sliceAdjust none none (-1) (n : Int) = ((n : Int) - 1, -1) := rfl
theorem rev_places (n : Nat) : Builtin.Slice.slicePlaces ((n : Int) - 1) (-1) (-1) = n := by
  unfold Builtin.Slice.slicePlaces
  rw [if_neg (by decide : ¬ ((-1 : Int) > 0))]
  by_cases h : (n : Int) - 1 > -1
  · rw [if_pos h]
    have : ((n : Int) - 1 - -1 - 1) / (- -1) + 1 = (n : Int) := by
      rw [show (- -1 : Int) = 1 by decide, Int.ediv_one]; omega
    rw [this]; omega
  · rw [if_neg h]; omega
theorem rev_pick (xs : List Value) : ((List.range xs.length).filterMap fun (k : Nat) => xs.toArray[(((xs.length : Int) - 1) + (k : Int) * (-1)).toNat]?) = xs.reverse := by
  have e : ∀ k ∈ List.range xs.length, (fun (k : Nat) => xs.toArray[(((xs.length : Int) - 1) + (k : Int) * (-1)).toNat]?) k = some (xs.reverse.getD k .none) := fun k hk => by
    have hk := List.mem_range.mp hk
    have e1 : (((xs.length : Int) - 1) + (k : Int) * (-1)).toNat = xs.length - 1 - k := by omega
    show xs.toArray[(((xs.length : Int) - 1) + (k : Int) * (-1)).toNat]? = _
    rw [e1, List.getElem?_toArray, List.getElem?_eq_getElem (by omega), List.getD_eq_getElem?_getD, List.getElem?_eq_getElem (by rw [List.length_reverse]; exact hk), Option.getD_some, List.getElem_reverse]
  have e2 : ∀ (l : List Nat) (f : Nat → Option Value) (g : Nat → Value), (∀ k ∈ l, f k = some (g k)) → l.filterMap f = l.map g := by
    intro l f g h
    induction l with
    | nil => rfl
    | cons a l ih =>
      rw [List.filterMap_cons, h a List.mem_cons_self, List.map_cons, ih fun k hk => h k (List.mem_cons_of_mem _ hk)]
  rw [e2 _ _ (fun k => xs.reverse.getD k .none) e]
  refine List.ext_getElem (by simp) fun i h1 h2 => ?_
  rw [List.getElem_map, List.getElem_range, List.getD_eq_getElem?_getD, List.getElem?_eq_getElem h2, Option.getD_some]
def tRevT (te : TE) : TE := fun σ H Q => te σ H fun x H1 => ∃ a xs, x = .ref a ∧ H1 a = some (.tup xs) ∧ ∀ p H2, New H1 p (.tup xs.reverse) H2 → Q (.ref p) H2
theorem getItem_rev {prog : Program} {w : World} {A : Around} {E : Value → Shared → Prop} {s : Shared} {t sl : Addr} {xs : List Value} {vl vu vk : Value} {Q : Value → Shared → Prop} (ht : IsTup s.heap t xs.toArray) (hs : s.heap.IsSliceOf sl vl vu vk) (pl : IsPart vl none) (pu : IsPart vu none) (pk : IsPart vk (some (-1)))
    (hz : xs.length ≤ sizeLine) (h : Q (.ref s.heap.objs.size) { s with heap := s.heap.push { cls := .type "tuple", data := .seq xs.reverse.toArray } }) : wpAny (model prog w) A (getItem (.ref t) (.ref sl)) Q E s := by
  obtain ⟨os, hos, hcs, hds⟩ := id hs
  have hTs : s.TypeIs (.ref sl) "slice" := ⟨os, hos, hcs⟩
  cases pl
  cases pu
  cases pk with
  | int i tk =>
    have hap : ∀ (B : Around) (R : Int × Int × Nat → Shared → Prop), R ((xs.length : Int) - 1, -1, xs.length) s → wpAny (model prog w) B (Builtin.Slice.sliceApplied (.ref sl) (pure (xs.toArray.size : Int))) R E s := by
      intro B R hR
      unfold Builtin.Slice.sliceApplied Builtin.Slice.sliceFields
      refine wpAny_bind (wpAny_bind (wpAny_field hos hds (x := Value.none) rfl (wpAny_bind (wpAny_field hos hds (x := Value.none) rfl (wpAny_bind (wpAny_field hos hds (x := Value.int (-1) tk) rfl (wpAny_pure ?_)))))))
      refine wpAny_bind (slicePart_int ?_)
      show wpAny _ _ (if ((-1 : Int) == 0) = true then _ else _) _ _ s
      rw [if_neg (by decide)]
      refine wpAny_bind (slicePart_none (wpAny_bind (slicePart_none (wpAny_bind (wpAny_pure ?_)))))
      rw [List.size_toArray]
      show wpAny _ _ (match Builtin.Slice.sliceAdjust none none (-1) (xs.length : Int) with | (lo, hi) => pure (lo, (-1 : Int), Builtin.Slice.slicePlaces lo hi (-1))) _ _ s
      rw [rev_adjust]
      show wpAny _ _ (pure ((xs.length : Int) - 1, (-1 : Int), Builtin.Slice.slicePlaces ((xs.length : Int) - 1) (-1) (-1))) _ _ s
      rw [rev_places]
      exact wpAny_pure hR
    unfold getItem
    try with_reducible refine wpAny_holding ?_
    first | refine wpAny_bind (wpAny_pure ?_) | skip
    refine wpAny_bind (wpAny_sequenceKey ht.typeIs (by decide) ?_)
    refine wpAny_bind (wpAny_callSpecial?_slot (name := Str.ofString "__getitem__") ht.typeIs PyProof.Rows.slot_tuple_getitem
      (wpAny_call_entry PyProof.Rows.slot_tuple_getitem ht.typeIs entry_tuple_getitem ?_ (args_tuple_getitem _ _)))
    show wpAny _ _ (Builtin.Tuple.tupleItemsOf (.ref t) >>= _) _ _ s
    refine wpAny_bind (tupleItemsOf_ ht ?_)
    refine wpAny_bind (wpAny_typeOf hTs ?_)
    rw [if_pos (by decide)]
    refine wpAny_bind (hap _ _ ?_)
    show wpAny _ _ (if ((((xs.length : Int) - 1) == 0 && (-1 : Int) == 1) && xs.length == xs.toArray.size) = true then _ else _) _ _ s
    rw [if_neg (by simp), rev_pick]
    have hsz : sizeOk (.seq xs.reverse.toArray) := by
      show xs.reverse.toArray.size ≤ sizeLine
      rw [List.size_toArray, List.length_reverse]; exact hz
    first
      | exact wpAny_bind (m := Builtin.Tuple.tupleExact _) (wpAny_newObj_type (wpAny_pure ⟨_, rfl, wpAny_pure h⟩) hsz)
      | exact wpAny_bind (m := Builtin.Tuple.tupleExact _) (wpAny_newObj_type (wpAny_bind (wpAny_pure (wpAny_pure ⟨_, rfl, wpAny_pure h⟩))) hsz)
      | exact wpAny_bind (wpAny_bind (m := Builtin.Tuple.tupleExact _) (wpAny_newObj_type (wpAny_pure (wpAny_pure ⟨_, rfl, wpAny_pure h⟩)) hsz))
      | exact wpAny_bind (wpAny_bind (m := Builtin.Tuple.tupleExact _) (wpAny_newObj_type (wpAny_pure ⟨_, rfl, wpAny_pure h⟩) hsz))
theorem pe_revT {e : Expr} {te : TE} {k : Nat} {p1 p2 p3 pos : Pos} (he : PE X e te) : PE X (.Subscript e (.Slice none none (some (.UnaryOp .USub (.Constant (.int 1) k p1) p2)) p3) pos) (tRevT te) := by
  have hm : PO X (some (.UnaryOp .USub (.Constant (.int 1) k p1) p2)) (tPart (tUn (rU fun i => .int (-i)) (tC (.int 1)))) := po_some (pe_un un_neg pe_int)
  refine ⟨fun pins s σ H Q I h => Subscript_ (thn (he.run pins s σ H _ I h) fun v s1 ⟨x, H1, I1, r1, a, xs, ex, hx, q⟩ => ?_)⟩
  subst ex
  cases r1
  refine wpAny_Slice (thn (po_none.run pins s1 σ H1 (fun o G => o = none ∧ G = H1) I1 ⟨rfl, rfl⟩) fun v1 s2 ⟨o1, G1, J1, w1, z1, z2⟩ => ?_)
  subst z1 z2
  refine thn (po_none.run pins s2 σ G1 (fun o G => o = none ∧ G = G1) J1 ⟨rfl, rfl⟩) fun v2 s3 ⟨o2, G2, J2, w2, z1, z2⟩ => ?_
  subst z1 z2
  refine thn (hm.run pins s3 σ G2 (fun o G => o = some (-1) ∧ G = G2) J2 ⟨1, rfl, -1, rfl, rfl, rfl⟩) fun v3 s4 ⟨o3, G3, J3, w3, z1, z2⟩ => ?_
  subst z1 z2
  have J4 : Inv X pins σ G3 { s4 with heap := s4.heap.push { cls := .type "slice", data := .fields #[v1, v2, v3] } } := J3.kept (t' := s4.toks) fun b ob z => Heap.get?_push_of_some _ z
  obtain ⟨its, rv, ht, hz⟩ := J4.tuple (SqT.of hx)
  have hn := rv.length
  show wpAny (model X.prog X.w) X.A (subscriptTail e (.Slice none none (some (.UnaryOp .USub (.Constant (.int 1) k p1) p2)) p3) (.ref a) (.ref s4.heap.objs.size)) (EP X pins σ Q) X.xe { s4 with heap := s4.heap.push { cls := .type "slice", data := .fields #[v1, v2, v3] } }
  refine tail_any (ops := [.ref a, .ref s4.heap.objs.size]) ht.typeIs PyProof.Rows.slot_tuple_getitem.lookup ?_ (by with_unfolding_all rfl)
  have hf := J4.hok.fresh (Nat.le_refl _)
  refine getItem_rev ht (Heap.IsSliceOf.new _ v1 v2 v3) w1 w2 w3 (by omega) ⟨.ref _, _, J4.laid (t' := s4.toks) (o := .tup xs.reverse) (fun b ob z => Heap.get?_push_of_some _ z) (Nat.le_refl _) ?_, rfl, q _ _ (new_upd hf)⟩
  exact ⟨by rw [List.length_reverse]; exact hz, its.reverse, rv.reverse, IsTup.new _ _⟩
/-! ### zip of two lists, two tuples -/
def iZipN (ta : TA) : TI := fun σ H R => ta σ H fun vs H1 => ∃ a b xs ys, vs = [.ref a, .ref b] ∧ ((H1 a = some (.lst xs) ∧ H1 b = some (.lst ys) ∧ ∀ K, R (Itz K a b) H1) ∨ (H1 a = some (.tup xs) ∧ H1 b = some (.tup ys) ∧ ∀ K, R (RZ.ItzT K a b) H1))
theorem pi_zipN {e e2 : Expr} {ta : TA} {p pos tpos : Pos} {elts : List Expr} {kk : Nat} (hg : Gl X "zip") (hm : X.mg "zip" = none) (ha : PA X [e, e2] ta)
    (hs : starEach [e, e2] X.env = (false, eval e X.env) :: starEach [e2] X.env := by rfl) (hpl : (backTo pos (starEach [e2] X.env)).any (·.1) = false := by rfl) :
    PI X (.Tuple elts kk tpos) (.Call (.Name "zip" p) [e, e2] [] pos) (iZipN ta) := by
  refine ⟨fun pins s σ H R I hw => ?_⟩
  have z : PA X [e, e2] (fun σ' H' Q => ta σ H (fun vs H1 => ∃ a b xs ys, vs = [.ref a, .ref b] ∧ ((H1 a = some (.lst xs) ∧ H1 b = some (.lst ys) ∧ ∀ K, R (Itz K a b) H1) ∨ (H1 a = some (.tup xs) ∧ H1 b = some (.tup ys) ∧ ∀ K, R (RZ.ItzT K a b) H1))) ∧ σ' = σ ∧ H' = H ∧
      ∀ vs H1, (∃ a b xs ys, vs = [.ref a, .ref b] ∧ ((H1 a = some (.lst xs) ∧ H1 b = some (.lst ys) ∧ ∀ K, R (Itz K a b) H1) ∨ (H1 a = some (.tup xs) ∧ H1 b = some (.tup ys) ∧ ∀ K, R (RZ.ItzT K a b) H1))) → Q vs H1) :=
    ⟨fun po pins' s' σ' H' Q J ⟨q, e1, e2, k⟩ => by subst e1 e2; exact thn (ha.run po pins' s' σ' H' _ J q) fun v s1 ⟨x, H1, I1, r1, q1⟩ => ⟨x, H1, I1, r1, k x H1 q1⟩⟩
  exact (RZ.pi_zipA (pos := pos) (tpos := tpos) (elts := elts) (kk := kk) hg hm z hs hpl).run pins s σ H R I ⟨hw, rfl, rfl, fun vs H1 ⟨a, b, xs, ys, e, q⟩ => ⟨a, b, xs, ys, e, q.elim (fun ⟨h1, h2, q⟩ => .inl ⟨SqL.of h1, SqL.of h2, q _⟩) fun ⟨h1, h2, q⟩ => .inr ⟨SqT.of h1, SqT.of h2, q _⟩⟩⟩
end
section
variable {g : TG} {tt : TT} {te : TE} {vs : List Nat} {σ : L2.St} {H1 : Hp}
theorem lcZipL {K : PySem.W.Frag} {a b : Addr} {xs ys : List V} {Q : Addr → Hp → Prop} (hx : H1 a = some (.lst xs)) (hy : H1 b = some (.lst ys)) (hn : ys.length < sizeLine) (hl : ys.length ≤ xs.length) (G : Nat → List V → Hp → Prop)
    (hG : ∀ i acc H H', Tk H H' → G i acc H → G i acc H') (h0 : G 0 [] H1)
    (hs : ∀ (Ky : V → Hp → Prop) (i : Nat) (x y : V) (T : Addr) (acc : List V) (H : Hp), xs[i]? = some x → ys[i]? = some y → H T = some (.tup [x, y]) → Same H1 H → G i acc H → (∀ y H4, Same H H4 → G (i + 1) (acc ++ [y]) H4 → Ky y H4) →
      g (.ref T) (wipe σ vs) H fun σ2 H2 => wipe σ2 vs = wipe σ vs ∧ te σ2 H2 Ky)
    (hd : ∀ D acc H, H1 D = none → Same H1 H → H D = some (.lst acc) → acc.length ≤ ys.length → G ys.length acc H → Q D H) :
    ∀ D, H1 D = none → ∃ W : Nat → Nat → Hp → Prop, (∃ m, W 0 m (upd H1 D (.lst []))) ∧ ∀ i m H, W i m H →
      ((Itz K a b).stop i H ∧ Q D H) ∨ ((Itz K a b).go i H ∧ ∃ Nx : Hp → Prop, (∀ H', Nx H' → ∃ m', m' < m ∧ W (i + 1) m' H') ∧ ∀ x H', (Itz K a b).yld i H x H' → g x (wipe σ vs) H' fun σ2 H2 => wipe σ2 vs = wipe σ vs ∧ tYes σ2 H2 fun b H3 =>
        if b = true then te σ2 H3 fun y H4 => ∃ acc, H4 D = some (.lst acc) ∧ acc.length < sizeLine ∧ Nx (upd H4 D (.lst (acc ++ [y]))) else Nx H3) := by
  refine lcS (J := Itz K a b) (n := ys.length) (tt := tYes) (fun i v H => ∃ x y T, v = .ref T ∧ H T = some (.tup [x, y]) ∧ xs[i]? = some x ∧ ys[i]? = some y) G (fun i H hi s => ⟨xs, ys, xs[i], ys[i], SqL.of (s _ _ hx), SqL.of (s _ _ hy), by rw [List.getElem?_eq_getElem], by rw [List.getElem?_eq_getElem]⟩)
    (fun H s => ⟨xs, ys, SqL.of (s _ _ hx), SqL.of (s _ _ hy), .inr (Nat.le_refl _)⟩) (fun i H x H' hi s y => ?_) hn hG h0 (fun Ky Kn i x acc H _ s y g a b => ?_) hd
  · obtain ⟨T, x1, y1, e, hT, e2, k1, k2⟩ := y
    subst e2
    exact ⟨same_upd hT, x1, y1, T, e, upd_same, k1 xs (SqL.of (s _ _ hx)), k2 ys (SqL.of (s _ _ hy))⟩
  · obtain ⟨x1, y1, T, rfl, hT, e1, e2⟩ := y
    exact hs Ky i x1 y1 T acc H e1 e2 hT s g a
theorem lcZipT {K : PySem.W.Frag} {a b : Addr} {xs ys : List V} {Q : Addr → Hp → Prop} (hx : H1 a = some (.tup xs)) (hy : H1 b = some (.tup ys)) (hn : ys.length < sizeLine) (hl : ys.length ≤ xs.length) (G : Nat → List V → Hp → Prop)
    (hG : ∀ i acc H H', Tk H H' → G i acc H → G i acc H') (h0 : G 0 [] H1)
    (hs : ∀ (Ky : V → Hp → Prop) (i : Nat) (x y : V) (T : Addr) (acc : List V) (H : Hp), xs[i]? = some x → ys[i]? = some y → H T = some (.tup [x, y]) → Same H1 H → G i acc H → (∀ y H4, Same H H4 → G (i + 1) (acc ++ [y]) H4 → Ky y H4) →
      g (.ref T) (wipe σ vs) H fun σ2 H2 => wipe σ2 vs = wipe σ vs ∧ te σ2 H2 Ky)
    (hd : ∀ D acc H, H1 D = none → Same H1 H → H D = some (.lst acc) → acc.length ≤ ys.length → G ys.length acc H → Q D H) :
    ∀ D, H1 D = none → ∃ W : Nat → Nat → Hp → Prop, (∃ m, W 0 m (upd H1 D (.lst []))) ∧ ∀ i m H, W i m H →
      ((RZ.ItzT K a b).stop i H ∧ Q D H) ∨ ((RZ.ItzT K a b).go i H ∧ ∃ Nx : Hp → Prop, (∀ H', Nx H' → ∃ m', m' < m ∧ W (i + 1) m' H') ∧ ∀ x H', (RZ.ItzT K a b).yld i H x H' → g x (wipe σ vs) H' fun σ2 H2 => wipe σ2 vs = wipe σ vs ∧ tYes σ2 H2 fun b H3 =>
        if b = true then te σ2 H3 fun y H4 => ∃ acc, H4 D = some (.lst acc) ∧ acc.length < sizeLine ∧ Nx (upd H4 D (.lst (acc ++ [y]))) else Nx H3) := by
  refine lcS (J := RZ.ItzT K a b) (n := ys.length) (tt := tYes) (fun i v H => ∃ x y T, v = .ref T ∧ H T = some (.tup [x, y]) ∧ xs[i]? = some x ∧ ys[i]? = some y) G (fun i H hi s => ⟨xs, ys, xs[i], ys[i], SqT.of (s _ _ hx), SqT.of (s _ _ hy), by rw [List.getElem?_eq_getElem], by rw [List.getElem?_eq_getElem]⟩)
    (fun H s => ⟨xs, ys, SqT.of (s _ _ hx), SqT.of (s _ _ hy), .inr (Nat.le_refl _)⟩) (fun i H x H' hi s y => ?_) hn hG h0 (fun Ky Kn i x acc H _ s y g a b => ?_) hd
  · obtain ⟨T, x1, y1, e, hT, e2, k1, k2⟩ := y
    subst e2
    exact ⟨same_upd hT, x1, y1, T, e, upd_same, k1 xs (SqT.of (s _ _ hx)), k2 ys (SqT.of (s _ _ hy))⟩
  · obtain ⟨x1, y1, T, rfl, hT, e1, e2⟩ := y
    exact hs Ky i x1 y1 T acc H e1 e2 hT s g a
/-- the signs of a text -/
theorem lcStr {x : Str} {Q : Addr → Hp → Prop} (hn : x.cps.size < sizeLine) (G : Nat → List V → Hp → Prop)
    (hG : ∀ i acc H H', Tk H H' → G i acc H → G i acc H') (h0 : G 0 [] H1)
    (hs : ∀ (Ky : V → Hp → Prop) (i : Nat) (c : Nat) (acc : List V) (H : Hp), x.cps[i]? = some c → Same H1 H → G i acc H → (∀ y H4, Same H H4 → G (i + 1) (acc ++ [y]) H4 → Ky y H4) →
      g (.str ⟨#[c]⟩) (wipe σ vs) H fun σ2 H2 => wipe σ2 vs = wipe σ vs ∧ te σ2 H2 Ky)
    (hd : ∀ D acc H, H1 D = none → Same H1 H → H D = some (.lst acc) → acc.length ≤ x.cps.size → G x.cps.size acc H → Q D H) :
    ∀ D, H1 D = none → ∃ W : Nat → Nat → Hp → Prop, (∃ m, W 0 m (upd H1 D (.lst []))) ∧ ∀ i m H, W i m H →
      ((Its x).stop i H ∧ Q D H) ∨ ((Its x).go i H ∧ ∃ Nx : Hp → Prop, (∀ H', Nx H' → ∃ m', m' < m ∧ W (i + 1) m' H') ∧ ∀ v H', (Its x).yld i H v H' → g v (wipe σ vs) H' fun σ2 H2 => wipe σ2 vs = wipe σ vs ∧ tYes σ2 H2 fun b H3 =>
        if b = true then te σ2 H3 fun y H4 => ∃ acc, H4 D = some (.lst acc) ∧ acc.length < sizeLine ∧ Nx (upd H4 D (.lst (acc ++ [y]))) else Nx H3) := by
  refine lcS (J := Its x) (n := x.cps.size) (tt := tYes) (fun i v _ => ∃ c, x.cps[i]? = some c ∧ v = .str ⟨#[c]⟩) G (fun i H hi s => hi) (fun H s => Nat.le_refl _) (fun i H v H' hi s y => ⟨y.1 ▸ Same.refl H, y.2⟩) hn hG h0 (fun Ky Kn i v acc H _ s y g a b => ?_) hd
  obtain ⟨c, e1, rfl⟩ := y
  exact hs Ky i c acc H e1 s g a
theorem cut_upto (xs : List V) (k : Nat) : cutV xs none (some (k : Int)) = xs.take k := by
  unfold cutV
  rw [HT.sIx_none, HT.sIx_nat, List.drop_zero, Nat.sub_zero]
  by_cases h : k ≤ xs.length
  · rw [Nat.min_eq_left h]
  · rw [Nat.min_eq_right (by omega), List.take_length, List.take_of_length_le (by omega)]
theorem cut_from_to (xs : List V) (i k : Nat) : cutV xs (some (i : Int)) (some (k : Int)) = (xs.drop i).take (k - i) := by
  unfold cutV
  rw [HT.sIx_nat, HT.sIx_nat]
  by_cases h : i ≤ xs.length
  · rw [Nat.min_eq_left h]
    by_cases h2 : k ≤ xs.length
    · rw [Nat.min_eq_left h2]
    · rw [Nat.min_eq_right (by omega), List.take_of_length_le (by rw [List.length_drop]; exact Nat.le_refl _), List.take_of_length_le (by rw [List.length_drop]; omega)]
  · rw [Nat.min_eq_right (show xs.length ≤ i by omega), List.drop_of_length_le (Nat.le_refl _), List.drop_of_length_le (show xs.length ≤ i by omega)]; simp
theorem cut_from (xs : List V) (i : Nat) : cutV xs (some (i : Int)) none = xs.drop i := by
  unfold cutV
  rw [HT.sIx_nat, HT.sIx_none]
  by_cases h : i ≤ xs.length
  · rw [Nat.min_eq_left h, List.take_of_length_le (by rw [List.length_drop]; exact Nat.le_refl _)]
  · rw [Nat.min_eq_right (show xs.length ≤ i by omega), List.drop_of_length_le (Nat.le_refl _), List.drop_of_length_le (show xs.length ≤ i by omega)]; simp
theorem cut1 (xs : List V) : cutV xs (some 1) none = xs.drop 1 := cut_from xs 1
end
end K57
namespace K57
open PySem PySem.Spec PyProof.Rows L2
section
variable {X : Cx} {pins : List (Addr × Obj)} {σ : L2.St} {H : Hp} {s : Shared}
/-- *d of a dict: its keys -/
theorem star_dict {a : Addr} {kvs : List (Key × V)} {E : Value → Shared → Prop} {Q : List Value → Shared → Prop} (hc : X.calm = true) (I : Inv X pins σ H s) (h : H a = some (.dK kvs))
    (hQ : ∀ us s', Inv X pins σ H s' → Vals (kvs.map fun kv => kV kv.1) us → Q us s') : PySem.W.StarOf (model X.prog X.w) X.A E (.ref a) Q s := by
  obtain ⟨z, lo, vs, rk, hd⟩ := (show ObjOk X.prog X.w H s.heap a (.dK kvs) from I.hok a _ h)
  obtain ⟨ep, hat⟩ := hd.dictAt
  have hl : kvs.length = vs.length := Paired.length rk
  have hT : s.TypeIs (.ref a) "dict" := hd.typeIs
  have zz : wpAny (model X.prog X.w) X.A (collect (.ref a)) Q E s := by
    refine PySem.W.kdu_collect (PySem.W.kdl_dict (knd := mixKind X.prog X.w) (kvs := vs) (ep := ep) lo) (I.ok.hd hc) hat (by rw [← hl]; exact z) fun h' tk acc hkeep hacc => ?_
    refine hQ _ _ (I.kept hkeep) (vals_of_at (by rw [List.length_map, hl]; have := hacc.1; simp only [Array.length_toList]; omega) fun j x w h1 h2 => ?_)
    obtain ⟨k, y, hky, hi⟩ := hacc.2 j w (by rw [← Array.getElem?_toList]; exact h2)
    have e1 : (kvs.map (·.1))[j]? = some k := by
      rw [KV.keys rk, List.getElem?_map, hky] <;> rfl
    have e2 : (kvs.map fun kv => kV kv.1)[j]? = some (kV k) := by
      rw [show (kvs.map fun kv => kV kv.1) = (kvs.map (·.1)).map kV by rw [List.map_map] <;> rfl, List.getElem?_map, e1] <;> rfl
    rw [e2] at h1
    cases h1
    exact keyIs_rel hi
  unfold PySem.W.StarOf notIterableAtAll
  exact wpAny_bind (wpAny_specialOf hT PySem.F.slot_dict_iter.lookup (wpAny_pure ⟨rfl, zz⟩))
variable {e : Expr} {es : List Expr} {te : TE} {t : TA} {p : Pos}
def tStarD (te : TE) (t : TA) : TA := fun σ H Q => te σ H fun x H1 => ∃ a kvs, x = .ref a ∧ H1 a = some (.dK kvs) ∧ t σ H1 fun ys H2 => Q ((kvs.map fun kv => kV kv.1) ++ ys) H2
theorem pa_starD (hc : X.calm = true) (he : PE X e te) (hr : PA X es t) (hs : starEach (.Starred e p :: es) X.env = (true, eval e X.env) :: starEach es X.env := by rfl) : PA X (.Starred e p :: es) (tStarD te t) := by
  refine ⟨fun pos pins s σ H Q I h => PySem.W.items_star (thn (he.run pins s σ H _ I h) fun v s1 ⟨y, H1, I1, ry, a, kvs, ey, hx, q⟩ => ?_) hs⟩
  subst ey
  obtain rfl : v = Value.ref a := ry
  exact star_dict hc I1 hx fun us s2 I2 rv => thn (hr.run pos pins s2 σ H1 _ I2 q) fun ws s3 ⟨vs, H3, I3, r3, q3⟩ => ⟨_, H3, I3, rv.append r3, q3⟩
end
end K57
namespace K57
open PySem PySem.Spec PyProof.Rows L2
/-! ### data in the heap -/
structure Shop where
  parts : List (Str × Int)
  packs : List (Pk Str)
def HasName (H : Hp) (v : V) (n : Str) : Prop := ∃ t r, v = .ref t ∧ H t = some (.tup (.str n :: r))
/-- a pair (name, number) -/
def IsP (H : Hp) (v : V) (p : Str × Int) : Prop := ∃ t, v = .ref t ∧ H t = some (.tup [.str p.1, .int p.2])
/-- a pack -/
def IsPk (H : Hp) (v : V) (p : Pk Str) : Prop := ∃ t u zs, v = .ref t ∧ H t = some (.tup [.str p.name, .int p.made, .bl p.apart, .ref u]) ∧ H u = some (.tup zs) ∧ Paired (IsP H) zs p.sheet
/-- a tuple of pairs -/
def RowAt (H : Hp) (a : Addr) (l : List (Str × Int)) : Prop := ∃ xs, H a = some (.tup xs) ∧ Paired (IsP H) xs l
def RowF (H : Hp) (a : Addr) (l : List (Str × Int)) : Prop := ∃ xs, FzT H a xs ∧ Paired (IsP H) xs l
structure ShopAt (H : Hp) (t : Addr) (S : Shop) : Prop where
  ex : ∃ a b c xs ys, H t = some (.tup [.ref a, .ref b, .ref c]) ∧ H a = some (.tup xs) ∧ Paired (IsP H) xs S.parts ∧ H b = some (.tup []) ∧ H c = some (.tup ys) ∧ Paired (IsPk H) ys S.packs
theorem pimp {α β : Type} {F G : α → β → Prop} (h : ∀ a b, F a b → G a b) : ∀ {xs : List α} {ys : List β}, Paired F xs ys → Paired G xs ys
  | _, _, .nil => .nil
  | _, _, .cons r t => .cons (h _ _ r) (pimp h t)
theorem pget {α β : Type} {F : α → β → Prop} : ∀ {xs : List α} {ys : List β} {i : Nat} {x : α}, Paired F xs ys → xs[i]? = some x → ∃ y, ys[i]? = some y ∧ F x y
  | _, _, _, _, .nil, e => by simp at e
  | _, _, 0, _, .cons r _, e => by simp at e; subst e; exact ⟨_, rfl, r⟩
  | _, _, i + 1, x, .cons _ t, e => by
    obtain ⟨y, h1, h2⟩ := pget (i := i) (x := x) t (by simpa using e)
    exact ⟨y, by simpa using h1, h2⟩
theorem plen {α β : Type} {F : α → β → Prop} : ∀ {xs : List α} {ys : List β}, Paired F xs ys → xs.length = ys.length
  | _, _, .nil => rfl
  | _, _, .cons _ t => congrArg (· + 1) (plen t)
theorem papp {α β : Type} {F : α → β → Prop} : ∀ {xs xs' : List α} {ys ys' : List β}, Paired F xs ys → Paired F xs' ys' → Paired F (xs ++ xs') (ys ++ ys')
  | _, _, _, _, .nil, s => s
  | _, _, _, _, .cons r t, s => .cons r (papp t s)
theorem pmap {α β γ : Type} {F : α → β → Prop} {G : α → γ → Prop} (f : β → γ) (h : ∀ a b, F a b → G a (f b)) : ∀ {xs : List α} {ys : List β}, Paired F xs ys → Paired G xs (ys.map f)
  | _, _, .nil => .nil
  | _, _, .cons r t => .cons (h _ _ r) (pmap f h t)
/-- an arrangement of the first list, carried over -/
theorem pperm {α β : Type} {F : α → β → Prop} {xs zs : List α} {ys : List β} (h : Paired F xs ys) (p : zs.Perm xs) : ∃ ws, ws.Perm ys ∧ Paired F zs ws := by
  have p2 : xs.Perm zs := p.symm
  clear p
  induction p2 generalizing ys with
  | nil => exact ⟨ys, .refl _, h⟩
  | cons a _ ih =>
    cases h with
    | cons r t =>
      obtain ⟨ws, p1, q1⟩ := ih t
      exact ⟨_ :: ws, p1.cons _, .cons r q1⟩
  | swap a b l =>
    cases h with
    | cons r t =>
      cases t with
      | cons r2 t2 => exact ⟨_ :: _ :: _, .swap _ _ _, .cons r2 (.cons r t2)⟩
  | trans _ _ ih1 ih2 =>
    obtain ⟨ws, p1, q1⟩ := ih1 h
    obtain ⟨us, p2, q2⟩ := ih2 q1
    exact ⟨us, p2.trans p1, q2⟩
section
variable {H H' : Hp}
theorem HasName.tk {v : V} {n : Str} (k : Tk H H') (h : HasName H v n) : HasName H' v n := let ⟨t, r, e, h⟩ := h; ⟨t, r, e, k _ _ h⟩
theorem IsP.tk {v : V} {p : Str × Int} (k : Tk H H') (h : IsP H v p) : IsP H' v p := let ⟨t, e, h⟩ := h; ⟨t, e, k _ _ h⟩
theorem IsPk.tk {v : V} {p : Pk Str} (k : Tk H H') (h : IsPk H v p) : IsPk H' v p := let ⟨t, u, zs, e, h, h2, h3⟩ := h; ⟨t, u, zs, e, k _ _ h, k _ _ h2, pimp (fun _ _ => IsP.tk k) h3⟩
theorem RowAt.tk {a : Addr} {l : List (Str × Int)} (k : Tk H H') (h : RowAt H a l) : RowAt H' a l := let ⟨xs, h, p⟩ := h; ⟨xs, k _ _ h, pimp (fun _ _ => IsP.tk k) p⟩
theorem RowF.sm {a : Addr} {l : List (Str × Int)} (k : Same H H') (h : RowF H a l) : RowF H' a l := let ⟨xs, ⟨o, h, d⟩, p⟩ := h; ⟨xs, ⟨o, k _ _ h, d⟩, pimp (fun _ _ => IsP.tk (tk_of k)) p⟩
theorem ShopAt.tk {t : Addr} {S : Shop} (k : Tk H H') (h : ShopAt H t S) : ShopAt H' t S := by
  obtain ⟨a, b, c, xs, ys, h1, h2, h3, h4, h5, h6⟩ := h.ex
  exact ⟨a, b, c, xs, ys, k _ _ h1, k _ _ h2, pimp (fun _ _ => IsP.tk k) h3, k _ _ h4, k _ _ h5, pimp (fun _ _ => IsPk.tk k) h6⟩
theorem IsP.name {v : V} {p : Str × Int} (h : IsP H v p) : HasName H v p.1 := let ⟨t, e, h⟩ := h; ⟨t, _, e, h⟩
theorem IsPk.name {v : V} {p : Pk Str} (h : IsPk H v p) : HasName H v p.name := let ⟨t, u, zs, e, h, _⟩ := h; ⟨t, _, e, h⟩
end
/-! ### names -/
def LETT : Str := "abcdefghijklmnopqrstuvwxyz"
def NameOk (z : Str) : Prop := 1 ≤ z.length ∧ z.length ≤ 8 ∧ ∀ c ∈ z.cps.toList, c ∈ LETT.cps.toList
def ltS (a b : Str) : Prop := a.cps.toList < b.cps.toList
/-! ### dicts of numbers -/
def getL : List (Str × Int) → Str → Option Int
  | [], _ => none
  | p :: l, x => if p.1 = x then some p.2 else getL l x
def putL : List (Str × Int) → Str → Int → List (Str × Int)
  | [], x, v => [(x, v)]
  | p :: l, x, v => if p.1 = x then (p.1, v) :: l else p :: putL l x v
theorem getL_cons (p : Str × Int) (l : List (Str × Int)) (x : Str) : getL (p :: l) x = if p.1 = x then some p.2 else getL l x := rfl
theorem putL_cons (p : Str × Int) (l : List (Str × Int)) (x : Str) (v : Int) : putL (p :: l) x v = if p.1 = x then (p.1, v) :: l else p :: putL l x v := rfl
def encK (l : List (Str × Int)) : List (Key × V) := l.map fun p => (Sum.inr p.1, V.int p.2)
theorem encK_len (l : List (Str × Int)) : (encK l).length = l.length := List.length_map _
theorem valV_enc : ∀ (l : List (Str × Int)) (x : Str), valV (encK l) (Sum.inr x : Key) = (getL l x).map V.int
  | [], x => rfl
  | p :: l, x => by
    have ih := valV_enc l x
    unfold encK at ih ⊢
    rw [List.map_cons]
    by_cases e : p.1 = x
    · rw [valV_pos (congrArg Sum.inr e), getL_cons, if_pos e]; rfl
    · rw [valV_neg (fun h => e (Sum.inr.inj h)), ih, getL_cons, if_neg e]
theorem getL_put : ∀ (l : List (Str × Int)) (x : Str) (v : Int) (y : Str), getL (putL l x v) y = if y = x then some v else getL l y
  | [], x, v, y => by
    show (if x = y then some v else none) = if y = x then some v else none
    by_cases e : x = y
    · rw [if_pos e, if_pos e.symm]
    · rw [if_neg e, if_neg fun h => e h.symm]
  | p :: l, x, v, y => by
    rw [putL_cons]
    by_cases e : p.1 = x
    · rw [if_pos e, getL_cons, getL_cons]
      by_cases e2 : p.1 = y
      · rw [if_pos e2, if_pos (e2.symm.trans e)]
      · rw [if_neg e2, if_neg (fun h => e2 (e.trans h.symm)), if_neg e2]
    · rw [if_neg e, getL_cons, getL_cons]
      by_cases e2 : p.1 = y
      · rw [if_pos e2, if_pos e2, if_neg (fun h => e (e2.trans h))]
      · rw [if_neg e2, if_neg e2, getL_put l x v y]
theorem putL_keys : ∀ (l : List (Str × Int)) (x : Str) (v : Int), (getL l x).isSome = true → (putL l x v).map (·.1) = l.map (·.1)
  | [], x, v, h => by simp [getL] at h
  | p :: l, x, v, h => by
    rw [putL_cons]
    rw [getL_cons] at h
    by_cases e : p.1 = x
    · rw [if_pos e]; rfl
    · rw [if_neg e] at h ⊢
      rw [List.map_cons, List.map_cons, putL_keys l x v h]
theorem any_enc (l : List (Str × Int)) (x : Str) : ((encK l).any fun kv => decide (kv.1 = (Sum.inr x : Key))) = (getL l x).isSome := by
  rw [valV_any, valV_enc]
  cases getL l x <;> rfl
theorem putK_enc (l : List (Str × Int)) (nd : (l.map (·.1)).Nodup) (x : Str) (v : Int) : putK (encK l) (Sum.inr x : Key) (.int v) = encK (putL l x v) := by
  unfold putK
  rw [any_enc]
  have none_of : ∀ (l : List (Str × Int)), getL l x = none → putL l x v = l ++ [(x, v)] ∧ (encK l).map (fun kv => if kv.1 = (Sum.inr x : Key) then (kv.1, V.int v) else kv) = encK l := by
    intro l
    induction l with
    | nil => intro _; exact ⟨rfl, rfl⟩
    | cons p l ih =>
      intro h
      rw [getL_cons] at h
      by_cases e : p.1 = x
      · rw [if_pos e] at h; cases h
      · rw [if_neg e] at h
        obtain ⟨h1, h2⟩ := ih h
        refine ⟨by rw [putL_cons, if_neg e, h1]; rfl, ?_⟩
        unfold encK at h2 ⊢
        rw [List.map_cons, List.map_cons, h2, if_neg (fun q : (Sum.inr p.1 : Key) = Sum.inr x => e (Sum.inr.inj q))]
  cases hg : getL l x with
  | none =>
    rw [if_neg (by simp), (none_of l hg).1]
    unfold encK
    rw [List.map_append]; rfl
  | some w =>
    rw [if_pos (show (some w).isSome = true from rfl)]
    clear none_of
    induction l with
    | nil => cases hg
    | cons p l ih =>
      rw [List.map_cons, List.nodup_cons] at nd
      rw [getL_cons] at hg
      rw [putL_cons]
      by_cases e : p.1 = x
      · rw [if_pos e]
        have hn : getL l x = none := by
          have : ∀ (l : List (Str × Int)), x ∉ l.map (·.1) → getL l x = none := by
            intro l
            induction l with
            | nil => intro _; rfl
            | cons q l ih =>
              intro h
              rw [getL_cons, if_neg (fun e => h (by rw [List.map_cons, e]; exact List.mem_cons_self)), ih fun hm => h (List.mem_cons_of_mem _ hm)]
          exact this l (by rw [← e]; exact nd.1)
        unfold encK
        rw [List.map_cons, List.map_cons, List.map_cons, if_pos (congrArg Sum.inr e)]
        refine congrArg (_ :: ·) ?_
        have h2 : ∀ (l : List (Str × Int)), getL l x = none → (encK l).map (fun kv => if kv.1 = (Sum.inr x : Key) then (kv.1, V.int v) else kv) = encK l := by
          intro l
          induction l with
          | nil => intro _; rfl
          | cons p l ih =>
            intro h
            rw [getL_cons] at h
            by_cases e : p.1 = x
            · rw [if_pos e] at h; cases h
            · rw [if_neg e] at h
              have h2 := ih h
              unfold encK at h2 ⊢
              rw [List.map_cons, List.map_cons, h2, if_neg (fun q : (Sum.inr p.1 : Key) = Sum.inr x => e (Sum.inr.inj q))]
        exact h2 l hn
      · rw [if_neg e] at hg ⊢
        have := ih nd.2 hg
        unfold encK at this ⊢
        rw [List.map_cons, List.map_cons, List.map_cons, this, if_neg (fun q : (Sum.inr p.1 : Key) = Sum.inr x => e (Sum.inr.inj q))]
theorem getL_isSome : ∀ (l : List (Str × Int)) (x : Str), (getL l x).isSome = true ↔ x ∈ l.map (·.1)
  | [], x => by simp [getL]
  | p :: l, x => by
    have ih := getL_isSome l x
    rw [getL_cons, List.map_cons, List.mem_cons]
    by_cases e : p.1 = x
    · rw [if_pos e]; exact ⟨fun _ => .inl e.symm, fun _ => rfl⟩
    · rw [if_neg e, ih]
      exact ⟨.inr, fun h => h.resolve_left fun q => e q.symm⟩
theorem getL_cnt : ∀ (l : List (Str × Int)) (x : Str), (l.map (·.1)).Nodup → (getL l x).getD 0 = cnt l x
  | [], x, _ => rfl
  | p :: l, x, nd => by
    rw [List.map_cons, List.nodup_cons] at nd
    have ih := getL_cnt l x nd.2
    show (getL (p :: l) x).getD 0 = (if p.1 = x then p.2 else 0) + cnt l x
    rw [getL_cons]
    by_cases e : p.1 = x
    · rw [if_pos e, if_pos e, cnt_zero (fun q hq h => nd.1 (by rw [e, ← h]; exact List.mem_map_of_mem hq))]
      simp
    · rw [if_neg e, if_neg e, ih, Int.zero_add]
theorem putL_nodup (l : List (Str × Int)) (x : Str) (v : Int) (nd : (l.map (·.1)).Nodup) : ((putL l x v).map (·.1)).Nodup := by
  cases h : (getL l x).isSome with
  | true => rw [putL_keys l x v h]; exact nd
  | false =>
    have hx : x ∉ l.map (·.1) := fun hm => by rw [(getL_isSome l x).mpr hm] at h; cases h
    have e : ∀ (l : List (Str × Int)), x ∉ l.map (·.1) → putL l x v = l ++ [(x, v)] := by
      intro l
      induction l with
      | nil => intro _; rfl
      | cons p l ih =>
        intro h
        rw [putL_cons]
        rw [if_neg (fun e => h (by rw [List.map_cons, e]; exact List.mem_cons_self)), ih fun hm => h (List.mem_cons_of_mem _ hm)]; rfl
    rw [e l hx, List.map_append, List.nodup_append]
    refine ⟨nd, by simp, fun a ha b hb => ?_⟩
    have hb : b = x := by simpa using hb
    rw [hb]
    exact fun q => hx (q ▸ ha)
theorem putL_mem (l : List (Str × Int)) (x : Str) (v : Int) (y : Str) : y ∈ (putL l x v).map (·.1) ↔ y = x ∨ y ∈ l.map (·.1) := by
  rw [← getL_isSome, ← getL_isSome, getL_put]
  by_cases e : y = x
  · rw [if_pos e]; exact ⟨fun _ => .inl e, fun _ => rfl⟩
  · rw [if_neg e]; exact ⟨.inr, fun h => h.resolve_left e⟩
theorem putL_len (l : List (Str × Int)) (x : Str) (v : Int) : (putL l x v).length ≤ l.length + 1 := by
  induction l with
  | nil => exact Nat.le_refl _
  | cons p l ih =>
    rw [putL_cons]
    by_cases e : p.1 = x
    · rw [if_pos e]; simp
    · rw [if_neg e, List.length_cons, List.length_cons]; omega
end K57
namespace K57
open PySem PySem.Spec PyProof.Rows L2
variable {P : Program} {w : World} {K : PySem.W.Frag} {mg : Str → Option Value} {base : Heap}
def sp_is_integer : Sp := fun vs H Q _ => ∃ i, vs = [.int i] ∧ Q (.bl true) H
/-! ### is_integer: 0 thing -/
abbrev N_is_integer : List Str := ["thing"]
theorem sc_is_integer : FnScope N_is_integer ["thing"] (defScope s_is_integer) := ⟨rfl, rfl, rfl, by decide +kernel, rfl, by decide +kernel, by decide +kernel⟩
theorem ok_is_integer (T : Tx K mg) : OkF P w K mg base "is_integer" 1 ["thing"] [] sp_is_integer := by
  refine okF_mk d_is_integer T (fn_mem 0 rfl) rfl rfl sc_is_integer (fun _ _ _ _ _ _ us hl => match us, hl with | [_], _ => rfl) (fun vs H Q E h => ?_) (fun f cdv A outer s H vs Q E hr h => ?_)
  · first | (obtain ⟨_, rfl, _⟩ := h; rfl) | (obtain ⟨_, _, rfl, _⟩ := h; rfl) | (obtain ⟨_, _, _, rfl, _⟩ := h; rfl) | (obtain ⟨_, _, _, _, rfl, _⟩ := h; rfl) | (obtain ⟨_, _, _, _, _, rfl, _⟩ := h; rfl) | (obtain ⟨_, _, _, _, _, _, rfl, _⟩ := h; rfl) | (obtain ⟨_, _, _, _, _, _, _, rfl, _⟩ := h; rfl)
  · have hu := hu_of hr
    have hu65 := hu65_of hr
    refine ⟨_, (pss_one (ps_ret (pe_and (pe_callB call_isG (by rfl) T.m_isinstance b_isinstance (pa_cons (pv 0) (pa_cons (pe_bltn (v := .ty "int") (by rfl) T.m_int b_int rfl) pa_nil))) (pe_one (pe_not (pe_callB call_isG (by rfl) T.m_isinstance b_isinstance (pa_cons (pv 0) (pa_cons (pe_bltn (v := .ty "bool") (by rfl) T.m_bool b_bool rfl) pa_nil)))))))), ?_⟩
    obtain ⟨i, rfl, q⟩ := h
    refine ⟨_, rfl, .inl ⟨_, rfl, true, rfl, ?_⟩⟩
    refine iteT ?_
    refine ⟨_, rfl, .inr (.inl ⟨_, rfl, false, rfl, ?_⟩)⟩
    exact q
def sp_is_number : Sp := fun vs H Q _ => ∃ i, vs = [.int i] ∧ Q (.bl (decide (0 ≤ i))) H
/-! ### is_number: 0 thing -/
abbrev N_is_number : List Str := ["thing"]
theorem sc_is_number : FnScope N_is_number ["thing"] (defScope s_is_number) := ⟨rfl, rfl, rfl, by decide +kernel, rfl, by decide +kernel, by decide +kernel⟩
theorem ok_is_number (T : Tx K mg) : OkF P w K mg base "is_number" 2 ["thing"] [] sp_is_number := by
  have O_is_integer : OkF P w K mg base "is_integer" 1 ["thing"] [] sp_is_integer := ok_is_integer T
  refine okF_mk d_is_number T (fn_mem 1 rfl) rfl rfl sc_is_number (fun _ _ _ _ _ _ us hl => match us, hl with | [_], _ => rfl) (fun vs H Q E h => ?_) (fun f cdv A outer s H vs Q E hr h => ?_)
  · first | (obtain ⟨_, rfl, _⟩ := h; rfl) | (obtain ⟨_, _, rfl, _⟩ := h; rfl) | (obtain ⟨_, _, _, rfl, _⟩ := h; rfl) | (obtain ⟨_, _, _, _, rfl, _⟩ := h; rfl) | (obtain ⟨_, _, _, _, _, rfl, _⟩ := h; rfl) | (obtain ⟨_, _, _, _, _, _, rfl, _⟩ := h; rfl) | (obtain ⟨_, _, _, _, _, _, _, rfl, _⟩ := h; rfl)
  · have hu := hu_of hr
    have hu65 := hu65_of hr
    refine ⟨_, (pss_one (ps_ret (pe_and (pe_callO O_is_integer hr (pa_cons (pv 0) pa_nil)) (pe_one (pe_cmpR op_ge (pv 0) pe_int (by first | exact nomark _ | rfl)))))), ?_⟩
    obtain ⟨i, rfl, q⟩ := h
    refine ⟨_, rfl, _, rfl, true, rfl, iteT ?_⟩
    exact ⟨_, rfl, _, _, rfl, rfl, q⟩
def sp_is_count : Sp := fun vs H Q _ => ∃ i, vs = [.int i] ∧ Q (.bl (decide (1 ≤ i))) H
/-! ### is_count: 0 thing -/
abbrev N_is_count : List Str := ["thing"]
theorem sc_is_count : FnScope N_is_count ["thing"] (defScope s_is_count) := ⟨rfl, rfl, rfl, by decide +kernel, rfl, by decide +kernel, by decide +kernel⟩
theorem ok_is_count (T : Tx K mg) : OkF P w K mg base "is_count" 2 ["thing"] [] sp_is_count := by
  have O_is_integer : OkF P w K mg base "is_integer" 1 ["thing"] [] sp_is_integer := ok_is_integer T
  refine okF_mk d_is_count T (fn_mem 2 rfl) rfl rfl sc_is_count (fun _ _ _ _ _ _ us hl => match us, hl with | [_], _ => rfl) (fun vs H Q E h => ?_) (fun f cdv A outer s H vs Q E hr h => ?_)
  · first | (obtain ⟨_, rfl, _⟩ := h; rfl) | (obtain ⟨_, _, rfl, _⟩ := h; rfl) | (obtain ⟨_, _, _, rfl, _⟩ := h; rfl) | (obtain ⟨_, _, _, _, rfl, _⟩ := h; rfl) | (obtain ⟨_, _, _, _, _, rfl, _⟩ := h; rfl) | (obtain ⟨_, _, _, _, _, _, rfl, _⟩ := h; rfl) | (obtain ⟨_, _, _, _, _, _, _, rfl, _⟩ := h; rfl)
  · have hu := hu_of hr
    have hu65 := hu65_of hr
    refine ⟨_, (pss_one (ps_ret (pe_and (pe_callO O_is_integer hr (pa_cons (pv 0) pa_nil)) (pe_one (pe_cmpR op_ge (pv 0) pe_int (by first | exact nomark _ | rfl)))))), ?_⟩
    obtain ⟨i, rfl, q⟩ := h
    refine ⟨_, rfl, _, rfl, true, rfl, iteT ?_⟩
    exact ⟨_, rfl, _, _, rfl, rfl, q⟩
def sp_is_among : Sp := fun vs H Q _ => ∃ (z : Str) (p : Addr) (ns : List Str), vs = [.str z, .ref p] ∧ H p = some (.lst (ns.map V.str)) ∧ Q (.bl (decide (z ∈ ns))) H
/-! ### is_among: 0 thing, 1 names -/
abbrev N_is_among : List Str := ["thing", "names"]
theorem sc_is_among : FnScope N_is_among ["thing", "names"] (defScope s_is_among) := ⟨rfl, rfl, rfl, by decide +kernel, rfl, by decide +kernel, by decide +kernel⟩
theorem ok_is_among (T : Tx K mg) : OkF P w K mg base "is_among" 1 ["thing", "names"] [] sp_is_among := by
  refine okF_mk d_is_among T (fn_mem 4 rfl) rfl rfl sc_is_among (fun _ _ _ _ _ _ us hl => match us, hl with | [_, _], _ => rfl) (fun vs H Q E h => ?_) (fun f cdv A outer s H vs Q E hr h => ?_)
  · first | (obtain ⟨_, rfl, _⟩ := h; rfl) | (obtain ⟨_, _, rfl, _⟩ := h; rfl) | (obtain ⟨_, _, _, rfl, _⟩ := h; rfl) | (obtain ⟨_, _, _, _, rfl, _⟩ := h; rfl) | (obtain ⟨_, _, _, _, _, rfl, _⟩ := h; rfl) | (obtain ⟨_, _, _, _, _, _, rfl, _⟩ := h; rfl) | (obtain ⟨_, _, _, _, _, _, _, rfl, _⟩ := h; rfl)
  · have hu := hu_of hr
    have hu65 := hu65_of hr
    refine ⟨_, (pss_one (ps_ret (pe_and (pe_callB call_isG (by rfl) T.m_isinstance b_isinstance (pa_cons (pv 0) (pa_cons (pe_bltn (v := .ty "str") (by rfl) T.m_str b_str rfl) pa_nil))) (pe_one (pe_cmpR op_inN (pv 0) (pv 1) (by first | exact nomark _ | rfl)))))), ?_⟩
    obtain ⟨z, p, ns, rfl, hp, q⟩ := h
    refine ⟨_, rfl, .inr (.inr (.inl ⟨_, rfl, true, rfl, iteT ?_⟩))⟩
    exact ⟨_, rfl, _, rfl, z, p, ns, rfl, rfl, hp, q⟩
def sp_is_tuple_of : Sp := fun vs H Q _ => ∃ (a : Addr) (xs : List V) (m : Int), vs = [.ref a, .int m] ∧ H a = some (.tup xs) ∧ Q (.bl (decide ((xs.length : Int) = m))) H
/-! ### is_tuple_of: 0 thing, 1 many -/
abbrev N_is_tuple_of : List Str := ["thing", "many"]
theorem sc_is_tuple_of : FnScope N_is_tuple_of ["thing", "many"] (defScope s_is_tuple_of) := ⟨rfl, rfl, rfl, by decide +kernel, rfl, by decide +kernel, by decide +kernel⟩
theorem ok_is_tuple_of (T : Tx K mg) : OkF P w K mg base "is_tuple_of" 1 ["thing", "many"] [] sp_is_tuple_of := by
  refine okF_mk d_is_tuple_of T (fn_mem 5 rfl) rfl rfl sc_is_tuple_of (fun _ _ _ _ _ _ us hl => match us, hl with | [_, _], _ => rfl) (fun vs H Q E h => ?_) (fun f cdv A outer s H vs Q E hr h => ?_)
  · first | (obtain ⟨_, rfl, _⟩ := h; rfl) | (obtain ⟨_, _, rfl, _⟩ := h; rfl) | (obtain ⟨_, _, _, rfl, _⟩ := h; rfl) | (obtain ⟨_, _, _, _, rfl, _⟩ := h; rfl) | (obtain ⟨_, _, _, _, _, rfl, _⟩ := h; rfl) | (obtain ⟨_, _, _, _, _, _, rfl, _⟩ := h; rfl) | (obtain ⟨_, _, _, _, _, _, _, rfl, _⟩ := h; rfl)
  · have hu := hu_of hr
    have hu65 := hu65_of hr
    refine ⟨_, (pss_one (ps_ret (pe_and (pe_callB call_isG (by rfl) T.m_isinstance b_isinstance (pa_cons (pv 0) (pa_cons (pe_bltn (v := .ty "tuple") (by rfl) T.m_tuple b_tuple rfl) pa_nil))) (pe_one (pe_cmpR op_eq (pe_callB call_len_seqN (by rfl) T.m_len b_len (pa_cons (pv 0) pa_nil)) (pv 1) (by first | exact nomark _ | rfl)))))), ?_⟩
    obtain ⟨a, xs, m, rfl, ha, q⟩ := h
    refine ⟨_, rfl, .inr (.inr (.inr ⟨_, _, rfl, ha, true, rfl, iteT ?_⟩))⟩
    refine ⟨_, rfl, _, _, rfl, .inr ha, _, rfl, rfl, ?_⟩
    have e : decide (V.int (xs.length : Int) = V.int m) = decide ((xs.length : Int) = m) := by
      by_cases e : (xs.length : Int) = m
      · simp [e]
      · simp [e]
    rw [e]
    exact q
def sp_first_names : Sp := fun vs H Q _ => ∃ (a : Addr) (xs : List V) (ns : List Str), vs = [.ref a] ∧ H a = some (.tup xs) ∧ Paired (HasName H) xs ns ∧ xs.length < sizeLine ∧ ∀ p H', New H p (.lst (ns.map V.str)) H' → Q (.ref p) H'
/-! ### first_names: 0 things, 1 thing -/
abbrev N_first_names : List Str := ["things", "thing"]
theorem sc_first_names : FnScope N_first_names ["things"] (defScope s_first_names) := ⟨rfl, rfl, rfl, by decide +kernel, rfl, by decide +kernel, by decide +kernel⟩
theorem ok_first_names (T : Tx K mg) : OkF P w K mg base "first_names" 1 ["things"] [] sp_first_names := by
  refine okF_mk d_first_names T (fn_mem 8 rfl) rfl rfl sc_first_names (fun _ _ _ _ _ _ us hl => match us, hl with | [_], _ => rfl) (fun vs H Q E h => ?_) (fun f cdv A outer s H vs Q E hr h => ?_)
  · first | (obtain ⟨_, rfl, _⟩ := h; rfl) | (obtain ⟨_, _, rfl, _⟩ := h; rfl) | (obtain ⟨_, _, _, rfl, _⟩ := h; rfl) | (obtain ⟨_, _, _, _, rfl, _⟩ := h; rfl) | (obtain ⟨_, _, _, _, _, rfl, _⟩ := h; rfl) | (obtain ⟨_, _, _, _, _, _, rfl, _⟩ := h; rfl) | (obtain ⟨_, _, _, _, _, _, _, rfl, _⟩ := h; rfl)
  · have hu := hu_of hr
    have hu65 := hu65_of hr
    refine ⟨_, (pss_one (ps_ret (pe_lc (own := [("thing", 1)]) (g := (gName 1)) (tt := tYes) rfl sc_first_names.nd (pi_tupN (pv 0)) (blkOk_by (N := N_first_names) (sc := (defScope s_first_names)) (own := [("thing", 1)]) (by decide +kernel)) (fun _ _ _ _ _ => (pg_name (i := 1) sc_first_names.nd rfl (by first | exact Or.inl rfl | exact Or.inr rfl))) (fun _ _ _ _ _ => pts_nil) (fun _ _ _ _ _ => (pe_ix ix_tupN (pv 1) pe_int (fun _ _ => rfl)))))), ?_⟩
    obtain ⟨a, xs, ns, rfl, ha, hp, hn, q⟩ := h
    refine ⟨_, rfl, a, rfl, ⟨xs, ha⟩, fun _ => lcTupY ha hn (fun i acc _ => acc = (ns.take i).map V.str) (fun _ _ _ _ _ h => h) rfl (fun Ky i x acc H1 hx s1 g ky => ?_) (fun D acc H1 hD s1 hA _ g => ?_)⟩
    · obtain ⟨n, hn, t, r, rfl, ht⟩ := pget hp hx
      refine ⟨rfl, ?_⟩
      refine ⟨_, rfl, t, _, _, _, rfl, rfl, s1 _ _ ht, atI_nat (j := 0) rfl, ?_⟩
      refine ky _ _ (Same.refl _) ?_
      subst g
      rw [take_next hn, List.map_append]; rfl
    · subst g
      have e : ns.take xs.length = ns := List.take_of_length_le (Nat.le_of_eq (plen hp).symm)
      rw [e] at hA
      exact q _ _ ⟨hD, hA, s1⟩
theorem rep_snoc (i : Nat) : List.replicate i (V.bl true) ++ [V.bl true] = List.replicate (i + 1) (V.bl true) := by
  rw [List.replicate_succ']
theorem rep_bl (i : Nat) : List.replicate i (V.bl true) = (List.replicate i true).map V.bl := by
  rw [List.map_replicate]
theorem rep_all (i : Nat) : (List.replicate i true).all id = true := by
  rw [List.all_eq_true]
  intro b hb
  exact List.eq_of_mem_replicate hb
theorem small8 {n : Nat} (h : n ≤ 1000) : n < sizeLine := small1000 h
def sp_is_name : Sp := fun vs H Q _ => ∃ (z : Str), vs = [.str z] ∧ NameOk z ∧ ∀ H', Same H H' → Q (.bl true) H'
/-! ### is_name: 0 thing, 1 sign -/
abbrev N_is_name : List Str := ["thing", "sign"]
theorem sc_is_name : FnScope N_is_name ["thing"] (defScope s_is_name) := ⟨rfl, rfl, rfl, by decide +kernel, rfl, by decide +kernel, by decide +kernel⟩
theorem ok_is_name (T : Tx K mg) : OkF P w K mg base "is_name" 1 ["thing"] [] sp_is_name := by
  refine okF_mk d_is_name T (fn_mem 3 rfl) rfl rfl sc_is_name (fun _ _ _ _ _ _ us hl => match us, hl with | [_], _ => rfl) (fun vs H Q E h => ?_) (fun f cdv A outer s H vs Q E hr h => ?_)
  · first | (obtain ⟨_, rfl, _⟩ := h; rfl) | (obtain ⟨_, _, rfl, _⟩ := h; rfl) | (obtain ⟨_, _, _, rfl, _⟩ := h; rfl) | (obtain ⟨_, _, _, _, rfl, _⟩ := h; rfl) | (obtain ⟨_, _, _, _, _, rfl, _⟩ := h; rfl) | (obtain ⟨_, _, _, _, _, _, rfl, _⟩ := h; rfl) | (obtain ⟨_, _, _, _, _, _, _, rfl, _⟩ := h; rfl)
  · have hu := hu_of hr
    have hu65 := hu65_of hr
    refine ⟨_, (pss_cons (ps_if (PW.pt (pw_or (pt_not (pt_val (pe_callB call_isG (by rfl) T.m_isinstance b_isinstance (pa_cons (pv 0) (pa_cons (pe_bltn (v := .ty "str") (by rfl) T.m_str b_str rfl) pa_nil))))) (pw_or1 (pt_not (pt_chain op_le op_le pe_int (pe_callB call_len_str (by rfl) T.m_len b_len (pa_cons (pv 0) pa_nil)) (pe_glob (v := .int 8) rfl T.longest.choose_spec ⟨_, rfl⟩))))))
        (pss_one (ps_ret pe_bl)) pss_nil)
      (pss_one (ps_ret (pe_callB (cr_allN rfl) (by rfl) T.m_all b_all (pa_cons (pe_lc (own := [("sign", 1)]) (g := (gName 1)) (tt := tYes) rfl sc_is_name.nd (pi_str (pv 0)) (blkOk_by (N := N_is_name) (sc := (defScope s_is_name)) (own := [("sign", 1)]) (by decide +kernel)) (fun _ _ _ _ _ => (pg_name (i := 1) sc_is_name.nd rfl (by first | exact Or.inl rfl | exact Or.inr rfl))) (fun _ _ _ _ _ => pts_nil) (fun _ _ _ _ _ => (pe_cmpR op_in_sign (pv 1) (pe_glob (v := .str LETT) rfl T.letters.choose_spec ⟨_, rfl⟩) (by first | exact nomark _ | rfl)))) pa_nil))))), ?_⟩
    obtain ⟨z, rfl, ⟨h1, h8, hc⟩, q⟩ := h
    have hz : z.length ≤ sizeLine := Nat.le_of_lt (small1000 (by omega))
    refine ⟨_, rfl, .inr (.inr (.inl ⟨_, rfl, true, rfl, ?_⟩))⟩
    refine iteF (A := _) ?_
    refine ⟨_, rfl, _, rfl, hz, _, _, rfl, rfl, _, rfl, ?_⟩
    have e1 : decide ((1 : Int) ≤ (z.length : Int)) = true := decide_eq_true (by omega)
    rw [e1]
    refine iteT (B := _) ?_
    refine ⟨_, _, rfl, rfl, _, rfl, ?_⟩
    have e2 : decide ((z.length : Int) ≤ 8) = true := decide_eq_true (by omega)
    rw [e2]
    refine iteF (A := _) ?_
    refine ⟨_, rfl, _, rfl, lcStr (Nat.lt_of_le_of_lt h8 (small1000 (by decide))) (fun i acc _ => acc = List.replicate i (.bl true)) (fun _ _ _ _ _ h => h) rfl (fun Ky i c acc H1 hx s1 g ky => ?_) (fun D acc H1 hD s1 hA _ g => ?_)⟩
    · refine ⟨rfl, _, rfl, c, LETT, rfl, rfl, ?_⟩
      have hm : c ∈ z.cps.toList := by
        rw [← Array.getElem?_toList] at hx
        exact List.mem_of_getElem? hx
      have e3 : decide (c ∈ LETT.cps.toList) = true := decide_eq_true (hc c hm)
      rw [e3]
      refine ky _ _ (Same.refl _) ?_
      subst g
      exact rep_snoc i
    · subst g
      rw [rep_bl] at hA
      refine ⟨D, _, rfl, hA, ?_⟩
      rw [rep_all]
      exact q H1 s1
theorem pairwise_next {α : Type} {R : α → α → Prop} : ∀ {l : List α} {i : Nat} {x y : α}, l.Pairwise R → l[i]? = some x → (l.drop 1)[i]? = some y → R x y
  | [], _, _, _, _, e, _ => by simp at e
  | a :: l, 0, x, y, h, e1, e2 => by
    rw [List.pairwise_cons] at h
    have e1 : a = x := by simpa using e1
    subst e1
    exact h.1 y (List.mem_of_getElem? (by simpa using e2))
  | a :: l, i + 1, x, y, h, e1, e2 => by
    rw [List.pairwise_cons] at h
    refine pairwise_next (l := l) (i := i) h.2 (by simpa using e1) ?_
    rw [List.getElem?_drop] at e2 ⊢
    have e3 : (a :: l)[1 + (i + 1)]? = l[1 + i]? := by
      rw [show 1 + (i + 1) = (1 + i) + 1 by omega, List.getElem?_cons_succ]
    rw [e3] at e2
    exact e2
def sp_is_names : Sp := fun vs H Q _ => ∃ (a : Addr) (ns : List Str), vs = [.ref a] ∧ H a = some (.tup (ns.map V.str)) ∧ ns.length ≤ 1000 ∧ (∀ z ∈ ns, NameOk z) ∧ ns.Pairwise ltS ∧ ∀ H', Same H H' → Q (.bl true) H'
/-! ### is_names: 0 thing, 1 one, 2 other -/
abbrev N_is_names : List Str := ["thing", "one", "other"]
theorem sc_is_names : FnScope N_is_names ["thing"] (defScope s_is_names) := ⟨rfl, rfl, rfl, by decide +kernel, rfl, by decide +kernel, by decide +kernel⟩
theorem ok_is_names (T : Tx K mg) : OkF P w K mg base "is_names" 2 ["thing"] [] sp_is_names := by
  have O_is_name : OkF P w K mg base "is_name" 1 ["thing"] [] sp_is_name := ok_is_name T
  refine okF_mk d_is_names T (fn_mem 6 rfl) rfl rfl sc_is_names (fun _ _ _ _ _ _ us hl => match us, hl with | [_], _ => rfl) (fun vs H Q E h => ?_) (fun f cdv A outer s H vs Q E hr h => ?_)
  · first | (obtain ⟨_, rfl, _⟩ := h; rfl) | (obtain ⟨_, _, rfl, _⟩ := h; rfl) | (obtain ⟨_, _, _, rfl, _⟩ := h; rfl) | (obtain ⟨_, _, _, _, rfl, _⟩ := h; rfl) | (obtain ⟨_, _, _, _, _, rfl, _⟩ := h; rfl) | (obtain ⟨_, _, _, _, _, _, rfl, _⟩ := h; rfl) | (obtain ⟨_, _, _, _, _, _, _, rfl, _⟩ := h; rfl)
  · have hu := hu_of hr
    have hu65 := hu65_of hr
    refine ⟨_, (pss_cons (ps_if (PW.pt (pw_or (pt_not (pt_val (pe_callB call_isG (by rfl) T.m_isinstance b_isinstance (pa_cons (pv 0) (pa_cons (pe_bltn (v := .ty "tuple") (by rfl) T.m_tuple b_tuple rfl) pa_nil))))) (pw_or1 (pt_not (pt_val (pe_callB (cr_allN rfl) (by rfl) T.m_all b_all (pa_cons (pe_lc (own := [("one", 1)]) (g := (gName 1)) (tt := tYes) rfl sc_is_names.nd (pi_tupN (pv 0)) (blkOk_by (N := N_is_names) (sc := (defScope s_is_names)) (own := [("one", 1)]) (by decide +kernel)) (fun _ _ _ _ _ => (pg_name (i := 1) sc_is_names.nd rfl (by first | exact Or.inl rfl | exact Or.inr rfl))) (fun _ _ _ _ _ => pts_nil) (fun _ _ _ _ _ => (pe_callO O_is_name hr (pa_cons (pv 1) pa_nil)))) pa_nil)))))))
        (pss_one (ps_ret pe_bl)) pss_nil)
      (pss_one (ps_ret (pe_callB (cr_allN rfl) (by rfl) T.m_all b_all (pa_cons (pe_lc (own := [("one", 1), ("other", 2)]) (g := (gTupN 2 (gCons (gName 1) (gCons (gName 2) gNil)))) (tt := tYes) rfl sc_is_names.nd (pi_zipN (by rfl) T.m_zip (pa_cons (pv 0) (pa_cons (pe_slice sl_tupN (pv 0) (po_some pe_int) po_none) pa_nil))) (blkOk_by (N := N_is_names) (sc := (defScope s_is_names)) (own := [("one", 1), ("other", 2)]) (by decide +kernel)) (fun _ _ _ _ _ => (pg_tupN rfl (pgs_cons (pg_name (i := 1) sc_is_names.nd rfl (by first | exact Or.inl rfl | exact Or.inr rfl)) (pgs_cons (pg_name (i := 2) sc_is_names.nd rfl (by first | exact Or.inl rfl | exact Or.inr rfl)) pgs_nil)))) (fun _ _ _ _ _ => pts_nil) (fun _ _ _ _ _ => (pe_cmpR op_lt_str (pv 1) (pv 2) (by first | exact nomark _ | rfl)))) pa_nil))))), ?_⟩
    obtain ⟨a, ns, rfl, ha, hl, hn, hp, q⟩ := h
    refine ⟨_, rfl, .inr (.inr (.inr ⟨_, _, rfl, ha, true, rfl, ?_⟩))⟩
    refine iteF (A := _) ?_
    refine ⟨_, rfl, a, rfl, ⟨_, ha⟩, fun _ => lcTupY ha (by rw [List.length_map]; exact small1000 hl) (fun i acc _ => acc = List.replicate i (.bl true)) (fun _ _ _ _ _ h => h) rfl (fun Ky i x acc H1 hx s1 g ky => ?_) (fun D acc H1 hD s1 hA _ g => ?_)⟩
    · obtain ⟨z, hz, rfl⟩ : ∃ z, z ∈ ns ∧ V.str z = x := List.mem_map.mp (List.mem_of_getElem? hx)
      refine ⟨rfl, _, rfl, z, rfl, hn z hz, fun H2 s2 => ?_⟩
      refine ky _ _ s2 ?_
      subst g
      exact rep_snoc i
    · subst g
      rw [rep_bl] at hA
      refine ⟨D, _, rfl, hA, _, rfl, ?_⟩
      rw [rep_all]
      refine iteF (A := _) ?_
      have ha1 := s1 _ _ ha
      refine ⟨_, rfl, _, rfl, 1, rfl, _, _, rfl, ha1, fun p H2 s2 hp2 => ?_⟩
      rw [cut1, ← List.map_drop] at hp2
      refine ⟨a, p, _, _, rfl, .inr ⟨s2 _ _ ha1, hp2, fun _ => lcZipT (s2 _ _ ha1) hp2 (by rw [List.length_map, List.length_drop]; exact small1000 (by omega)) (by rw [List.length_map, List.length_map, List.length_drop]; omega) (fun i acc _ => acc = List.replicate i (.bl true)) (fun _ _ _ _ _ h => h) rfl (fun Ky i x y T acc H3 hx hy hT s3 g ky => ?_) (fun D2 acc H3 hD3 s3 hA3 _ g => ?_)⟩⟩
      · rw [List.getElem?_map] at hx hy
        obtain ⟨x1, hx1, rfl⟩ := Option.map_eq_some_iff.mp hx
        obtain ⟨y1, hy1, rfl⟩ := Option.map_eq_some_iff.mp hy
        refine ⟨T, _, rfl, hT, rfl, _, _, rfl, _, _, rfl, rfl, rfl, _, rfl, _, rfl, x1, y1, rfl, rfl, ?_⟩
        have e : decide (x1.cps.toList < y1.cps.toList) = true := decide_eq_true (pairwise_next (R := ltS) hp hx1 hy1)
        rw [e]
        refine ky _ _ (Same.refl _) ?_
        subst g
        exact rep_snoc i
      · subst g
        rw [rep_bl] at hA3
        refine ⟨D2, _, rfl, hA3, ?_⟩
        rw [rep_all]
        exact q _ (s1.trans (s2.trans s3))
def sp_is_counted : Sp := fun vs H Q _ => ∃ (t : Addr) (n : Str) (c : Int), vs = [.ref t] ∧ H t = some (.tup [.str n, .int c]) ∧ NameOk n ∧ 1 ≤ c ∧ ∀ H', Same H H' → Q (.bl true) H'
/-! ### is_counted: 0 thing -/
abbrev N_is_counted : List Str := ["thing"]
theorem sc_is_counted : FnScope N_is_counted ["thing"] (defScope s_is_counted) := ⟨rfl, rfl, rfl, by decide +kernel, rfl, by decide +kernel, by decide +kernel⟩
theorem ok_is_counted (T : Tx K mg) : OkF P w K mg base "is_counted" 3 ["thing"] [] sp_is_counted := by
  have O_is_tuple_of : OkF P w K mg base "is_tuple_of" 1 ["thing", "many"] [] sp_is_tuple_of := ok_is_tuple_of T
  have O_is_name : OkF P w K mg base "is_name" 1 ["thing"] [] sp_is_name := ok_is_name T
  have O_is_count : OkF P w K mg base "is_count" 2 ["thing"] [] sp_is_count := ok_is_count T
  refine okF_mk d_is_counted T (fn_mem 7 rfl) rfl rfl sc_is_counted (fun _ _ _ _ _ _ us hl => match us, hl with | [_], _ => rfl) (fun vs H Q E h => ?_) (fun f cdv A outer s H vs Q E hr h => ?_)
  · first | (obtain ⟨_, rfl, _⟩ := h; rfl) | (obtain ⟨_, _, rfl, _⟩ := h; rfl) | (obtain ⟨_, _, _, rfl, _⟩ := h; rfl) | (obtain ⟨_, _, _, _, rfl, _⟩ := h; rfl) | (obtain ⟨_, _, _, _, _, rfl, _⟩ := h; rfl) | (obtain ⟨_, _, _, _, _, _, rfl, _⟩ := h; rfl) | (obtain ⟨_, _, _, _, _, _, _, rfl, _⟩ := h; rfl)
  · have hu := hu_of hr
    have hu65 := hu65_of hr
    refine ⟨_, (pss_one (ps_ret (pe_and (pe_callO O_is_tuple_of hr (pa_cons (pv 0) (pa_cons pe_int pa_nil))) (pe_and (pe_callO O_is_name hr (pa_cons (pe_ix ix_tupN (pv 0) pe_int (fun _ _ => rfl)) pa_nil)) (pe_one (pe_callO O_is_count hr (pa_cons (pe_ix ix_tupN (pv 0) pe_int (fun _ _ => rfl)) pa_nil))))))), ?_⟩
    obtain ⟨t, n, c, rfl, ht, hn, hc, q⟩ := h
    refine ⟨_, rfl, t, _, 2, rfl, ht, ?_⟩
    refine ⟨true, rfl, iteT ?_⟩
    refine ⟨_, rfl, t, _, _, _, rfl, rfl, ht, atI_nat (j := 0) rfl, n, rfl, hn, fun H1 s1 => ?_⟩
    refine ⟨true, rfl, iteT ?_⟩
    refine ⟨_, rfl, t, _, _, _, rfl, rfl, s1 _ _ ht, atI_nat (j := 1) rfl, c, rfl, ?_⟩
    rw [decide_eq_true hc]
    exact q H1 s1
def arts (S : Shop) : List Str := S.parts.map (·.1) ++ S.packs.map (·.name)
theorem pk_names {H : Hp} {ys : List V} {ps : List (Pk Str)} (h : Paired (IsPk H) ys ps) : Paired (HasName H) ys (ps.map (·.name)) := pmap (fun p : Pk Str => p.name) (fun _ _ z => z.name) h
theorem pt_names {H : Hp} {ys : List V} {ps : List (Str × Int)} (h : Paired (IsP H) ys ps) : Paired (HasName H) ys (ps.map (·.1)) := pmap (fun p : Str × Int => p.1) (fun _ _ z => z.name) h
def sp_is_article : Sp := fun vs H Q _ => ∃ (t : Addr) (z : Str) (S : Shop), vs = [.ref t, .str z] ∧ ShopAt H t S ∧ S.parts.length ≤ 1000 ∧ S.packs.length ≤ 1000 ∧ z ∈ arts S ∧ ∀ H', Same H H' → Q (.bl true) H'
/-! ### is_article: 0 shop, 1 thing -/
abbrev N_is_article : List Str := ["shop", "thing"]
theorem sc_is_article : FnScope N_is_article ["shop", "thing"] (defScope s_is_article) := ⟨rfl, rfl, rfl, by decide +kernel, rfl, by decide +kernel, by decide +kernel⟩
theorem ok_is_article (T : Tx K mg) : OkF P w K mg base "is_article" 2 ["shop", "thing"] [] sp_is_article := by
  have O_is_among : OkF P w K mg base "is_among" 1 ["thing", "names"] [] sp_is_among := ok_is_among T
  have O_first_names : OkF P w K mg base "first_names" 1 ["things"] [] sp_first_names := ok_first_names T
  refine okF_mk d_is_article T (fn_mem 9 rfl) rfl rfl sc_is_article (fun _ _ _ _ _ _ us hl => match us, hl with | [_, _], _ => rfl) (fun vs H Q E h => ?_) (fun f cdv A outer s H vs Q E hr h => ?_)
  · first | (obtain ⟨_, rfl, _⟩ := h; rfl) | (obtain ⟨_, _, rfl, _⟩ := h; rfl) | (obtain ⟨_, _, _, rfl, _⟩ := h; rfl) | (obtain ⟨_, _, _, _, rfl, _⟩ := h; rfl) | (obtain ⟨_, _, _, _, _, rfl, _⟩ := h; rfl) | (obtain ⟨_, _, _, _, _, _, rfl, _⟩ := h; rfl) | (obtain ⟨_, _, _, _, _, _, _, rfl, _⟩ := h; rfl)
  · have hu := hu_of hr
    have hu65 := hu65_of hr
    refine ⟨_, (pss_one (ps_ret (pe_or (pe_callO O_is_among hr (pa_cons (pv 1) (pa_cons (pe_callO O_first_names hr (pa_cons (pe_ix ix_tupN (pv 0) pe_int (fun _ _ => rfl)) pa_nil)) pa_nil))) (pe_one (pe_callO O_is_among hr (pa_cons (pv 1) (pa_cons (pe_callO O_first_names hr (pa_cons (pe_ix ix_tupN (pv 0) pe_int (fun _ _ => rfl)) pa_nil)) pa_nil))))))), ?_⟩
    obtain ⟨t, z, S, rfl, hS, l1, l2, hz, q⟩ := h
    obtain ⟨a, b, c, xs, ys, h1, h2, h3, h4, h5, h6⟩ := hS.ex
    refine ⟨_, rfl, _, rfl, t, _, _, _, rfl, rfl, h1, atI_nat (j := 0) rfl, a, xs, _, rfl, h2, pt_names h3, by rw [plen h3]; exact small1000 l1, fun p H1 n1 => ?_⟩
    refine ⟨z, p, _, rfl, n1.at_, ?_⟩
    by_cases hp : z ∈ S.parts.map (·.1)
    · rw [decide_eq_true hp]
      exact ⟨true, rfl, iteT (q _ n1.same)⟩
    · rw [decide_eq_false hp]
      refine ⟨false, rfl, iteF ?_⟩
      have s1 := n1.same
      refine ⟨_, rfl, _, rfl, t, _, _, _, rfl, rfl, s1 _ _ h1, atI_nat (j := 2) rfl, c, ys, _, rfl, s1 _ _ h5, pk_names (pimp (fun _ _ => IsPk.tk (tk_of s1)) h6), by rw [plen h6]; exact small1000 l2, fun p2 H2 n2 => ?_⟩
      refine ⟨z, p2, _, rfl, n2.at_, ?_⟩
      rw [decide_eq_true ((List.mem_append.mp hz).resolve_left hp)]
      exact q _ (s1.trans n2.same)
/-- a row of a shop -/
structure RowOk (S : Shop) (l : List (Str × Int)) : Prop where
  each : ∀ p ∈ l, NameOk p.1 ∧ p.1 ∈ arts S ∧ 1 ≤ p.2
  up : (l.map (·.1)).Pairwise ltS
  few : l.length ≤ 1000
  small : ∀ p ∈ l, p.2 < 2 ^ 62
structure ShopFew (S : Shop) : Prop where
  parts : S.parts.length ≤ 1000
  packs : S.packs.length ≤ 1000
def sp_is_row : Sp := fun vs H Q _ => ∃ (t a : Addr) (S : Shop) (l : List (Str × Int)), vs = [.ref t, .ref a] ∧ ShopAt H t S ∧ ShopFew S ∧ RowAt H a l ∧ RowOk S l ∧ ∀ H', Same H H' → Q (.bl true) H'
/-! ### is_row: 0 shop, 1 thing, 2 one -/
abbrev N_is_row : List Str := ["shop", "thing", "one"]
theorem sc_is_row : FnScope N_is_row ["shop", "thing"] (defScope s_is_row) := ⟨rfl, rfl, rfl, by decide +kernel, rfl, by decide +kernel, by decide +kernel⟩
theorem ok_is_row (T : Tx K mg) : OkF P w K mg base "is_row" 4 ["shop", "thing"] [] sp_is_row := by
  have O_is_names : OkF P w K mg base "is_names" 2 ["thing"] [] sp_is_names := ok_is_names T
  have O_first_names : OkF P w K mg base "first_names" 1 ["things"] [] sp_first_names := ok_first_names T
  have O_is_counted : OkF P w K mg base "is_counted" 3 ["thing"] [] sp_is_counted := ok_is_counted T
  have O_is_article : OkF P w K mg base "is_article" 2 ["shop", "thing"] [] sp_is_article := ok_is_article T
  refine okF_mk d_is_row T (fn_mem 10 rfl) rfl rfl sc_is_row (fun _ _ _ _ _ _ us hl => match us, hl with | [_, _], _ => rfl) (fun vs H Q E h => ?_) (fun f cdv A outer s H vs Q E hr h => ?_)
  · first | (obtain ⟨_, rfl, _⟩ := h; rfl) | (obtain ⟨_, _, rfl, _⟩ := h; rfl) | (obtain ⟨_, _, _, rfl, _⟩ := h; rfl) | (obtain ⟨_, _, _, _, rfl, _⟩ := h; rfl) | (obtain ⟨_, _, _, _, _, rfl, _⟩ := h; rfl) | (obtain ⟨_, _, _, _, _, _, rfl, _⟩ := h; rfl) | (obtain ⟨_, _, _, _, _, _, _, rfl, _⟩ := h; rfl)
  · have hu := hu_of hr
    have hu65 := hu65_of hr
    refine ⟨_, (pss_cons (ps_if (PW.pt (pw_or (pt_not (pt_val (pe_callB call_isG (by rfl) T.m_isinstance b_isinstance (pa_cons (pv 1) (pa_cons (pe_bltn (v := .ty "tuple") (by rfl) T.m_tuple b_tuple rfl) pa_nil))))) (pw_or1 (pt_not (pt_val (pe_callB (cr_allN rfl) (by rfl) T.m_all b_all (pa_cons (pe_lc (own := [("one", 2)]) (g := (gName 2)) (tt := tYes) rfl sc_is_row.nd (pi_tupN (pv 1)) (blkOk_by (N := N_is_row) (sc := (defScope s_is_row)) (own := [("one", 2)]) (by decide +kernel)) (fun _ _ _ _ _ => (pg_name (i := 2) sc_is_row.nd rfl (by first | exact Or.inl rfl | exact Or.inr rfl))) (fun _ _ _ _ _ => pts_nil) (fun _ _ _ _ _ => (pe_and (pe_callO O_is_counted hr (pa_cons (pv 2) pa_nil)) (pe_one (pe_callO O_is_article hr (pa_cons (pv 0) (pa_cons (pe_ix ix_tupN (pv 2) pe_int (fun _ _ => rfl)) pa_nil))))))) pa_nil)))))))
        (pss_one (ps_ret pe_bl)) pss_nil)
      (pss_one (ps_ret (pe_callO O_is_names hr (pa_cons (pe_callTy call_tuple_ofN (by rfl) T.m_tuple b_tuple (pa_cons (pe_callO O_first_names hr (pa_cons (pv 1) pa_nil)) pa_nil)) pa_nil))))), ?_⟩
    obtain ⟨t, a, S, l, rfl, hS, hf, hR, hl, q⟩ := h
    obtain ⟨xs, ha, hx⟩ := hR
    have hlen := plen hx
    have hlen2 := hl.few
    refine ⟨_, rfl, .inr (.inr (.inr ⟨_, _, rfl, ha, true, rfl, ?_⟩))⟩
    refine iteF (A := _) ?_
    refine ⟨_, rfl, a, rfl, ⟨_, ha⟩, fun _ => lcTupY ha (small1000 (by omega)) (fun i acc _ => acc = List.replicate i (.bl true)) (fun _ _ _ _ _ h => h) rfl (fun Ky i x acc H1 hx1 s1 g ky => ?_) (fun D acc H1 hD s1 hA _ g => ?_)⟩
    · obtain ⟨p, hp, t2, rfl, ht2⟩ := pget hx hx1
      obtain ⟨o1, o2, o3⟩ := hl.each p (List.mem_of_getElem? hp)
      refine ⟨rfl, _, rfl, t2, p.1, p.2, rfl, s1 _ _ ht2, o1, o3, fun H2 s2 => ?_⟩
      refine ⟨true, rfl, iteT ?_⟩
      have s12 := s1.trans s2
      refine ⟨_, rfl, _, rfl, t2, _, _, _, rfl, rfl, s12 _ _ ht2, atI_nat (j := 0) rfl, t, p.1, S, rfl, hS.tk (tk_of s12), hf.parts, hf.packs, o2, fun H3 s3 => ?_⟩
      refine ky _ _ (s2.trans s3) ?_
      subst g
      exact rep_snoc i
    · subst g
      rw [rep_bl] at hA
      refine ⟨D, _, rfl, hA, _, rfl, ?_⟩
      rw [rep_all]
      refine iteF (A := _) ?_
      refine ⟨_, rfl, a, xs, l.map (·.1), rfl, s1 _ _ ha, pt_names (pimp (fun _ _ => IsP.tk (tk_of s1)) hx), small1000 (by omega), fun p2 H2 n2 => ?_⟩
      refine ⟨p2, _, rfl, n2.at_, fun p3 H3 n3 => ?_⟩
      refine ⟨p3, l.map (·.1), rfl, n3.at_, by rw [List.length_map]; omega, fun z hz => ?_, hl.up, fun H4 s4 => q _ (s1.trans (n2.same.trans (n3.same.trans s4)))⟩
      obtain ⟨p, hp, rfl⟩ := List.mem_map.mp hz
      exact (hl.each p hp).1
end K57
namespace K57
open PySem PySem.Spec PyProof.Rows L2
variable {P : Program} {w : World} {K : PySem.W.Frag} {mg : Str → Option Value} {base : Heap}
theorem Dt.sm {H H' : Hp} (s : Same H H') : ∀ {v : V} {d : PyData}, Dt H v d → Dt H' v d := by
  intro v d h
  refine Dt.rec (motive_1 := fun v d _ => Dt H' v d) (motive_2 := fun vs ds _ => Paired (Dt H') vs ds) ?_ ?_ ?_ ?_ ?_ ?_ ?_ ?_ h
  · exact .non
  · exact fun b => .bl b
  · exact fun i => .int i
  · exact fun x => .str x
  · exact fun h _ ih => .lst (s _ _ h) ih
  · exact fun h _ ih => .tup (s _ _ h) ih
  · exact .nil
  · exact fun _ _ h1 h2 => .cons h1 h2
def sp_is_rising : Sp := fun vs H Q _ => ∃ (a : Addr) (xs : List V) (ds : List PyData), vs = [.ref a] ∧ H a = some (.lst xs) ∧ Paired (Dt H) xs ds ∧ ds.length ≤ 1000 ∧ (∀ d ∈ ds, d ≠ .none ∧ d.depth ≤ 20 ∧ ∀ e ∈ ds, PySem.W.alike d e = true) ∧
  ds.Pairwise (fun d e => PySem.W.dataLt d e = true) ∧ ∀ H', Same H H' → Q (.bl true) H'
/-! ### is_rising: 0 keys, 1 one, 2 late -/
abbrev N_is_rising : List Str := ["keys", "one", "late"]
theorem sc_is_rising : FnScope N_is_rising ["keys"] (defScope s_is_rising) := ⟨rfl, rfl, rfl, by decide +kernel, rfl, by decide +kernel, by decide +kernel⟩
theorem ok_is_rising (T : Tx K mg) : OkF P w K mg base "is_rising" 1 ["keys"] [] sp_is_rising := by
  refine okF_mk d_is_rising T (fn_mem 20 rfl) rfl rfl sc_is_rising (fun _ _ _ _ _ _ us hl => match us, hl with | [_], _ => rfl) (fun vs H Q E h => ?_) (fun f cdv A outer s H vs Q E hr h => ?_)
  · first | (obtain ⟨_, rfl, _⟩ := h; rfl) | (obtain ⟨_, _, rfl, _⟩ := h; rfl) | (obtain ⟨_, _, _, rfl, _⟩ := h; rfl) | (obtain ⟨_, _, _, _, rfl, _⟩ := h; rfl) | (obtain ⟨_, _, _, _, _, rfl, _⟩ := h; rfl) | (obtain ⟨_, _, _, _, _, _, rfl, _⟩ := h; rfl) | (obtain ⟨_, _, _, _, _, _, _, rfl, _⟩ := h; rfl)
  · have hu := hu_of hr
    have hu65 := hu65_of hr
    refine ⟨_, (pss_one (ps_ret (pe_callB (cr_allN rfl) (by rfl) T.m_all b_all (pa_cons (pe_lc (own := [("one", 1), ("late", 2)]) (g := (gTupN 2 (gCons (gName 1) (gCons (gName 2) gNil)))) (tt := tYes) rfl sc_is_rising.nd (pi_zipN (by rfl) T.m_zip (pa_cons (pv 0) (pa_cons (pe_slice sl_listN (pv 0) (po_some pe_int) po_none) pa_nil))) (blkOk_by (N := N_is_rising) (sc := (defScope s_is_rising)) (own := [("one", 1), ("late", 2)]) (by decide +kernel)) (fun _ _ _ _ _ => (pg_tupN rfl (pgs_cons (pg_name (i := 1) sc_is_rising.nd rfl (by first | exact Or.inl rfl | exact Or.inr rfl)) (pgs_cons (pg_name (i := 2) sc_is_rising.nd rfl (by first | exact Or.inl rfl | exact Or.inr rfl)) pgs_nil)))) (fun _ _ _ _ _ => pts_nil) (fun _ _ _ _ _ => (pe_cmpR (op_ltN hu65) (pv 1) (pv 2) (by first | exact nomark _ | rfl)))) pa_nil)))), ?_⟩
    obtain ⟨a, xs, ds, rfl, ha, hd, hl, hk, hp, q⟩ := h
    have hlen := plen hd
    refine ⟨_, rfl, _, rfl, 1, rfl, _, _, rfl, ha, fun p H2 n2 => ?_⟩
    have hp2 := n2.at_
    have s2 := n2.same
    rw [cut1] at hp2
    refine ⟨a, p, _, _, rfl, .inl ⟨s2 _ _ ha, hp2, fun _ => lcZipL (s2 _ _ ha) hp2 (by rw [List.length_drop]; exact small1000 (by omega)) (by rw [List.length_drop]; omega) (fun i acc _ => acc = List.replicate i (.bl true)) (fun _ _ _ _ _ h => h) rfl (fun Ky i x y T acc H3 hx hy hT s3 g ky => ?_) (fun D2 acc H3 hD3 s3 hA3 _ g => ?_)⟩⟩
    · obtain ⟨d, hd1, r1⟩ := pget hd hx
      rw [List.getElem?_drop] at hy
      obtain ⟨e, he1, r2⟩ := pget hd hy
      have md := List.mem_of_getElem? hd1
      have me := List.mem_of_getElem? he1
      have s4 := s2.trans s3
      refine ⟨T, _, rfl, hT, rfl, _, _, rfl, _, _, rfl, rfl, rfl, _, rfl, _, rfl, d, e, r1.sm s4, r2.sm s4, (hk d md).2.2 e me, (hk d md).1, (hk d md).2.1, ?_⟩
      rw [pairwise_next (R := fun d e => PySem.W.dataLt d e = true) hp hd1 (by rw [List.getElem?_drop]; exact he1)]
      refine ky _ _ (Same.refl _) ?_
      subst g
      exact rep_snoc i
    · subst g
      rw [rep_bl] at hA3
      refine ⟨D2, _, rfl, hA3, ?_⟩
      rw [rep_all]
      exact q _ (s2.trans s3)
def sp_want : Sp := fun vs H Q _ => ∃ (z : Str) (i : Int), vs = [.bl true, .str z, .int i] ∧ Q .non H
abbrev N_want : List Str := ["is_right", "word", "at"]
theorem sc_want : FnScope N_want ["is_right", "word", "at"] (defScope s_want) := ⟨rfl, rfl, rfl, by decide +kernel, rfl, by decide +kernel, by decide +kernel⟩
theorem ok_want (T : Tx K mg) : OkF P w K mg base "want" 1 ["is_right", "word", "at"] [.int (-1)] sp_want := by
  obtain ⟨f, fd, F, hm⟩ := T.defs d_want (fn_mem 19 rfl)
  obtain ⟨ds, rv, hb⟩ := FunD.binds1 (ps := ["is_right", "word", "at"]) F 2 0 (by intro z; cases z) rfl (fun T kV doc pm an cdv ct us its h1 h2 => match us, its, h1, h2 with | [_, _], [_], _, _ => ⟨_, rfl, rfl⟩)
  refine ⟨f, fd, ds, F.ok sc_want (fun vs H Q E h => ?_) fun cdv A outer s H vs Q E hr h => ⟨_, PSs.nox (pss_one (ps_if (pt_not (pt_val (pv 0))) (pss_one ps_never) pss_nil)), ?_⟩, hm, F.kp, hb, rv⟩
  · obtain ⟨_, _, rfl, _⟩ := h; rfl
  · obtain ⟨z, i, rfl, q⟩ := h
    refine ⟨_, rfl, true, rfl, ?_⟩
    exact iteF (A := _) q
def IsOrd (H : Hp) (v : V) (o : Int × List (Str × Int)) : Prop := ∃ t r, v = .ref t ∧ H t = some (.tup [.int o.1, .ref r]) ∧ RowAt H r o.2
def OrdersAt (H : Hp) (a : Addr) (os : List (Int × List (Str × Int))) : Prop := ∃ xs, H a = some (.tup xs) ∧ Paired (IsOrd H) xs os
theorem IsOrd.tk {H H' : Hp} {v : V} {o : Int × List (Str × Int)} (k : Tk H H') (h : IsOrd H v o) : IsOrd H' v o := let ⟨t, r, e, h, hr⟩ := h; ⟨t, r, e, k _ _ h, hr.tk k⟩
theorem OrdersAt.tk {H H' : Hp} {a : Addr} {os : List (Int × List (Str × Int))} (k : Tk H H') (h : OrdersAt H a os) : OrdersAt H' a os := let ⟨xs, h, p⟩ := h; ⟨xs, k _ _ h, pimp (fun _ _ => IsOrd.tk k) p⟩
structure OrdersOk (S : Shop) (os : List (Int × List (Str × Int))) : Prop where
  each : ∀ o ∈ os, 0 ≤ o.1 ∧ RowOk S o.2
  up : os.Pairwise (fun a b => a.1 < b.1)
  few : os.length ≤ 1000
def sp_is_order : Sp := fun vs H Q _ => ∃ (t a : Addr) (S : Shop) (o : Int × List (Str × Int)), vs = [.ref t, .ref a] ∧ ShopAt H t S ∧ ShopFew S ∧ IsOrd H (.ref a) o ∧ 0 ≤ o.1 ∧ RowOk S o.2 ∧ ∀ H', Same H H' → Q (.bl true) H'
/-! ### is_order: 0 shop, 1 thing -/
abbrev N_is_order : List Str := ["shop", "thing"]
theorem sc_is_order : FnScope N_is_order ["shop", "thing"] (defScope s_is_order) := ⟨rfl, rfl, rfl, by decide +kernel, rfl, by decide +kernel, by decide +kernel⟩
theorem ok_is_order (T : Tx K mg) : OkF P w K mg base "is_order" 5 ["shop", "thing"] [] sp_is_order := by
  have O_is_tuple_of : OkF P w K mg base "is_tuple_of" 1 ["thing", "many"] [] sp_is_tuple_of := ok_is_tuple_of T
  have O_is_number : OkF P w K mg base "is_number" 2 ["thing"] [] sp_is_number := ok_is_number T
  have O_is_row : OkF P w K mg base "is_row" 4 ["shop", "thing"] [] sp_is_row := ok_is_row T
  refine okF_mk d_is_order T (fn_mem 21 rfl) rfl rfl sc_is_order (fun _ _ _ _ _ _ us hl => match us, hl with | [_, _], _ => rfl) (fun vs H Q E h => ?_) (fun f cdv A outer s H vs Q E hr h => ?_)
  · first | (obtain ⟨_, rfl, _⟩ := h; rfl) | (obtain ⟨_, _, rfl, _⟩ := h; rfl) | (obtain ⟨_, _, _, rfl, _⟩ := h; rfl) | (obtain ⟨_, _, _, _, rfl, _⟩ := h; rfl) | (obtain ⟨_, _, _, _, _, rfl, _⟩ := h; rfl) | (obtain ⟨_, _, _, _, _, _, rfl, _⟩ := h; rfl) | (obtain ⟨_, _, _, _, _, _, _, rfl, _⟩ := h; rfl)
  · have hu := hu_of hr
    have hu65 := hu65_of hr
    refine ⟨_, (pss_one (ps_ret (pe_and (pe_callO O_is_tuple_of hr (pa_cons (pv 1) (pa_cons pe_int pa_nil))) (pe_and (pe_callO O_is_number hr (pa_cons (pe_ix ix_tupN (pv 1) pe_int (fun _ _ => rfl)) pa_nil)) (pe_one (pe_callO O_is_row hr (pa_cons (pv 0) (pa_cons (pe_ix ix_tupN (pv 1) pe_int (fun _ _ => rfl)) pa_nil)))))))), ?_⟩
    obtain ⟨t, a, S, o, rfl, hS, hf, ⟨t2, r, e, ht, hr2⟩, h0, hR, q⟩ := h
    cases e
    refine ⟨_, rfl, a, _, 2, rfl, ht, true, rfl, iteT ?_⟩
    refine ⟨_, rfl, a, _, _, _, rfl, rfl, ht, atI_nat (j := 0) rfl, o.1, rfl, ?_⟩
    rw [decide_eq_true h0]
    refine ⟨true, rfl, iteT ?_⟩
    exact ⟨_, rfl, _, rfl, a, _, _, _, rfl, rfl, ht, atI_nat (j := 1) rfl, t, r, S, o.2, rfl, hS, hf, hr2, hR, q⟩
theorem alike_int (i j : Int) : PySem.W.alike (.int i) (.int j) = true := by simp only [PySem.W.alike]
theorem depth_int (i : Int) : (PyData.int i).depth ≤ 20 := by simp [PyData.depth]
theorem ints_dt {H : Hp} : ∀ ns : List Int, Paired (Dt H) (ns.map V.int) (ns.map PyData.int)
  | [] => .nil
  | n :: ns => .cons (.int n) (ints_dt ns)
def sp_are_orders : Sp := fun vs H Q _ => ∃ (t a : Addr) (S : Shop) (os : List (Int × List (Str × Int))), vs = [.ref t, .ref a] ∧ ShopAt H t S ∧ ShopFew S ∧ OrdersAt H a os ∧ OrdersOk S os ∧ ∀ H', Same H H' → Q (.bl true) H'
/-! ### are_orders: 0 shop, 1 thing, 2 one -/
abbrev N_are_orders : List Str := ["shop", "thing", "one"]
theorem sc_are_orders : FnScope N_are_orders ["shop", "thing"] (defScope s_are_orders) := ⟨rfl, rfl, rfl, by decide +kernel, rfl, by decide +kernel, by decide +kernel⟩
theorem ok_are_orders (T : Tx K mg) : OkF P w K mg base "are_orders" 6 ["shop", "thing"] [] sp_are_orders := by
  have O_is_rising : OkF P w K mg base "is_rising" 1 ["keys"] [] sp_is_rising := ok_is_rising T
  have O_is_order : OkF P w K mg base "is_order" 5 ["shop", "thing"] [] sp_is_order := ok_is_order T
  refine okF_mk d_are_orders T (fn_mem 22 rfl) rfl rfl sc_are_orders (fun _ _ _ _ _ _ us hl => match us, hl with | [_, _], _ => rfl) (fun vs H Q E h => ?_) (fun f cdv A outer s H vs Q E hr h => ?_)
  · first | (obtain ⟨_, rfl, _⟩ := h; rfl) | (obtain ⟨_, _, rfl, _⟩ := h; rfl) | (obtain ⟨_, _, _, rfl, _⟩ := h; rfl) | (obtain ⟨_, _, _, _, rfl, _⟩ := h; rfl) | (obtain ⟨_, _, _, _, _, rfl, _⟩ := h; rfl) | (obtain ⟨_, _, _, _, _, _, rfl, _⟩ := h; rfl) | (obtain ⟨_, _, _, _, _, _, _, rfl, _⟩ := h; rfl)
  · have hu := hu_of hr
    have hu65 := hu65_of hr
    refine ⟨_, (pss_cons (ps_if (PW.pt (pw_or (pt_not (pt_val (pe_callB call_isG (by rfl) T.m_isinstance b_isinstance (pa_cons (pv 1) (pa_cons (pe_bltn (v := .ty "tuple") (by rfl) T.m_tuple b_tuple rfl) pa_nil))))) (pw_or1 (pt_not (pt_val (pe_callB (cr_allN rfl) (by rfl) T.m_all b_all (pa_cons (pe_lc (own := [("one", 2)]) (g := (gName 2)) (tt := tYes) rfl sc_are_orders.nd (pi_tupN (pv 1)) (blkOk_by (N := N_are_orders) (sc := (defScope s_are_orders)) (own := [("one", 2)]) (by decide +kernel)) (fun _ _ _ _ _ => (pg_name (i := 2) sc_are_orders.nd rfl (by first | exact Or.inl rfl | exact Or.inr rfl))) (fun _ _ _ _ _ => pts_nil) (fun _ _ _ _ _ => (pe_callO O_is_order hr (pa_cons (pv 0) (pa_cons (pv 2) pa_nil))))) pa_nil)))))))
        (pss_one (ps_ret pe_bl)) pss_nil)
      (pss_one (ps_ret (pe_callO O_is_rising hr (pa_cons (pe_lc (own := [("one", 2)]) (g := (gName 2)) (tt := tYes) rfl sc_are_orders.nd (pi_tupN (pv 1)) (blkOk_by (N := N_are_orders) (sc := (defScope s_are_orders)) (own := [("one", 2)]) (by decide +kernel)) (fun _ _ _ _ _ => (pg_name (i := 2) sc_are_orders.nd rfl (by first | exact Or.inl rfl | exact Or.inr rfl))) (fun _ _ _ _ _ => pts_nil) (fun _ _ _ _ _ => (pe_ix ix_tupN (pv 2) pe_int (fun _ _ => rfl)))) pa_nil))))), ?_⟩
    obtain ⟨t, a, S, os, rfl, hS, hf, ⟨xs, ha, hx⟩, ho, q⟩ := h
    have hlen := plen hx
    have hlen2 := ho.few
    refine ⟨_, rfl, .inr (.inr (.inr ⟨_, _, rfl, ha, true, rfl, ?_⟩))⟩
    refine iteF (A := _) ?_
    refine ⟨_, rfl, a, rfl, ⟨_, ha⟩, fun _ => lcTupY ha (small1000 (by omega)) (fun i acc _ => acc = List.replicate i (.bl true)) (fun _ _ _ _ _ h => h) rfl (fun Ky i x acc H1 hx1 s1 g ky => ?_) (fun D acc H1 hD s1 hA _ g => ?_)⟩
    · obtain ⟨o, hp, io⟩ := pget hx hx1
      have m := List.mem_of_getElem? hp
      obtain ⟨t2, r, rfl, io'⟩ := id io
      refine ⟨rfl, _, rfl, _, rfl, t, t2, S, o, rfl, hS.tk (tk_of s1), hf, io.tk (tk_of s1), (ho.each o m).1, (ho.each o m).2, fun H2 s2 => ?_⟩
      refine ky _ _ s2 ?_
      subst g
      exact rep_snoc i
    · subst g
      rw [rep_bl] at hA
      refine ⟨D, _, rfl, hA, _, rfl, ?_⟩
      rw [rep_all]
      refine iteF (A := _) ?_
      have ha1 := s1 _ _ ha
      refine ⟨_, rfl, a, rfl, ⟨_, ha1⟩, fun _ => lcTupY ha1 (small1000 (by omega)) (fun i acc _ => acc = ((os.map (·.1)).take i).map V.int) (fun _ _ _ _ _ h => h) rfl (fun Ky i x acc H2 hx1 s2 g ky => ?_) (fun D2 acc H2 hD2 s2 hA2 _ g => ?_)⟩
      · obtain ⟨o, hp, t2, r, rfl, ht, _⟩ := pget hx hx1
        have e : (os.map (·.1))[i]? = some o.1 := by rw [List.getElem?_map, hp]; rfl
        refine ⟨rfl, _, rfl, t2, _, _, _, rfl, rfl, s2 _ _ (s1 _ _ ht), atI_nat (j := 0) rfl, ?_⟩
        refine ky _ _ (Same.refl _) ?_
        subst g
        rw [take_next e, List.map_append]; rfl
      · have e : (os.map (·.1)).take xs.length = os.map (·.1) := List.take_of_length_le (by rw [List.length_map]; omega)
        rw [e] at g
        subst g
        refine ⟨D2, _, (os.map (·.1)).map PyData.int, rfl, hA2, ints_dt _, by rw [List.length_map, List.length_map]; omega, fun d hd => ?_, ?_, fun H3 s3 => q _ (s1.trans (s2.trans s3))⟩
        · obtain ⟨i, _, rfl⟩ := List.mem_map.mp hd
          refine ⟨fun z => (by cases z), depth_int i, fun e he => ?_⟩
          obtain ⟨j, _, rfl⟩ := List.mem_map.mp he
          exact alike_int i j
        · rw [List.pairwise_map, List.pairwise_map]
          refine ho.up.imp fun {x y} h => ?_
          rw [PySem.W.dataLt_int]
          exact decide_eq_true h
def IsLd (H : Hp) (v : V) (l : Int × Str × Int) : Prop := ∃ t, v = .ref t ∧ H t = some (.tup [.int l.1, .str l.2.1, .int l.2.2])
def LoadAt (H : Hp) (a : Addr) (ls : List (Int × Str × Int)) : Prop := ∃ xs, H a = some (.tup xs) ∧ Paired (IsLd H) xs ls
theorem IsLd.tk {H H' : Hp} {v : V} {l : Int × Str × Int} (k : Tk H H') (h : IsLd H v l) : IsLd H' v l := let ⟨t, e, h⟩ := h; ⟨t, e, k _ _ h⟩
theorem LoadAt.tk {H H' : Hp} {a : Addr} {ls : List (Int × Str × Int)} (k : Tk H H') (h : LoadAt H a ls) : LoadAt H' a ls := let ⟨xs, h, p⟩ := h; ⟨xs, k _ _ h, pimp (fun _ _ => IsLd.tk k) p⟩
def keyD (l : Int × Str × Int) : PyData := .tuple [.int l.1, .str l.2.1]
structure LoadOk (S : Shop) (ls : List (Int × Str × Int)) : Prop where
  each : ∀ l ∈ ls, 0 ≤ l.1 ∧ l.2.1 ∈ S.parts.map (·.1) ∧ 1 ≤ l.2.2
  up : ls.Pairwise (fun a b => PySem.W.dataLt (keyD a) (keyD b) = true)
  few : ls.length ≤ 1000
def sp_is_coming : Sp := fun vs H Q _ => ∃ (t a : Addr) (S : Shop) (l : Int × Str × Int), vs = [.ref t, .ref a] ∧ ShopAt H t S ∧ ShopFew S ∧ IsLd H (.ref a) l ∧ 0 ≤ l.1 ∧ l.2.1 ∈ S.parts.map (·.1) ∧ 1 ≤ l.2.2 ∧ ∀ H', Same H H' → Q (.bl true) H'
/-! ### is_coming: 0 shop, 1 thing -/
abbrev N_is_coming : List Str := ["shop", "thing"]
theorem sc_is_coming : FnScope N_is_coming ["shop", "thing"] (defScope s_is_coming) := ⟨rfl, rfl, rfl, by decide +kernel, rfl, by decide +kernel, by decide +kernel⟩
theorem ok_is_coming (T : Tx K mg) : OkF P w K mg base "is_coming" 3 ["shop", "thing"] [] sp_is_coming := by
  have O_is_among : OkF P w K mg base "is_among" 1 ["thing", "names"] [] sp_is_among := ok_is_among T
  have O_is_count : OkF P w K mg base "is_count" 2 ["thing"] [] sp_is_count := ok_is_count T
  have O_is_tuple_of : OkF P w K mg base "is_tuple_of" 1 ["thing", "many"] [] sp_is_tuple_of := ok_is_tuple_of T
  have O_is_number : OkF P w K mg base "is_number" 2 ["thing"] [] sp_is_number := ok_is_number T
  have O_first_names : OkF P w K mg base "first_names" 1 ["things"] [] sp_first_names := ok_first_names T
  refine okF_mk d_is_coming T (fn_mem 23 rfl) rfl rfl sc_is_coming (fun _ _ _ _ _ _ us hl => match us, hl with | [_, _], _ => rfl) (fun vs H Q E h => ?_) (fun f cdv A outer s H vs Q E hr h => ?_)
  · first | (obtain ⟨_, rfl, _⟩ := h; rfl) | (obtain ⟨_, _, rfl, _⟩ := h; rfl) | (obtain ⟨_, _, _, rfl, _⟩ := h; rfl) | (obtain ⟨_, _, _, _, rfl, _⟩ := h; rfl) | (obtain ⟨_, _, _, _, _, rfl, _⟩ := h; rfl) | (obtain ⟨_, _, _, _, _, _, rfl, _⟩ := h; rfl) | (obtain ⟨_, _, _, _, _, _, _, rfl, _⟩ := h; rfl)
  · have hu := hu_of hr
    have hu65 := hu65_of hr
    refine ⟨_, (pss_cons (ps_if (PW.pt (pw_or (pt_not (pt_val (pe_callO O_is_tuple_of hr (pa_cons (pv 1) (pa_cons pe_int pa_nil))))) (pw_or1 (pt_not (pt_val (pe_callO O_is_number hr (pa_cons (pe_ix ix_tupN (pv 1) pe_int (fun _ _ => rfl)) pa_nil)))))))
        (pss_one (ps_ret pe_bl)) pss_nil)
      (pss_one (ps_ret (pe_and (pe_callO O_is_among hr (pa_cons (pe_ix ix_tupN (pv 1) pe_int (fun _ _ => rfl)) (pa_cons (pe_callO O_first_names hr (pa_cons (pe_ix ix_tupN (pv 0) pe_int (fun _ _ => rfl)) pa_nil)) pa_nil))) (pe_one (pe_callO O_is_count hr (pa_cons (pe_ix ix_tupN (pv 1) pe_int (fun _ _ => rfl)) pa_nil))))))), ?_⟩
    obtain ⟨t, a, S, l, rfl, hS, hf, ⟨t2, e, ht⟩, h0, hp, h1, q⟩ := h
    cases e
    obtain ⟨pa, pb, pc, xs, ys, k1, k2, k3, k4, k5, k6⟩ := hS.ex
    refine ⟨_, rfl, a, _, 3, rfl, ht, true, rfl, ?_⟩
    refine iteF (A := _) ?_
    refine ⟨_, rfl, a, _, _, _, rfl, rfl, ht, atI_nat (j := 0) rfl, l.1, rfl, ?_⟩
    rw [decide_eq_true h0]
    refine ⟨true, rfl, iteF (A := _) ?_⟩
    refine ⟨_, rfl, a, _, _, _, rfl, rfl, ht, atI_nat (j := 1) rfl, _, rfl, t, _, _, _, rfl, rfl, k1, atI_nat (j := 0) rfl, pa, xs, _, rfl, k2, pt_names k3, by rw [plen k3]; exact small1000 hf.parts, fun p H1 n1 => ?_⟩
    refine ⟨l.2.1, p, _, rfl, n1.at_, ?_⟩
    rw [decide_eq_true hp]
    refine ⟨true, rfl, iteT ?_⟩
    refine ⟨_, rfl, a, _, _, _, rfl, rfl, n1.same _ _ ht, atI_nat (j := 2) rfl, l.2.2, rfl, ?_⟩
    rw [decide_eq_true h1]
    exact q _ n1.same
def IsKy (H : Hp) (v : V) (l : Int × Str × Int) : Prop := ∃ t, v = .ref t ∧ H t = some (.tup [.int l.1, .str l.2.1])
theorem IsKy.tk {H H' : Hp} {v : V} {l : Int × Str × Int} (k : Tk H H') (h : IsKy H v l) : IsKy H' v l := let ⟨t, e, h⟩ := h; ⟨t, e, k _ _ h⟩
theorem IsKy.dt {H : Hp} {v : V} {l : Int × Str × Int} (h : IsKy H v l) : Dt H v (keyD l) := by
  obtain ⟨t, rfl, h⟩ := h
  exact .tup h (.cons (.int _) (.cons (.str _) .nil))
theorem alike_key (a b : Int × Str × Int) : PySem.W.alike (keyD a) (keyD b) = true := by simp [keyD, PySem.W.alike, PySem.W.alikeAll]
theorem depth_key (a : Int × Str × Int) : (keyD a).depth ≤ 20 := by simp [keyD, PyData.depth, PyData.depthAll]
def sp_are_goods : Sp := fun vs H Q _ => ∃ (t a : Addr) (S : Shop) (ls : List (Int × Str × Int)), vs = [.ref t, .ref a] ∧ ShopAt H t S ∧ ShopFew S ∧ LoadAt H a ls ∧ LoadOk S ls ∧ ∀ H', Same H H' → Q (.bl true) H'
/-! ### are_goods: 0 shop, 1 thing, 2 one -/
abbrev N_are_goods : List Str := ["shop", "thing", "one"]
theorem sc_are_goods : FnScope N_are_goods ["shop", "thing"] (defScope s_are_goods) := ⟨rfl, rfl, rfl, by decide +kernel, rfl, by decide +kernel, by decide +kernel⟩
theorem ok_are_goods (T : Tx K mg) : OkF P w K mg base "are_goods" 4 ["shop", "thing"] [] sp_are_goods := by
  have O_is_rising : OkF P w K mg base "is_rising" 1 ["keys"] [] sp_is_rising := ok_is_rising T
  have O_is_coming : OkF P w K mg base "is_coming" 3 ["shop", "thing"] [] sp_is_coming := ok_is_coming T
  refine okF_mk d_are_goods T (fn_mem 24 rfl) rfl rfl sc_are_goods (fun _ _ _ _ _ _ us hl => match us, hl with | [_, _], _ => rfl) (fun vs H Q E h => ?_) (fun f cdv A outer s H vs Q E hr h => ?_)
  · first | (obtain ⟨_, rfl, _⟩ := h; rfl) | (obtain ⟨_, _, rfl, _⟩ := h; rfl) | (obtain ⟨_, _, _, rfl, _⟩ := h; rfl) | (obtain ⟨_, _, _, _, rfl, _⟩ := h; rfl) | (obtain ⟨_, _, _, _, _, rfl, _⟩ := h; rfl) | (obtain ⟨_, _, _, _, _, _, rfl, _⟩ := h; rfl) | (obtain ⟨_, _, _, _, _, _, _, rfl, _⟩ := h; rfl)
  · have hu := hu_of hr
    have hu65 := hu65_of hr
    refine ⟨_, (pss_cons (ps_if (PW.pt (pw_or (pt_not (pt_val (pe_callB call_isG (by rfl) T.m_isinstance b_isinstance (pa_cons (pv 1) (pa_cons (pe_bltn (v := .ty "tuple") (by rfl) T.m_tuple b_tuple rfl) pa_nil))))) (pw_or1 (pt_not (pt_val (pe_callB (cr_allN rfl) (by rfl) T.m_all b_all (pa_cons (pe_lc (own := [("one", 2)]) (g := (gName 2)) (tt := tYes) rfl sc_are_goods.nd (pi_tupN (pv 1)) (blkOk_by (N := N_are_goods) (sc := (defScope s_are_goods)) (own := [("one", 2)]) (by decide +kernel)) (fun _ _ _ _ _ => (pg_name (i := 2) sc_are_goods.nd rfl (by first | exact Or.inl rfl | exact Or.inr rfl))) (fun _ _ _ _ _ => pts_nil) (fun _ _ _ _ _ => (pe_callO O_is_coming hr (pa_cons (pv 0) (pa_cons (pv 2) pa_nil))))) pa_nil)))))))
        (pss_one (ps_ret pe_bl)) pss_nil)
      (pss_one (ps_ret (pe_callO O_is_rising hr (pa_cons (pe_lc (own := [("one", 2)]) (g := (gName 2)) (tt := tYes) rfl sc_are_goods.nd (pi_tupN (pv 1)) (blkOk_by (N := N_are_goods) (sc := (defScope s_are_goods)) (own := [("one", 2)]) (by decide +kernel)) (fun _ _ _ _ _ => (pg_name (i := 2) sc_are_goods.nd rfl (by first | exact Or.inl rfl | exact Or.inr rfl))) (fun _ _ _ _ _ => pts_nil) (fun _ _ _ _ _ => (pe_slice sl_tupN (pv 2) po_none (po_some pe_int)))) pa_nil))))), ?_⟩
    obtain ⟨t, a, S, ls, rfl, hS, hf, ⟨xs, ha, hx⟩, ho, q⟩ := h
    have hlen := plen hx
    have hlen2 := ho.few
    refine ⟨_, rfl, .inr (.inr (.inr ⟨_, _, rfl, ha, true, rfl, ?_⟩))⟩
    refine iteF (A := _) ?_
    refine ⟨_, rfl, a, rfl, ⟨_, ha⟩, fun _ => lcTupY ha (small1000 (by omega)) (fun i acc _ => acc = List.replicate i (.bl true)) (fun _ _ _ _ _ h => h) rfl (fun Ky i x acc H1 hx1 s1 g ky => ?_) (fun D acc H1 hD s1 hA _ g => ?_)⟩
    · obtain ⟨l, hp, io⟩ := pget hx hx1
      have m := ho.each l (List.mem_of_getElem? hp)
      obtain ⟨t2, rfl, io'⟩ := id io
      refine ⟨rfl, _, rfl, _, rfl, t, t2, S, l, rfl, hS.tk (tk_of s1), hf, io.tk (tk_of s1), m.1, m.2.1, m.2.2, fun H2 s2 => ?_⟩
      refine ky _ _ s2 ?_
      subst g
      exact rep_snoc i
    · subst g
      rw [rep_bl] at hA
      refine ⟨D, _, rfl, hA, _, rfl, ?_⟩
      rw [rep_all]
      refine iteF (A := _) ?_
      have ha1 := s1 _ _ ha
      refine ⟨_, rfl, a, rfl, ⟨_, ha1⟩, fun _ => lcTupY ha1 (small1000 (by omega)) (fun i acc H => Paired (IsKy H) acc (ls.take i)) (fun _ _ _ _ k h => pimp (fun _ _ => IsKy.tk k) h) .nil (fun Ky i x acc H2 hx1 s2 g ky => ?_) (fun D2 acc H2 hD2 s2 hA2 _ g => ?_)⟩
      · obtain ⟨l, hp, t2, rfl, ht⟩ := pget hx hx1
        refine ⟨rfl, _, rfl, 2, rfl, t2, _, rfl, s2 _ _ (s1 _ _ ht), fun p H3 s3 hp3 => ?_⟩
        have e3 : cutV [V.int l.1, V.str l.2.1, V.int l.2.2] none (some 2) = [V.int l.1, V.str l.2.1] := cut_upto _ 2
        rw [e3] at hp3
        refine ky _ _ s3 ?_
        rw [take_next hp]
        exact papp (pimp (fun _ _ => IsKy.tk (tk_of s3)) g) (.cons ⟨p, rfl, hp3⟩ .nil)
      · have e : ls.take xs.length = ls := List.take_of_length_le (by omega)
        rw [e] at g
        refine ⟨D2, acc, ls.map keyD, rfl, hA2, pmap keyD (fun _ _ z => z.dt) g, by rw [List.length_map]; omega, fun d hd => ?_, ?_, fun H3 s3 => q _ (s1.trans (s2.trans s3))⟩
        · obtain ⟨i, _, rfl⟩ := List.mem_map.mp hd
          refine ⟨fun z => (by cases z), depth_key i, fun e he => ?_⟩
          obtain ⟨j, _, rfl⟩ := List.mem_map.mp he
          exact alike_key i j
        · rw [List.pairwise_map]
          exact ho.up
def sp_want_no_choices : Sp := fun vs H Q _ => ∃ (t : Addr) (S : Shop), vs = [.ref t] ∧ ShopAt H t S ∧ ∀ H', Same H H' → Q .non H'
/-! ### want_no_choices: 0 shop -/
abbrev N_want_no_choices : List Str := ["shop"]
theorem sc_want_no_choices : FnScope N_want_no_choices ["shop"] (defScope s_want_no_choices) := ⟨rfl, rfl, rfl, by decide +kernel, rfl, by decide +kernel, by decide +kernel⟩
theorem ok_want_no_choices (T : Tx K mg) : OkF P w K mg base "want_no_choices" 2 ["shop"] [] sp_want_no_choices := by
  have O_want : OkF P w K mg base "want" 1 ["is_right", "word", "at"] [.int (-1)] sp_want := ok_want T
  refine okF_mk d_want_no_choices T (fn_mem 25 rfl) rfl rfl sc_want_no_choices (fun _ _ _ _ _ _ us hl => match us, hl with | [_], _ => rfl) (fun vs H Q E h => ?_) (fun f cdv A outer s H vs Q E hr h => ?_)
  · first | (obtain ⟨_, rfl, _⟩ := h; rfl) | (obtain ⟨_, _, rfl, _⟩ := h; rfl) | (obtain ⟨_, _, _, rfl, _⟩ := h; rfl) | (obtain ⟨_, _, _, _, rfl, _⟩ := h; rfl) | (obtain ⟨_, _, _, _, _, rfl, _⟩ := h; rfl) | (obtain ⟨_, _, _, _, _, _, rfl, _⟩ := h; rfl) | (obtain ⟨_, _, _, _, _, _, _, rfl, _⟩ := h; rfl)
  · have hu := hu_of hr
    have hu65 := hu65_of hr
    refine ⟨_, (pss_one (ps_expr (pe_callO O_want hr (pa_cons (pe_cmpR (op_eqN hu65) (pe_ix ix_tupN (pv 0) pe_int (fun _ _ => rfl)) (pe_tupN pa_nil) (by first | exact nomark _ | rfl)) (pa_cons pe_str pa_nil))))), ?_⟩
    obtain ⟨t, S, rfl, hS, q⟩ := h
    obtain ⟨pa, pb, pc, xs, ys, k1, k2, k3, k4, k5, k6⟩ := hS.ex
    refine ⟨_, rfl, t, _, _, _, rfl, rfl, k1, atI_nat (j := 1) rfl, by decide, fun p H1 n1 => ?_⟩
    refine ⟨.tuple [], .tuple [], .tup (n1.same _ _ k4) .nil, .tup n1.at_ .nil, by decide, by decide, ?_⟩
    refine ⟨_, _, rfl, ?_⟩
    exact q _ n1.same
def sp_want_schedule : Sp := fun vs H Q _ => ∃ (t a b : Addr) (S : Shop) (os : List (Int × List (Str × Int))) (ls : List (Int × Str × Int)), vs = [.ref t, .ref a, .ref b] ∧ ShopAt H t S ∧ ShopFew S ∧ OrdersAt H a os ∧ OrdersOk S os ∧ LoadAt H b ls ∧ LoadOk S ls ∧ ∀ H', Same H H' → Q .non H'
/-! ### want_schedule: 0 shop, 1 orders, 2 goods -/
abbrev N_want_schedule : List Str := ["shop", "orders", "goods"]
theorem sc_want_schedule : FnScope N_want_schedule ["shop", "orders", "goods"] (defScope s_want_schedule) := ⟨rfl, rfl, rfl, by decide +kernel, rfl, by decide +kernel, by decide +kernel⟩
theorem ok_want_schedule (T : Tx K mg) : OkF P w K mg base "want_schedule" 7 ["shop", "orders", "goods"] [] sp_want_schedule := by
  have O_want_no_choices : OkF P w K mg base "want_no_choices" 2 ["shop"] [] sp_want_no_choices := ok_want_no_choices T
  have O_want : OkF P w K mg base "want" 1 ["is_right", "word", "at"] [.int (-1)] sp_want := ok_want T
  have O_are_orders : OkF P w K mg base "are_orders" 6 ["shop", "thing"] [] sp_are_orders := ok_are_orders T
  have O_are_goods : OkF P w K mg base "are_goods" 4 ["shop", "thing"] [] sp_are_goods := ok_are_goods T
  refine okF_mk d_want_schedule T (fn_mem 26 rfl) rfl rfl sc_want_schedule (fun _ _ _ _ _ _ us hl => match us, hl with | [_, _, _], _ => rfl) (fun vs H Q E h => ?_) (fun f cdv A outer s H vs Q E hr h => ?_)
  · first | (obtain ⟨_, rfl, _⟩ := h; rfl) | (obtain ⟨_, _, rfl, _⟩ := h; rfl) | (obtain ⟨_, _, _, rfl, _⟩ := h; rfl) | (obtain ⟨_, _, _, _, rfl, _⟩ := h; rfl) | (obtain ⟨_, _, _, _, _, rfl, _⟩ := h; rfl) | (obtain ⟨_, _, _, _, _, _, rfl, _⟩ := h; rfl) | (obtain ⟨_, _, _, _, _, _, _, rfl, _⟩ := h; rfl)
  · have hu := hu_of hr
    have hu65 := hu65_of hr
    refine ⟨_, (pss_cons (ps_expr (pe_callO O_want_no_choices hr (pa_cons (pv 0) pa_nil)))
      (pss_cons (ps_expr (pe_callO O_want hr (pa_cons (pe_callO O_are_orders hr (pa_cons (pv 0) (pa_cons (pv 1) pa_nil))) (pa_cons pe_str pa_nil))))
      (pss_one (ps_expr (pe_callO O_want hr (pa_cons (pe_callO O_are_goods hr (pa_cons (pv 0) (pa_cons (pv 2) pa_nil))) (pa_cons pe_str pa_nil))))))), ?_⟩
    obtain ⟨t, a, b, S, os, ls, rfl, hS, hf, ho, hok, hl, hlk, q⟩ := h
    refine ⟨_, rfl, t, S, rfl, hS, fun H1 s1 => ?_⟩
    have k1 := tk_of s1
    refine ⟨_, rfl, _, rfl, t, a, S, os, rfl, hS.tk k1, hf, ho.tk k1, hok, fun H2 s2 => ?_⟩
    refine ⟨_, _, rfl, ?_⟩
    have k2 := tk_of (s1.trans s2)
    refine ⟨_, rfl, _, rfl, t, b, S, ls, rfl, hS.tk k2, hf, hl.tk k2, hlk, fun H3 s3 => ?_⟩
    refine ⟨_, _, rfl, ?_⟩
    exact q _ (s1.trans (s2.trans s3))
end K57
namespace K57
open PySem PySem.Spec PyProof.Rows L2
section
variable {g : TG} {tt : TT} {tk tv : TE} {vs : List Nat} {σ : L2.St} {H1 : Hp}
/-- a dict comprehension that changes nothing else -/
theorem dcS {J : It} {n : Nat} {Q : Addr → Hp → Prop} (Y : Nat → V → Hp → Prop) (G : Nat → List (Key × V) → Hp → Prop)
    (hgo : ∀ i H, i < n → Same H1 H → J.go i H) (hstop : ∀ H, Same H1 H → J.stop n H) (hy : ∀ i H x H', i < n → Same H1 H → J.yld i H x H' → Same H H' ∧ Y i x H') (hn : n < sizeLine)
    (hG : ∀ i acc H H', Tk H H' → G i acc H → G i acc H') (h0 : G 0 [] H1)
    (hs : ∀ (Ky : V → V → Hp → Prop) (Kn : Hp → Prop) (i : Nat) (x : V) (acc : List (Key × V)) (H : Hp), i < n → Same H1 H → Y i x H → G i acc H → (∀ k z H4, Same H H4 → G (i + 1) (putK acc k z) H4 → Ky (kV k) z H4) → (∀ H3, Same H H3 → G (i + 1) acc H3 → Kn H3) →
      g x (wipe σ vs) H fun σ2 H2 => wipe σ2 vs = wipe σ vs ∧ tt σ2 H2 fun b H3 => if b = true then tk σ2 H3 fun y H4 => tv σ2 H4 fun z H5 => Ky y z H5 else Kn H3)
    (hd : ∀ D acc H, H1 D = none → Same H1 H → H D = some (.dK acc) → acc.length ≤ n → G n acc H → Q D H) :
    ∀ D, H1 D = none → ∃ W : Nat → Nat → Hp → Prop, (∃ m, W 0 m (upd H1 D (.dK []))) ∧ ∀ i m H, W i m H →
      (J.stop i H ∧ Q D H) ∨ (J.go i H ∧ ∃ Nx : Hp → Prop, (∀ H', Nx H' → ∃ m', m' < m ∧ W (i + 1) m' H') ∧ ∀ x H', J.yld i H x H' → g x (wipe σ vs) H' fun σ2 H2 => wipe σ2 vs = wipe σ vs ∧ tt σ2 H2 fun b H3 =>
        if b = true then tk σ2 H3 fun y H4 => tv σ2 H4 fun z H5 => ∃ kvs k, y = kV k ∧ H5 D = some (.dK kvs) ∧ kvs.length < sizeLine ∧ Nx (upd H5 D (.dK (putK kvs k z))) else Nx H3) := by
  intro D hD
  let Pv : Nat → Hp → Prop := fun i H => Same H1 H ∧ ∃ acc, H D = some (.dK acc) ∧ acc.length ≤ i ∧ G i acc H
  refine ⟨fun i m H => m = n - i ∧ i ≤ n ∧ Pv i H, ⟨n, by simp, Nat.zero_le _, ?_⟩, ?_⟩
  · have k0 : Same H1 (upd H1 D (.dK [])) := same_upd hD
    exact ⟨k0, [], upd_same, Nat.le_refl _, hG _ _ _ _ (tk_of k0) h0⟩
  rintro i m H ⟨rfl, hi, k, acc, hA, hl, hg⟩
  by_cases hlt : i < n
  · refine .inr ⟨hgo i H hlt k, Pv (i + 1), fun H' p' => ⟨n - (i + 1), by omega, rfl, hlt, p'⟩, fun x H' y => ?_⟩
    obtain ⟨s1, y1⟩ := hy i H x H' hlt k y
    have k1 : Same H1 H' := k.trans s1
    refine hs (fun y z H5 => ∃ kvs k, y = kV k ∧ H5 D = some (.dK kvs) ∧ kvs.length < sizeLine ∧ Pv (i + 1) (upd H5 D (.dK (putK kvs k z)))) _ i x acc H' hlt k1 y1 (hG _ _ _ _ (tk_of s1) hg) (fun key z H4 s4 g4 => ?_) (fun H3 s3 g3 => ?_)
    · have a4 : H4 D = some (.dK acc) := s4 D _ (s1 D _ hA)
      have k4 : Same H1 H4 := k1.trans s4
      refine ⟨acc, key, rfl, a4, by omega, fun b o hb => ?_, putK acc key z, upd_same, by have := length_putK acc key z; omega, hG _ _ H4 _ (md_upd.tk a4 (fun xs z => nomatch z)) g4⟩
      rw [upd_ne (ne_of_none hb hD)]
      exact k4 b o hb
    · exact ⟨k1.trans s3, acc, s3 D _ (s1 D _ hA), by omega, g3⟩
  · have e1 : i = n := by omega
    subst e1
    exact .inl ⟨hstop H k, hd D acc H hD k hA hl hg⟩
theorem dcTupY {K : PySem.W.Frag} {a : Addr} {xs : List V} {Q : Addr → Hp → Prop} (hx : H1 a = some (.tup xs)) (hn : xs.length < sizeLine) (G : Nat → List (Key × V) → Hp → Prop)
    (hG : ∀ i acc H H', Tk H H' → G i acc H → G i acc H') (h0 : G 0 [] H1)
    (hs : ∀ (Ky : V → V → Hp → Prop) (i : Nat) (x : V) (acc : List (Key × V)) (H : Hp), xs[i]? = some x → Same H1 H → G i acc H → (∀ k z H4, Same H H4 → G (i + 1) (putK acc k z) H4 → Ky (kV k) z H4) →
      g x (wipe σ vs) H fun σ2 H2 => wipe σ2 vs = wipe σ vs ∧ tk σ2 H2 fun y H4 => tv σ2 H4 fun z H5 => Ky y z H5)
    (hd : ∀ D acc H, H1 D = none → Same H1 H → H D = some (.dK acc) → acc.length ≤ xs.length → G xs.length acc H → Q D H) :
    ∀ D, H1 D = none → ∃ W : Nat → Nat → Hp → Prop, (∃ m, W 0 m (upd H1 D (.dK []))) ∧ ∀ i m H, W i m H →
      ((Itt K a).stop i H ∧ Q D H) ∨ ((Itt K a).go i H ∧ ∃ Nx : Hp → Prop, (∀ H', Nx H' → ∃ m', m' < m ∧ W (i + 1) m' H') ∧ ∀ x H', (Itt K a).yld i H x H' → g x (wipe σ vs) H' fun σ2 H2 => wipe σ2 vs = wipe σ vs ∧ tYes σ2 H2 fun b H3 =>
        if b = true then tk σ2 H3 fun y H4 => tv σ2 H4 fun z H5 => ∃ kvs k, y = kV k ∧ H5 D = some (.dK kvs) ∧ kvs.length < sizeLine ∧ Nx (upd H5 D (.dK (putK kvs k z))) else Nx H3) :=
  dcS (J := Itt K a) (tt := tYes) (fun i x _ => xs[i]? = some x) G (fun i H hi s => ⟨xs, xs[i], SqT.of (s _ _ hx), by simp [hi]⟩) (fun H s => ⟨xs, SqT.of (s _ _ hx), Nat.le_refl _⟩)
    (fun i H x H' hi s y => ⟨y.1 ▸ Same.refl H, y.2 xs (SqT.of (s _ _ hx))⟩) hn hG h0 (fun Ky Kn i x acc H _ s y g a b => hs Ky i x acc H y s g a) hd
theorem dcLstY {K : PySem.W.Frag} {a : Addr} {xs : List V} {Q : Addr → Hp → Prop} (hx : H1 a = some (.lst xs)) (hn : xs.length < sizeLine) (G : Nat → List (Key × V) → Hp → Prop)
    (hG : ∀ i acc H H', Tk H H' → G i acc H → G i acc H') (h0 : G 0 [] H1)
    (hs : ∀ (Ky : V → V → Hp → Prop) (i : Nat) (x : V) (acc : List (Key × V)) (H : Hp), xs[i]? = some x → Same H1 H → G i acc H → (∀ k z H4, Same H H4 → G (i + 1) (putK acc k z) H4 → Ky (kV k) z H4) →
      g x (wipe σ vs) H fun σ2 H2 => wipe σ2 vs = wipe σ vs ∧ tk σ2 H2 fun y H4 => tv σ2 H4 fun z H5 => Ky y z H5)
    (hd : ∀ D acc H, H1 D = none → Same H1 H → H D = some (.dK acc) → acc.length ≤ xs.length → G xs.length acc H → Q D H) :
    ∀ D, H1 D = none → ∃ W : Nat → Nat → Hp → Prop, (∃ m, W 0 m (upd H1 D (.dK []))) ∧ ∀ i m H, W i m H →
      ((Itl K a).stop i H ∧ Q D H) ∨ ((Itl K a).go i H ∧ ∃ Nx : Hp → Prop, (∀ H', Nx H' → ∃ m', m' < m ∧ W (i + 1) m' H') ∧ ∀ x H', (Itl K a).yld i H x H' → g x (wipe σ vs) H' fun σ2 H2 => wipe σ2 vs = wipe σ vs ∧ tYes σ2 H2 fun b H3 =>
        if b = true then tk σ2 H3 fun y H4 => tv σ2 H4 fun z H5 => ∃ kvs k, y = kV k ∧ H5 D = some (.dK kvs) ∧ kvs.length < sizeLine ∧ Nx (upd H5 D (.dK (putK kvs k z))) else Nx H3) :=
  dcS (J := Itl K a) (tt := tYes) (fun i x _ => xs[i]? = some x) G (fun i H hi s => ⟨xs, xs[i], SqL.of (s _ _ hx), by simp [hi]⟩) (fun H s => ⟨xs, SqL.of (s _ _ hx), Nat.le_refl _⟩)
    (fun i H x H' hi s y => ⟨y.1 ▸ Same.refl H, y.2 xs (SqL.of (s _ _ hx))⟩) hn hG h0 (fun Ky Kn i x acc H _ s y g a b => hs Ky i x acc H y s g a) hd
/-- over the keys of a dict that is held -/
theorem dcKeysY {a : Addr} {o : Obj} {kvs0 : List (Key × V)} {Q : Addr → Hp → Prop} (hx : H1 a = some (.frz o (.dK kvs0))) (hn : kvs0.length < sizeLine) (G : Nat → List (Key × V) → Hp → Prop)
    (hG : ∀ i acc H H', Tk H H' → G i acc H → G i acc H') (h0 : G 0 [] H1)
    (hs : ∀ (Ky : V → V → Hp → Prop) (i : Nat) (key : Key) (v : V) (acc : List (Key × V)) (H : Hp), kvs0[i]? = some (key, v) → Same H1 H → G i acc H → (∀ k z H4, Same H H4 → G (i + 1) (putK acc k z) H4 → Ky (kV k) z H4) →
      g (kV key) (wipe σ vs) H fun σ2 H2 => wipe σ2 vs = wipe σ vs ∧ tk σ2 H2 fun y H4 => tv σ2 H4 fun z H5 => Ky y z H5)
    (hd : ∀ D acc H, H1 D = none → Same H1 H → H D = some (.dK acc) → acc.length ≤ kvs0.length → G kvs0.length acc H → Q D H) :
    ∀ D, H1 D = none → ∃ W : Nat → Nat → Hp → Prop, (∃ m, W 0 m (upd H1 D (.dK []))) ∧ ∀ i m H, W i m H →
      ((Itk a o kvs0).stop i H ∧ Q D H) ∨ ((Itk a o kvs0).go i H ∧ ∃ Nx : Hp → Prop, (∀ H', Nx H' → ∃ m', m' < m ∧ W (i + 1) m' H') ∧ ∀ x H', (Itk a o kvs0).yld i H x H' → g x (wipe σ vs) H' fun σ2 H2 => wipe σ2 vs = wipe σ vs ∧ tYes σ2 H2 fun b H3 =>
        if b = true then tk σ2 H3 fun y H4 => tv σ2 H4 fun z H5 => ∃ kvs k, y = kV k ∧ H5 D = some (.dK kvs) ∧ kvs.length < sizeLine ∧ Nx (upd H5 D (.dK (putK kvs k z))) else Nx H3) := by
  refine dcS (J := Itk a o kvs0) (tt := tYes) (fun i x _ => ∃ k v, kvs0[i]? = some (k, v) ∧ x = kV k) G (fun i H hi s => ⟨s _ _ hx, hi⟩) (fun H s => ⟨s _ _ hx, Nat.le_refl _⟩)
    (fun i H x H' hi s y => ⟨y.1 ▸ Same.refl H, y.2⟩) hn hG h0 (fun Ky Kn i x acc H _ s y g a b => ?_) hd
  obtain ⟨k, v, e, rfl⟩ := y
  exact hs Ky i k v acc H e s g a
/-- over the pairs of a dict that is held -/
theorem dcItemsY {a : Addr} {o : Obj} {kvs0 : List (Key × V)} {Q : Addr → Hp → Prop} (hx : H1 a = some (.frz o (.dK kvs0))) (hn : kvs0.length < sizeLine) (G : Nat → List (Key × V) → Hp → Prop)
    (hG : ∀ i acc H H', Tk H H' → G i acc H → G i acc H') (h0 : G 0 [] H1)
    (hs : ∀ (Ky : V → V → Hp → Prop) (i : Nat) (key : Key) (v : V) (T : Addr) (acc : List (Key × V)) (H : Hp), kvs0[i]? = some (key, v) → H T = some (.tup [kV key, v]) → Same H1 H → G i acc H → (∀ k z H4, Same H H4 → G (i + 1) (putK acc k z) H4 → Ky (kV k) z H4) →
      g (.ref T) (wipe σ vs) H fun σ2 H2 => wipe σ2 vs = wipe σ vs ∧ tk σ2 H2 fun y H4 => tv σ2 H4 fun z H5 => Ky y z H5)
    (hd : ∀ D acc H, H1 D = none → Same H1 H → H D = some (.dK acc) → acc.length ≤ kvs0.length → G kvs0.length acc H → Q D H) :
    ∀ D, H1 D = none → ∃ W : Nat → Nat → Hp → Prop, (∃ m, W 0 m (upd H1 D (.dK []))) ∧ ∀ i m H, W i m H →
      ((Iti a o kvs0).stop i H ∧ Q D H) ∨ ((Iti a o kvs0).go i H ∧ ∃ Nx : Hp → Prop, (∀ H', Nx H' → ∃ m', m' < m ∧ W (i + 1) m' H') ∧ ∀ x H', (Iti a o kvs0).yld i H x H' → g x (wipe σ vs) H' fun σ2 H2 => wipe σ2 vs = wipe σ vs ∧ tYes σ2 H2 fun b H3 =>
        if b = true then tk σ2 H3 fun y H4 => tv σ2 H4 fun z H5 => ∃ kvs k, y = kV k ∧ H5 D = some (.dK kvs) ∧ kvs.length < sizeLine ∧ Nx (upd H5 D (.dK (putK kvs k z))) else Nx H3) := by
  refine dcS (J := Iti a o kvs0) (tt := tYes) (fun i x H => ∃ T k v, kvs0[i]? = some (k, v) ∧ x = .ref T ∧ H T = some (.tup [kV k, v])) G (fun i H hi s => ⟨s _ _ hx, hi⟩) (fun H s => ⟨s _ _ hx, Nat.le_refl _⟩)
    (fun i H x H' hi s y => ?_) hn hG h0 (fun Ky Kn i x acc H _ s y g a b => ?_) hd
  · obtain ⟨T, k, v, e, ex, hT, e2⟩ := y
    subst e2
    exact ⟨same_upd hT, T, k, v, e, ex, upd_same⟩
  · obtain ⟨T, k, v, e, rfl, hT⟩ := y
    exact hs Ky i k v T acc H e hT s g a
/-- a list comprehension over the keys of a dict that is held -/
theorem lcKeys {te : TE} {a : Addr} {o : Obj} {kvs0 : List (Key × V)} {Q : Addr → Hp → Prop} (hx : H1 a = some (.frz o (.dK kvs0))) (hn : kvs0.length < sizeLine) (G : Nat → List V → Hp → Prop)
    (hG : ∀ i acc H H', Tk H H' → G i acc H → G i acc H') (h0 : G 0 [] H1)
    (hs : ∀ (Ky : V → Hp → Prop) (Kn : Hp → Prop) (i : Nat) (key : Key) (v : V) (acc : List V) (H : Hp), kvs0[i]? = some (key, v) → Same H1 H → G i acc H → (∀ y H4, Same H H4 → G (i + 1) (acc ++ [y]) H4 → Ky y H4) → (∀ H3, Same H H3 → G (i + 1) acc H3 → Kn H3) →
      g (kV key) (wipe σ vs) H fun σ2 H2 => wipe σ2 vs = wipe σ vs ∧ tt σ2 H2 fun b H3 => if b = true then te σ2 H3 Ky else Kn H3)
    (hd : ∀ D acc H, H1 D = none → Same H1 H → H D = some (.lst acc) → acc.length ≤ kvs0.length → G kvs0.length acc H → Q D H) :
    ∀ D, H1 D = none → ∃ W : Nat → Nat → Hp → Prop, (∃ m, W 0 m (upd H1 D (.lst []))) ∧ ∀ i m H, W i m H →
      ((Itk a o kvs0).stop i H ∧ Q D H) ∨ ((Itk a o kvs0).go i H ∧ ∃ Nx : Hp → Prop, (∀ H', Nx H' → ∃ m', m' < m ∧ W (i + 1) m' H') ∧ ∀ x H', (Itk a o kvs0).yld i H x H' → g x (wipe σ vs) H' fun σ2 H2 => wipe σ2 vs = wipe σ vs ∧ tt σ2 H2 fun b H3 =>
        if b = true then te σ2 H3 fun y H4 => ∃ acc, H4 D = some (.lst acc) ∧ acc.length < sizeLine ∧ Nx (upd H4 D (.lst (acc ++ [y]))) else Nx H3) := by
  refine lcS (J := Itk a o kvs0) (fun i x _ => ∃ k v, kvs0[i]? = some (k, v) ∧ x = kV k) G (fun i H hi s => ⟨s _ _ hx, hi⟩) (fun H s => ⟨s _ _ hx, Nat.le_refl _⟩)
    (fun i H x H' hi s y => ⟨y.1 ▸ Same.refl H, y.2⟩) hn hG h0 (fun Ky Kn i x acc H _ s y g a b => ?_) hd
  obtain ⟨k, v, e, rfl⟩ := y
  exact hs Ky Kn i k v acc H e s g a b
theorem lcKeysY {te : TE} {a : Addr} {o : Obj} {kvs0 : List (Key × V)} {Q : Addr → Hp → Prop} (hx : H1 a = some (.frz o (.dK kvs0))) (hn : kvs0.length < sizeLine) (G : Nat → List V → Hp → Prop)
    (hG : ∀ i acc H H', Tk H H' → G i acc H → G i acc H') (h0 : G 0 [] H1)
    (hs : ∀ (Ky : V → Hp → Prop) (i : Nat) (key : Key) (v : V) (acc : List V) (H : Hp), kvs0[i]? = some (key, v) → Same H1 H → G i acc H → (∀ y H4, Same H H4 → G (i + 1) (acc ++ [y]) H4 → Ky y H4) →
      g (kV key) (wipe σ vs) H fun σ2 H2 => wipe σ2 vs = wipe σ vs ∧ te σ2 H2 Ky)
    (hd : ∀ D acc H, H1 D = none → Same H1 H → H D = some (.lst acc) → acc.length ≤ kvs0.length → G kvs0.length acc H → Q D H) :
    ∀ D, H1 D = none → ∃ W : Nat → Nat → Hp → Prop, (∃ m, W 0 m (upd H1 D (.lst []))) ∧ ∀ i m H, W i m H →
      ((Itk a o kvs0).stop i H ∧ Q D H) ∨ ((Itk a o kvs0).go i H ∧ ∃ Nx : Hp → Prop, (∀ H', Nx H' → ∃ m', m' < m ∧ W (i + 1) m' H') ∧ ∀ x H', (Itk a o kvs0).yld i H x H' → g x (wipe σ vs) H' fun σ2 H2 => wipe σ2 vs = wipe σ vs ∧ tYes σ2 H2 fun b H3 =>
        if b = true then te σ2 H3 fun y H4 => ∃ acc, H4 D = some (.lst acc) ∧ acc.length < sizeLine ∧ Nx (upd H4 D (.lst (acc ++ [y]))) else Nx H3) := by
  refine lcKeys (tt := tYes) hx hn G hG h0 (fun Ky Kn i key v acc H e s g1 ky kn => ?_) hd
  exact hs Ky i key v acc H e s g1 ky
/-! ### loops over what stays -/
/-- over a tuple -/
theorem forT {K : PySem.W.Frag} {a : Addr} {xs : List V} {g : TG} {tb : TS} {D : Ends} {σ : L2.St} {H : Hp} (Pv : Nat → L2.St → Hp → Prop) (h0 : Pv 0 σ H) (hl : ∀ i σ H, i ≤ xs.length → Pv i σ H → H a = some (.tup xs))
    (hs : ∀ i x σ H, xs[i]? = some x → Pv i σ H → g x σ H fun σ2 H2 => tb { D with nx := Pv (i + 1), ct := Pv (i + 1), bk := D.nx } σ2 H2) (hd : ∀ σ H, Pv xs.length σ H → D.nx σ H) :
    ∃ W : Nat → Nat → L2.St → Hp → Prop, (∃ m, W 0 m σ H) ∧ ∀ i m σ H, W i m σ H →
      ((Itt K a).stop i H ∧ D.nx σ H) ∨ ((Itt K a).go i H ∧ ∃ N : L2.St → Hp → Prop, (∀ σ' H', N σ' H' → ∃ m', m' < m ∧ W (i + 1) m' σ' H') ∧ ∀ x H', (Itt K a).yld i H x H' → g x σ H' fun σ2 H2 => tb { D with nx := N, ct := N, bk := D.nx } σ2 H2) :=
  for_tup Pv h0 (fun i σ H hi p => SqT.of (hl i σ H hi p)) hs hd
theorem forL {K : PySem.W.Frag} {a : Addr} {xs : List V} {g : TG} {tb : TS} {D : Ends} {σ : L2.St} {H : Hp} (Pv : Nat → L2.St → Hp → Prop) (h0 : Pv 0 σ H) (hl : ∀ i σ H, i ≤ xs.length → Pv i σ H → H a = some (.lst xs))
    (hs : ∀ i x σ H, xs[i]? = some x → Pv i σ H → g x σ H fun σ2 H2 => tb { D with nx := Pv (i + 1), ct := Pv (i + 1), bk := D.nx } σ2 H2) (hd : ∀ σ H, Pv xs.length σ H → D.nx σ H) :
    ∃ W : Nat → Nat → L2.St → Hp → Prop, (∃ m, W 0 m σ H) ∧ ∀ i m σ H, W i m σ H →
      ((Itl K a).stop i H ∧ D.nx σ H) ∨ ((Itl K a).go i H ∧ ∃ N : L2.St → Hp → Prop, (∀ σ' H', N σ' H' → ∃ m', m' < m ∧ W (i + 1) m' σ' H') ∧ ∀ x H', (Itl K a).yld i H x H' → g x σ H' fun σ2 H2 => tb { D with nx := N, ct := N, bk := D.nx } σ2 H2) :=
  for_list Pv h0 (fun i σ H hi p => SqL.of (hl i σ H hi p)) hs hd
end
/-! ### more on lists of numbers -/
theorem putL_new : ∀ (l : List (Str × Int)) (x : Str) (v : Int), x ∉ l.map (·.1) → putL l x v = l ++ [(x, v)]
  | [], x, v, _ => rfl
  | p :: l, x, v, h => by
    rw [putL_cons, if_neg (fun e => h (by rw [List.map_cons, e]; exact List.mem_cons_self)), putL_new l x v fun hm => h (List.mem_cons_of_mem _ hm)]; rfl
theorem getL_mem : ∀ {l : List (Str × Int)} {x : Str} {v : Int}, getL l x = some v → (x, v) ∈ l
  | p :: l, x, v, h => by
    rw [getL_cons] at h
    by_cases e : p.1 = x
    · rw [if_pos e] at h
      have : p = (x, v) := Prod.ext e (Option.some.inj h)
      rw [this]; exact List.mem_cons_self
    · rw [if_neg e] at h
      exact List.mem_cons_of_mem _ (getL_mem h)
theorem getL_of_mem : ∀ {l : List (Str × Int)} {x : Str} {v : Int}, (l.map (·.1)).Nodup → (x, v) ∈ l → getL l x = some v
  | p :: l, x, v, nd, h => by
    rw [List.map_cons, List.nodup_cons] at nd
    rw [getL_cons]
    rcases List.mem_cons.mp h with e | h
    · rw [← e, if_pos rfl]
    · rw [if_neg fun e => nd.1 (by rw [e]; exact List.mem_map_of_mem (f := (·.1)) h), getL_of_mem nd.2 h]
theorem getL_none {l : List (Str × Int)} {x : Str} (h : x ∉ l.map (·.1)) : getL l x = none := by
  cases e : getL l x with
  | none => rfl
  | some v => exact absurd (List.mem_map_of_mem (f := (·.1)) (getL_mem e)) h
theorem getL_some {l : List (Str × Int)} {x : Str} (h : x ∈ l.map (·.1)) : ∃ v, getL l x = some v := Option.isSome_iff_exists.mp ((getL_isSome l x).mpr h)
/-- a dict of numbers read by a key that is there -/
theorem dgetL {H : Hp} {a : Addr} {l : List (Str × Int)} {x : Str} {v : Int} (h : H a = some (.dK (encK l))) (e : getL l x = some v) : DGet H a (.str x) (some (.int v)) := by
  have := DGet.k (k := (Sum.inr x : Key)) h
  rw [valV_enc, e] at this
  exact this
theorem dgetLo {H : Hp} {a : Addr} {l : List (Str × Int)} {x : Str} (h : H a = some (.dK (encK l))) : DGet H a (.str x) ((getL l x).map V.int) := by
  have := DGet.k (k := (Sum.inr x : Key)) h
  rw [valV_enc] at this
  exact this
theorem dputL {H : Hp} {a : Addr} {l : List (Str × Int)} (x : Str) (v : Int) (h : H a = some (.dK (encK l))) (nd : (l.map (·.1)).Nodup) (hl : l.length < sizeLine) : ∃ H4, DPut H a (.str x) (.int v) H4 ∧ Md H a (.dK (encK (putL l x v))) H4 := by
  obtain ⟨H4, h1, h2⟩ := dput_of (Sum.inr x : Key) (v := .int v) h (by rw [encK_len]; exact hl)
  rw [putK_enc l nd] at h2
  exact ⟨H4, h1, h2⟩
/-- .. of a dict that is held -/
theorem dgetF {H : Hp} {a : Addr} {o : Obj} {l : List (Str × Int)} {x : Str} {v : Int} (h : H a = some (.frz o (.dK (encK l)))) (e : getL l x = some v) : DGet H a (.str x) (some (.int v)) :=
  .inl ⟨encK l, (Sum.inr x : Key), .inr ⟨o, h⟩, rfl, by rw [valV_enc, e]; rfl⟩
theorem enc_get {l : List (Str × Int)} {i : Nat} {k : Key} {v : V} (h : (encK l)[i]? = some (k, v)) : ∃ p, l[i]? = some p ∧ k = Sum.inr p.1 ∧ v = .int p.2 := by
  unfold encK at h
  rw [List.getElem?_map] at h
  cases e : l[i]? with
  | none => rw [e] at h; cases h
  | some p =>
    rw [e] at h
    cases h
    exact ⟨p, rfl, rfl, rfl⟩
theorem mem_take {α : Type} {l : List α} {i : Nat} {a : α} (h : a ∈ l.take i) : a ∈ l := List.mem_of_mem_take h
/-- the next of distinct ones is no earlier one -/
theorem nodup_next {α : Type} {l : List α} {i : Nat} {a : α} (nd : l.Nodup) (h : l[i]? = some a) : a ∉ l.take i := by
  intro hm
  obtain ⟨j, hj, e⟩ := List.mem_take_iff_getElem.mp hm
  have h2 : i < l.length := by
    rcases Nat.lt_or_ge i l.length with z | z
    · exact z
    · rw [List.getElem?_eq_none z] at h; cases h
  rw [List.getElem?_eq_getElem h2] at h
  have h3 : l[i] = a := Option.some.inj h
  have h4 := (List.getElem_inj (h₀ := by omega) (h₁ := h2) nd).mp (e.trans h3.symm)
  omega
end K57
namespace K57
open PySem PySem.Spec PyProof.Rows L2
/-- what stands there at first -/
def thereL (S : Shop) : List (Str × Int) := S.parts ++ S.packs.map fun p => (p.name, p.made)
structure ShopOk (S : Shop) : Prop where
  rk : ∃ rk : Str → Nat, Wf S.packs rk ∧ ∀ p ∈ S.packs, 1 ≤ rk p.name ∧ rk p.name ≤ S.packs.length
  nd : (arts S).Nodup
  ok : ∀ z ∈ arts S, NameOk z
  sheet : ∀ p ∈ S.packs, ∀ q ∈ p.sheet, q.1 ∈ arts S
  made : ∀ p ∈ S.packs, 0 ≤ p.made
  stock : ∀ p ∈ S.parts, 0 ≤ p.2
  np : 1 ≤ S.parts.length ∧ S.parts.length ≤ 5
  nk : S.packs.length ≤ 5
  ns : ∀ p ∈ S.packs, p.sheet.length ≤ 5
  cb : ∀ p ∈ S.packs, ∀ q ∈ p.sheet, q.2 ≤ 4
  mb : ∀ p ∈ S.packs, p.made ≤ 3
theorem ShopOk.few {S : Shop} (h : ShopOk S) : ShopFew S := ⟨by have := h.np; omega, by have := h.nk; omega⟩
theorem ShopOk.ndp {S : Shop} (h : ShopOk S) : (S.parts.map (·.1)).Nodup := (List.nodup_append.mp h.nd).1
theorem ShopOk.ndk {S : Shop} (h : ShopOk S) : (S.packs.map (·.name)).Nodup := (List.nodup_append.mp h.nd).2.1
theorem ShopOk.dis {S : Shop} (h : ShopOk S) : ∀ p ∈ S.packs, p.name ∉ S.parts.map (·.1) := fun p hp hm => (List.nodup_append.mp h.nd).2.2 _ hm _ (List.mem_map_of_mem hp) rfl
def isPart (S : Shop) (x : Str) : Prop := x ∈ S.parts.map (·.1)
theorem there_keys (S : Shop) : (thereL S).map (·.1) = arts S := by
  unfold thereL arts
  rw [List.map_append, List.map_map]; rfl
/-- a dict of packs by their names -/
def PkD (H : Hp) (kvs : List (Key × V)) (ps : List (Pk Str)) : Prop := Paired (fun kv p => kv.1 = (Sum.inr p.name : Key) ∧ IsPk H kv.2 p) kvs ps
theorem PkD.tk {H H' : Hp} {kvs : List (Key × V)} {ps : List (Pk Str)} (k : Tk H H') (h : PkD H kvs ps) : PkD H' kvs ps := pimp (fun _ _ z => ⟨z.1, z.2.tk k⟩) h
theorem putK_new : ∀ (l : List (Key × V)) (k : Key) (v : V), k ∉ l.map (·.1) → putK l k v = l ++ [(k, v)] := by
  intro l k v h
  unfold putK
  rw [if_neg]
  simp only [List.any_eq_true, not_exists, not_and]
  intro kv hkv e
  exact h (of_decide_eq_true e ▸ List.mem_map_of_mem (f := (·.1)) hkv)
theorem pkd_keys {H : Hp} : ∀ {kvs : List (Key × V)} {ps : List (Pk Str)}, PkD H kvs ps → kvs.map (fun kv => kV kv.1) = (ps.map (·.name)).map V.str
  | _, _, .nil => rfl
  | _, _, .cons r t => by
    rw [List.map_cons, List.map_cons, List.map_cons, pkd_keys t, r.1]; rfl
theorem pkd_mem {H : Hp} : ∀ {kvs : List (Key × V)} {ps : List (Pk Str)} {x : Str}, PkD H kvs ps → (Sum.inr x : Key) ∈ kvs.map (·.1) → x ∈ ps.map (·.name)
  | _, _, _, .nil, h => by cases h
  | _, _, x, .cons r t, h => by
    rw [List.map_cons, List.mem_cons] at h ⊢
    rcases h with h | h
    · exact .inl (Sum.inr.inj (h.trans r.1))
    · exact .inr (pkd_mem t h)
theorem pkd_get {H : Hp} : ∀ {kvs : List (Key × V)} {ps : List (Pk Str)} {p : Pk Str}, PkD H kvs ps → (ps.map (·.name)).Nodup → p ∈ ps → ∃ v, valV kvs (Sum.inr p.name : Key) = some v ∧ IsPk H v p
  | _, _, _, .nil, _, h => by cases h
  | _ :: _, _ :: _, p, .cons r t, nd, h => by
    rw [List.map_cons, List.nodup_cons] at nd
    rcases List.mem_cons.mp h with e | h
    · subst e
      exact ⟨_, valV_pos r.1, r.2⟩
    · obtain ⟨v, h1, h2⟩ := pkd_get t nd.2 h
      refine ⟨v, ?_, h2⟩
      rw [valV_neg]
      · exact h1
      · intro e
        rw [r.1] at e
        exact nd.1 (Sum.inr.inj e ▸ List.mem_map_of_mem h)
theorem enc_next {l : List (Str × Int)} {i : Nat} {p : Str × Int} (nd : (l.map (·.1)).Nodup) (h : l[i]? = some p) : putK (encK (l.take i)) (Sum.inr p.1 : Key) (.int p.2) = encK (l.take (i + 1)) := by
  have e : (l.map (·.1))[i]? = some p.1 := by rw [List.getElem?_map, h]; rfl
  have nm := nodup_next nd e
  rw [← List.map_take] at nm
  have nd2 : ((l.take i).map (·.1)).Nodup := by rw [List.map_take]; exact nd.sublist (List.take_sublist _ _)
  rw [putK_enc _ nd2, putL_new _ _ _ nm, take_next h]
/-! ### orders and goods as numbers -/
abbrev Ords := List (Int × List (Str × Int))
abbrev Lds := List (Int × Str × Int)
/-- what is asked till behind the i-th day -/
def cum : Ords → Nat → Str → Int
  | [], _, _ => 0
  | _, 0, _ => 0
  | o :: os, i + 1, x => cnt o.2 x + cum os i x
/-- what has come till the end of a day -/
def come (ls : Lds) (d : Int) (x : Str) : Int := sumI (fun l => if l.1 ≤ d ∧ l.2.1 = x then l.2.2 else 0) ls
def dayOf (os : Ords) (i : Nat) : Int := (os[i]?.map (·.1)).getD 0
def leftOf (S : Shop) (os : Ords) (ls : Lds) (i : Nat) (A : Str → Int) (x : Str) : Int := cnt S.parts x - A x + come ls (dayOf os i) x
abbrev M0 (S : Shop) : Str → Int := cnt (thereL S)
/-- the netting of the i-th day answers -/
def Fine (S : Shop) (os : Ords) (ls : Lds) (i : Nat) : Prop := ∃ A, Sol S.packs (M0 S) (cum os (i + 1)) A ∧ ∀ x, isPart S x → 0 ≤ leftOf S os ls i A x
def Late (S : Shop) (os : Ords) (ls : Lds) (i : Nat) : Prop := ∃ A, Sol S.packs (M0 S) (cum os (i + 1)) A ∧ ∃ x, isPart S x ∧ leftOf S os ls i A x < 0
theorem cum_next : ∀ {os : Ords} {i : Nat} {o : Int × List (Str × Int)} (x : Str), os[i]? = some o → cum os (i + 1) x = cum os i x + cnt o.2 x
  | [], _, _, _, h => by simp at h
  | o :: os, 0, p, x, h => by
    have : o = p := by simpa using h
    subst this
    show cnt o.2 x + cum os 0 x = 0 + cnt o.2 x
    have : cum os 0 x = 0 := by cases os <;> rfl
    omega
  | o :: os, i + 1, p, x, h => by
    have := cum_next (os := os) (i := i) (o := p) x (by simpa using h)
    show cnt o.2 x + cum os (i + 1) x = cnt o.2 x + cum os i x + cnt p.2 x
    omega
theorem cum_zero (os : Ords) (x : Str) : cum os 0 x = 0 := by cases os <;> rfl
theorem dayOf_at {os : Ords} {i : Nat} {o : Int × List (Str × Int)} (h : os[i]? = some o) : dayOf os i = o.1 := by unfold dayOf; rw [h]; rfl
/-- one pack more -/
theorem sol_next {l : List (Pk Str)} {q : Pk Str} {M r a a' : Str → Int} (h : ∀ x, a x = r x + sumI (fun p => cnt p.sheet x * turn M a p) l) (hl : ∀ p ∈ l, cnt q.sheet p.name = 0) (hq : cnt q.sheet q.name = 0)
    (ha : ∀ x, a' x = a x + cnt q.sheet x * turn M a q) : ∀ x, a' x = r x + sumI (fun p => cnt p.sheet x * turn M a' p) (l ++ [q]) := by
  intro x
  have e1 : sumI (fun p => cnt p.sheet x * turn M a' p) l = sumI (fun p => cnt p.sheet x * turn M a p) l := sumI_congr fun p hp => by
    rw [turn_eq (M := M) (M' := M) (A := a) (A' := a') (by rw [ha, hl p hp]; omega)]
  have e2 : turn M a' q = turn M a q := turn_eq (by rw [ha, hq]; omega)
  rw [sumI_append, e1]
  show a' x = r x + (sumI _ l + (cnt q.sheet x * turn M a' q + 0))
  rw [e2, ha x, h x]
  omega
end K57
namespace K57
open PySem PySem.Spec PyProof.Rows L2
theorem zip_paired {α : Type} {F : V → α → Prop} {d : α → PyData} : ∀ {xs : List V} {ls : List α}, Paired F xs ls → Paired (fun (z : V × PyData) a => F z.1 a ∧ z.2 = d a) (xs.zip (ls.map d)) ls
  | _, _, .nil => .nil
  | _, _, .cons r t => .cons ⟨r, rfl⟩ (zip_paired t)
theorem paired_fst {α : Type} {F : V → α → Prop} {d : α → PyData} : ∀ {zs : List (V × PyData)} {ls : List α}, Paired (fun (z : V × PyData) a => F z.1 a ∧ z.2 = d a) zs ls → Paired F (zs.map Prod.fst) ls
  | _, _, .nil => .nil
  | _, _, .cons r t => .cons r.1 (paired_fst t)
theorem paired_mem {α β : Type} {F : α → β → Prop} : ∀ {xs : List α} {ys : List β} {y : β}, Paired F xs ys → y ∈ ys → ∃ x, x ∈ xs ∧ F x y
  | _, _, _, .nil, h => by cases h
  | _, _, y, .cons r t, h => by
    rcases List.mem_cons.mp h with e | h
    · subst e; exact ⟨_, List.mem_cons_self, r⟩
    · obtain ⟨x, h1, h2⟩ := paired_mem t h
      exact ⟨x, List.mem_cons_of_mem _ h1, h2⟩
theorem paired_pair {α : Type} {F : V → α → Prop} {d : α → PyData} : ∀ {zs : List (V × PyData)} {ls : List α}, Paired (fun (z : V × PyData) a => F z.1 a ∧ z.2 = d a) zs ls → zs.Pairwise (fun a b => PySem.W.dataLt b.2 a.2 = false) → ls.Pairwise (fun a b => PySem.W.dataLt (d b) (d a) = false)
  | _, _, .nil, _ => .nil
  | _, _, .cons r t, h => by
    rw [List.pairwise_cons] at h ⊢
    refine ⟨fun b hb => ?_, paired_pair t h.2⟩
    obtain ⟨z, hz, _, e⟩ := paired_mem t hb
    have := h.1 z hz
    rw [e, r.2] at this
    exact this
/-- what sorted hands back, told by what the items stand for -/
theorem sorted_of {α : Type} {F : V → α → Prop} {d : α → PyData} {xs : List V} {ls : List α} {zs : List (V × PyData)} (h : Paired F xs ls) (p : zs.Perm (xs.zip (ls.map d))) (s : zs.Pairwise (fun a b => PySem.W.dataLt b.2 a.2 = false)) :
    ∃ ws : List α, ws.Perm ls ∧ Paired F (zs.map Prod.fst) ws ∧ ws.Pairwise (fun a b => PySem.W.dataLt (d b) (d a) = false) := by
  obtain ⟨ws, h1, h2⟩ := pperm (zip_paired (d := d) h) p
  exact ⟨ws, h1, paired_fst h2, paired_pair h2 s⟩
def IsS (v : V) (z : Str) : Prop := v = .str z
theorem isS_map : ∀ zs : List Str, Paired IsS (zs.map V.str) zs
  | [] => .nil
  | z :: zs => .cons rfl (isS_map zs)
theorem isS_eq : ∀ {xs : List V} {zs : List Str}, Paired IsS xs zs → xs = zs.map V.str
  | _, _, .nil => rfl
  | _, _, .cons r t => by rw [List.map_cons, ← isS_eq t, r]
theorem strs_dt {H : Hp} : ∀ ns : List Str, Paired (Dt H) (ns.map V.str) (ns.map PyData.str)
  | [] => .nil
  | n :: ns => .cons (.str n) (strs_dt ns)
theorem strs_alike (ns : List Str) : PySem.W.AllAlike (ns.map PyData.str) := by
  intro d hd e he
  obtain ⟨x, _, rfl⟩ := List.mem_map.mp hd
  obtain ⟨y, _, rfl⟩ := List.mem_map.mp he
  simp only [PySem.W.alike]
theorem strs_sortable (ns : List Str) : PySem.W.Sortable (ns.map PyData.str) := by
  refine .inr fun d hd => ?_
  obtain ⟨x, _, rfl⟩ := List.mem_map.mp hd
  exact ⟨fun z => (nomatch z), fun _ z => (nomatch z)⟩
theorem strs_depth (ns : List Str) : ∀ d ∈ ns.map PyData.str, d.depth ≤ 20 := by
  intro d hd
  obtain ⟨x, _, rfl⟩ := List.mem_map.mp hd
  simp [PyData.depth]
theorem lt_of_not {a b : List Nat} (h : ¬ b < a) (n : a ≠ b) : a < b := by
  rcases Decidable.em (a < b) with z | z
  · exact z
  · exact absurd (List.le_antisymm (List.not_lt.mp h) (List.not_lt.mp z)) n
theorem strs_up {ws : List Str} (nd : ws.Nodup) (h : ws.Pairwise (fun a b => PySem.W.dataLt (.str b) (.str a) = false)) : ws.Pairwise ltS := by
  refine (List.Pairwise.and nd h).imp fun {a b} ⟨n, h⟩ => ?_
  rw [PySem.W.dataLt_str] at h
  exact lt_of_not (of_decide_eq_false h) fun e => n (PySem.W.str_of_cps e)
theorem putK_not {l : List (Key × V)} {k : Key} : (∀ kv ∈ l, kv.1 ≠ k) → k ∉ l.map (·.1) := fun h hm => by
  obtain ⟨kv, h1, h2⟩ := List.mem_map.mp hm
  exact h kv h1 h2
theorem merge_enc : ∀ (l m : List (Str × Int)), ((m ++ l).map (·.1)).Nodup → mergeK (encK m) (encK l) = encK (m ++ l)
  | [], m, _ => by rw [List.append_nil]; rfl
  | p :: l, m, nd => by
    have e : mergeK (encK m) (encK (p :: l)) = mergeK (putK (encK m) (Sum.inr p.1 : Key) (.int p.2)) (encK l) := rfl
    have hm : p.1 ∉ m.map (·.1) := by
      rw [List.map_append, List.nodup_append] at nd
      intro hm
      exact nd.2.2 _ hm _ (by rw [List.map_cons]; exact List.mem_cons_self) rfl
    have e2 : putK (encK m) (Sum.inr p.1 : Key) (.int p.2) = encK (m ++ [p]) := by
      rw [putK_new]
      · unfold encK; rw [List.map_append]; rfl
      · unfold encK
        rw [List.map_map]
        intro h
        obtain ⟨q, h1, h2⟩ := List.mem_map.mp h
        exact hm (by rw [← Sum.inr.inj (show (Sum.inr q.1 : Key) = Sum.inr p.1 from h2)]; exact List.mem_map_of_mem h1)
    rw [e, e2, merge_enc l (m ++ [p]) (by rw [List.append_assoc]; exact nd), List.append_assoc]; rfl
theorem merge_enc0 (l : List (Str × Int)) (nd : (l.map (·.1)).Nodup) : mergeK [] (encK l) = encK l := merge_enc l [] nd
theorem enc_keys (l : List (Str × Int)) : (encK l).map (fun kv => kV kv.1) = (l.map (·.1)).map V.str := by
  unfold encK
  rw [List.map_map, List.map_map]; rfl
/-- a list of names read back from its dict -/
theorem map_get {l : List (Str × Int)} (nd : (l.map (·.1)).Nodup) : ∀ m : List (Str × Int), (∀ p ∈ m, p ∈ l) → (m.map (·.1)).map (fun k => (k, (getL l k).getD 0)) = m
  | [], _ => rfl
  | p :: m, h => by
    rw [List.map_cons, List.map_cons, map_get nd m fun q hq => h q (List.mem_cons_of_mem _ hq), getL_of_mem nd (h p List.mem_cons_self)]; rfl
theorem perm_get {l : List (Str × Int)} (nd : (l.map (·.1)).Nodup) {ks : List Str} (h : ks.Perm (l.map (·.1))) : (ks.map (fun k => (k, (getL l k).getD 0))).Perm l := by
  have := h.map (fun k => (k, (getL l k).getD 0))
  rw [map_get nd l fun _ h => h] at this
  exact this
theorem cnt_put : ∀ (l : List (Str × Int)) (x : Str) (v : Int) (y : Str), (l.map (·.1)).Nodup → cnt (putL l x v) y = if y = x then v else cnt l y := by
  intro l x v y nd
  rw [← getL_cnt _ _ (putL_nodup l x v nd), getL_put, ← getL_cnt l y nd]
  split <;> rfl
theorem sz2 : 2 ≤ sizeLine := by decide
theorem sz3 : 3 ≤ sizeLine := by decide
theorem sz4 : 4 ≤ sizeLine := by decide
theorem none_same {H H' : Hp} {p : Addr} (s : Same H H') (h : H' p = none) : H p = none := by
  cases e : H p with
  | none => rfl
  | some o => rw [s _ _ e] at h; cases h
theorem same_updN {H H' : Hp} {p : Addr} {o : HO} (s : Same H H') (h : H p = none) : Same H (upd H' p o) := fun b x e => by
  rw [upd_ne (ne_of_none e h)]; exact s b x e
theorem New.of {H H1 H2 : Hp} {p : Addr} {o : HO} (s : Same H H1) (n : New H1 p o H2) : New H p o H2 := ⟨none_same s n.none_, n.at_, s.trans n.same⟩
theorem New.ne {H H1 : Hp} {p a : Addr} {o u : HO} (n : New H p o H1) (h : H a = some u) : a ≠ p := fun e => by rw [e, n.none_] at h; cases h
end K57
namespace K57
open PySem PySem.Spec PyProof.Rows L2
variable {P : Program} {w : World} {K : PySem.W.Frag} {mg : Str → Option Value} {base : Heap}
def sp_stocks_by : Sp := fun vs H Q _ => ∃ (t : Addr) (S : Shop), vs = [.ref t] ∧ ShopAt H t S ∧ ShopOk S ∧ ∀ p H', New H p (.dK (encK S.parts)) H' → Q (.ref p) H'
/-! ### stocks_by: 0 shop, 1 name, 2 stock -/
abbrev N_stocks_by : List Str := ["shop", "name", "stock"]
theorem sc_stocks_by : FnScope N_stocks_by ["shop"] (defScope s_stocks_by) := ⟨rfl, rfl, rfl, by decide +kernel, rfl, by decide +kernel, by decide +kernel⟩
theorem ok_stocks_by (T : Tx K mg) : OkF P w K mg base "stocks_by" 1 ["shop"] [] sp_stocks_by := by
  refine okF_mk d_stocks_by T (fn_mem 11 rfl) rfl rfl sc_stocks_by (fun _ _ _ _ _ _ us hl => match us, hl with | [_], _ => rfl) (fun vs H Q E h => ?_) (fun f cdv A outer s H vs Q E hr h => ?_)
  · first | (obtain ⟨_, rfl, _⟩ := h; rfl) | (obtain ⟨_, _, rfl, _⟩ := h; rfl) | (obtain ⟨_, _, _, rfl, _⟩ := h; rfl) | (obtain ⟨_, _, _, _, rfl, _⟩ := h; rfl) | (obtain ⟨_, _, _, _, _, rfl, _⟩ := h; rfl) | (obtain ⟨_, _, _, _, _, _, rfl, _⟩ := h; rfl) | (obtain ⟨_, _, _, _, _, _, _, rfl, _⟩ := h; rfl)
  · have hu := hu_of hr
    have hu65 := hu65_of hr
    refine ⟨_, (pss_one (ps_ret (pe_dc (own := [("name", 1), ("stock", 2)]) (g := (gTupN 2 (gCons (gName 1) (gCons (gName 2) gNil)))) (tt := tYes) rfl sc_stocks_by.nd (pi_tupN (pe_ix ix_tupN (pv 0) pe_int (fun _ _ => rfl))) (blkOk_by (N := N_stocks_by) (sc := (defScope s_stocks_by)) (own := [("name", 1), ("stock", 2)]) (by decide +kernel)) (fun _ _ _ _ _ => (pg_tupN rfl (pgs_cons (pg_name (i := 1) sc_stocks_by.nd rfl (by first | exact Or.inl rfl | exact Or.inr rfl)) (pgs_cons (pg_name (i := 2) sc_stocks_by.nd rfl (by first | exact Or.inl rfl | exact Or.inr rfl)) pgs_nil)))) (fun _ _ _ _ _ => pts_nil) (fun _ _ _ _ _ => (pv 1)) (fun _ _ _ _ _ => (pv 2))))), ?_⟩
    obtain ⟨t, S, rfl, hS, hok, q⟩ := h
    obtain ⟨pa, pb, pc, xs, ys, k1, k2, k3, k4, k5, k6⟩ := hS.ex
    have hlen := plen k3
    have hnp := hok.np
    refine ⟨_, rfl, t, _, _, _, rfl, rfl, k1, atI_nat (j := 0) rfl, pa, rfl, ⟨xs, k2⟩, fun _ => dcTupY k2 (small1000 (by omega)) (fun i acc _ => acc = encK (S.parts.take i)) (fun _ _ _ _ _ h => h) rfl (fun Ky i x acc H1 hx s1 g ky => ?_) (fun D acc H1 hD s1 hA _ g => ?_)⟩
    · obtain ⟨p, hp, t2, rfl, ht2⟩ := pget k3 hx
      refine ⟨t2, _, rfl, s1 _ _ ht2, rfl, _, _, rfl, _, _, rfl, rfl, rfl, _, rfl, _, rfl, ?_⟩
      refine ky (Sum.inr p.1 : Key) _ _ (Same.refl _) ?_
      subst g
      exact enc_next hok.ndp hp
    · subst g
      rw [hlen, List.take_length] at hA
      exact q _ _ ⟨hD, hA, s1⟩
def sp_packs_by : Sp := fun vs H Q _ => ∃ (t : Addr) (S : Shop), vs = [.ref t] ∧ ShopAt H t S ∧ ShopOk S ∧ ∀ p H' kvs, New H p (.dK kvs) H' → PkD H' kvs S.packs → Q (.ref p) H'
/-! ### packs_by: 0 shop, 1 pack -/
abbrev N_packs_by : List Str := ["shop", "pack"]
theorem sc_packs_by : FnScope N_packs_by ["shop"] (defScope s_packs_by) := ⟨rfl, rfl, rfl, by decide +kernel, rfl, by decide +kernel, by decide +kernel⟩
theorem ok_packs_by (T : Tx K mg) : OkF P w K mg base "packs_by" 1 ["shop"] [] sp_packs_by := by
  refine okF_mk d_packs_by T (fn_mem 12 rfl) rfl rfl sc_packs_by (fun _ _ _ _ _ _ us hl => match us, hl with | [_], _ => rfl) (fun vs H Q E h => ?_) (fun f cdv A outer s H vs Q E hr h => ?_)
  · first | (obtain ⟨_, rfl, _⟩ := h; rfl) | (obtain ⟨_, _, rfl, _⟩ := h; rfl) | (obtain ⟨_, _, _, rfl, _⟩ := h; rfl) | (obtain ⟨_, _, _, _, rfl, _⟩ := h; rfl) | (obtain ⟨_, _, _, _, _, rfl, _⟩ := h; rfl) | (obtain ⟨_, _, _, _, _, _, rfl, _⟩ := h; rfl) | (obtain ⟨_, _, _, _, _, _, _, rfl, _⟩ := h; rfl)
  · have hu := hu_of hr
    have hu65 := hu65_of hr
    refine ⟨_, (pss_one (ps_ret (pe_dc (own := [("pack", 1)]) (g := (gName 1)) (tt := tYes) rfl sc_packs_by.nd (pi_tupN (pe_ix ix_tupN (pv 0) pe_int (fun _ _ => rfl))) (blkOk_by (N := N_packs_by) (sc := (defScope s_packs_by)) (own := [("pack", 1)]) (by decide +kernel)) (fun _ _ _ _ _ => (pg_name (i := 1) sc_packs_by.nd rfl (by first | exact Or.inl rfl | exact Or.inr rfl))) (fun _ _ _ _ _ => pts_nil) (fun _ _ _ _ _ => (pe_ix ix_tupN (pv 1) pe_int (fun _ _ => rfl))) (fun _ _ _ _ _ => (pv 1))))), ?_⟩
    obtain ⟨t, S, rfl, hS, hok, q⟩ := h
    obtain ⟨pa, pb, pc, xs, ys, k1, k2, k3, k4, k5, k6⟩ := hS.ex
    have hlen := plen k6
    have hnk := hok.nk
    refine ⟨_, rfl, t, _, _, _, rfl, rfl, k1, atI_nat (j := 2) rfl, pc, rfl, ⟨ys, k5⟩, fun _ => dcTupY k5 (small1000 (by omega)) (fun i acc H => PkD H acc (S.packs.take i)) (fun _ _ _ _ k h => h.tk k) .nil (fun Ky i x acc H1 hx s1 g ky => ?_) (fun D acc H1 hD s1 hA _ g => ?_)⟩
    · obtain ⟨p, hp, ip⟩ := pget k6 hx
      obtain ⟨t2, u, zs, rfl, ht2, hu2, hz2⟩ := id ip
      refine ⟨rfl, _, rfl, t2, _, _, _, rfl, rfl, s1 _ _ ht2, atI_nat (j := 0) rfl, _, rfl, ?_⟩
      refine ky (Sum.inr p.name : Key) _ _ (Same.refl _) ?_
      rw [putK_new, take_next hp]
      · exact papp g (.cons ⟨rfl, ip.tk (tk_of s1)⟩ .nil)
      · intro hm
        have e : (S.packs.map (·.name))[i]? = some p.name := by rw [List.getElem?_map, hp]; rfl
        have := pkd_mem g hm
        rw [List.map_take] at this
        exact nodup_next hok.ndk e this
    · rw [hlen, List.take_length] at g
      exact q _ _ _ ⟨hD, hA, s1⟩ g
end K57
namespace K57
open PySem PySem.Spec PyProof.Rows L2
variable {P : Program} {w : World} {K : PySem.W.Frag} {mg : Str → Option Value} {base : Heap}
def sp_left_by : Sp := fun vs H Q _ => ∃ (t ak : Addr) (S : Shop) (al : List (Str × Int)) (A : Str → Int), vs = [.ref t, .ref ak] ∧ ShopAt H t S ∧ ShopOk S ∧ H ak = some (.dK (encK al)) ∧ (∀ x ∈ arts S, getL al x = some (A x)) ∧
  ∀ p H', New H p (.dK (encK (S.parts.map fun p => (p.1, p.2 - A p.1)))) H' → Q (.ref p) H'
/-! ### left_by: 0 shop, 1 asks, 2 name, 3 stock -/
abbrev N_left_by : List Str := ["shop", "asks", "name", "stock"]
theorem sc_left_by : FnScope N_left_by ["shop", "asks"] (defScope s_left_by) := ⟨rfl, rfl, rfl, by decide +kernel, rfl, by decide +kernel, by decide +kernel⟩
theorem ok_left_by (T : Tx K mg) : OkF P w K mg base "left_by" 2 ["shop", "asks"] [] sp_left_by := by
  have O_stocks_by : OkF P w K mg base "stocks_by" 1 ["shop"] [] sp_stocks_by := ok_stocks_by T
  refine okF_mk d_left_by T (fn_mem 16 rfl) rfl rfl sc_left_by (fun _ _ _ _ _ _ us hl => match us, hl with | [_, _], _ => rfl) (fun vs H Q E h => ?_) (fun f cdv A outer s H vs Q E hr h => ?_)
  · first | (obtain ⟨_, rfl, _⟩ := h; rfl) | (obtain ⟨_, _, rfl, _⟩ := h; rfl) | (obtain ⟨_, _, _, rfl, _⟩ := h; rfl) | (obtain ⟨_, _, _, _, rfl, _⟩ := h; rfl) | (obtain ⟨_, _, _, _, _, rfl, _⟩ := h; rfl) | (obtain ⟨_, _, _, _, _, _, rfl, _⟩ := h; rfl) | (obtain ⟨_, _, _, _, _, _, _, rfl, _⟩ := h; rfl)
  · have hu := hu_of hr
    have hu65 := hu65_of hr
    refine ⟨_, (pss_one (ps_ret ((pe_dc (own := [("name", 2), ("stock", 3)]) (g := (gTupN 2 (gCons (gName 2) (gCons (gName 3) gNil)))) (tt := tYes) rfl sc_left_by.nd (pi_items (pe_frz (pe_callO O_stocks_by hr (pa_cons (pv 0) pa_nil)))) (blkOk_by (N := N_left_by) (sc := (defScope s_left_by)) (own := [("name", 2), ("stock", 3)]) (by decide +kernel)) (fun _ _ _ _ _ => (pg_tupN rfl (pgs_cons (pg_name (i := 2) sc_left_by.nd rfl (by first | exact Or.inl rfl | exact Or.inr rfl)) (pgs_cons (pg_name (i := 3) sc_left_by.nd rfl (by first | exact Or.inl rfl | exact Or.inr rfl)) pgs_nil)))) (fun _ _ _ _ _ => pts_nil) (fun _ _ _ _ _ => (pv 2)) (fun _ _ _ _ _ => (pe_op op_sub (pv 3) (pe_dget hu (pv 1) (pv 2) (fun _ _ => rfl)))))))), ?_⟩
    obtain ⟨t, ak, S, al, A, rfl, hS, hok, hA, hal, q⟩ := h
    have hnp := hok.np
    refine ⟨_, rfl, t, S, rfl, hS, hok, fun p H1 n1 => ?_⟩
    refine ⟨p, _, rfl, n1.at_, trivial, fun od => ?_⟩
    have s2 : Same H (upd H1 p (.frz od (.dK (encK S.parts)))) := same_updN n1.same n1.none_
    have nd2 : ((S.parts.map fun p => (p.1, p.2 - A p.1)).map (·.1)).Nodup := by rw [List.map_map]; exact hok.ndp
    refine ⟨p, od, _, rfl, upd_same, dcItemsY (kvs0 := encK S.parts) upd_same (by rw [encK_len]; exact small1000 (by omega)) (fun i acc _ => acc = encK ((S.parts.map fun p => (p.1, p.2 - A p.1)).take i)) (fun _ _ _ _ _ h => h) rfl (fun Ky i key v T acc H2 hx hT s3 g ky => ?_) (fun D acc H2 hD s3 hA2 _ g => ?_)⟩
    · obtain ⟨q2, hq2, rfl, rfl⟩ := enc_get hx
      have hm : q2.1 ∈ arts S := List.mem_append_left _ (List.mem_map_of_mem (List.mem_of_getElem? hq2))
      refine ⟨T, _, rfl, hT, rfl, _, _, rfl, _, _, rfl, rfl, rfl, _, rfl, _, rfl, _, rfl, _, rfl, ak, _, rfl, dgetL (s3 _ _ (s2 _ _ hA)) (hal _ hm), _, _, rfl, rfl, ?_⟩
      refine ky (Sum.inr q2.1 : Key) _ _ (Same.refl _) ?_
      subst g
      exact enc_next nd2 (by rw [List.getElem?_map, hq2]; rfl)
    · subst g
      rw [encK_len, List.take_of_length_le (by rw [List.length_map]; exact Nat.le_refl _)] at hA2
      exact q _ _ ⟨none_same s2 hD, hA2, s2.trans s3⟩
def sp_row_with : Sp := fun vs H Q _ => ∃ (a : Addr) (l : List (Str × Int)) (z : Str) (n : Int), vs = [.ref a, .str z, .int n] ∧ RowF H a l ∧ (l.map (·.1)).Nodup ∧ (∀ p ∈ l, 1 ≤ p.2) ∧ l.length < 1000000 ∧ 1 ≤ n ∧
  ∀ p H' l', Same H H' → RowF H' p l' → (l'.map (·.1)).Nodup → (∀ p ∈ l', 1 ≤ p.2 ∧ (p.1 = z ∨ p.1 ∈ l.map (·.1))) → l'.length ≤ l.length + 1 → (∀ x, cnt l' x = cnt l x + if z = x then n else 0) → Q (.ref p) H'
/-! ### row_with: 0 sales, 1 article, 2 number, 3 numbers, 4 name -/
abbrev N_row_with : List Str := ["sales", "article", "number", "numbers", "name"]
theorem sc_row_with : FnScope N_row_with ["sales", "article", "number"] (defScope s_row_with) := ⟨rfl, rfl, rfl, by decide +kernel, rfl, by decide +kernel, by decide +kernel⟩
theorem ok_row_with (T : Tx K mg) : OkF P w K mg base "row_with" 1 ["sales", "article", "number"] [] sp_row_with := by
  refine okF_mk d_row_with T (fn_mem 17 rfl) rfl rfl sc_row_with (fun _ _ _ _ _ _ us hl => match us, hl with | [_, _, _], _ => rfl) (fun vs H Q E h => ?_) (fun f cdv A outer s H vs Q E hr h => ?_)
  · first | (obtain ⟨_, rfl, _⟩ := h; rfl) | (obtain ⟨_, _, rfl, _⟩ := h; rfl) | (obtain ⟨_, _, _, rfl, _⟩ := h; rfl) | (obtain ⟨_, _, _, _, rfl, _⟩ := h; rfl) | (obtain ⟨_, _, _, _, _, rfl, _⟩ := h; rfl) | (obtain ⟨_, _, _, _, _, _, rfl, _⟩ := h; rfl) | (obtain ⟨_, _, _, _, _, _, _, rfl, _⟩ := h; rfl)
  · have hu := hu_of hr
    have hu65 := hu65_of hr
    refine ⟨_, (pss_cons (ps_set (i := 3) sc_row_with.nd rfl (by first | exact Or.inl rfl | exact Or.inr rfl) (pe_callTy (call_dictT rfl) (by rfl) T.m_dict b_dict (pa_cons (pv 0) pa_nil)))
      (pss_cons (ps_dput hu (pv 3) (pv 1) (pe_op op_add (pe_dget2 hu (pv 3) (pv 1) pe_int (by constructor <;> rfl)) (pv 2)) rfl)
      (pss_one (ps_ret (pe_callTy call_tuple_ofF (by rfl) T.m_tuple b_tuple (pa_cons (pe_lc (own := [("name", 4)]) (g := (gName 4)) rfl sc_row_with.nd (pi_lstN (pe_callB (cr_sortN hu65) (by rfl) T.m_sorted b_sorted (pa_cons (pe_callTy (call_list_dKN rfl) (by rfl) T.m_list b_list (pa_cons (pv 3) pa_nil)) pa_nil))) (blkOk_by (N := N_row_with) (sc := (defScope s_row_with)) (own := [("name", 4)]) (by decide +kernel)) (fun _ _ _ _ _ => (pg_name (i := 4) sc_row_with.nd rfl (by first | exact Or.inl rfl | exact Or.inr rfl))) (fun _ _ _ _ _ => pts_one (pt_cmpR op_gt (pe_dget hu (pv 3) (pv 4) (fun _ _ => rfl)) pe_int (by first | exact nomark _ | rfl))) (fun _ _ _ _ _ => (pe_tupN (pa_cons (pv 4) (pa_cons (pe_dget hu (pv 3) (pv 4) (fun _ _ => rfl)) pa_nil))))) pa_nil)))))), ?_⟩
    obtain ⟨a, l, z, n, rfl, ⟨xs, hF, hx⟩, nd, hpos, hl, hn, q⟩ := h
    obtain ⟨ps, rfl, hps⟩ : ∃ ps : List Addr, xs = ps.map V.ref ∧ Paired (fun p kv => H p = some (.tup [kV kv.1, kv.2])) ps (encK l) := by
      clear hF q hl hpos nd
      induction hx with
      | nil => exact ⟨[], rfl, .nil⟩
      | @cons x p xs l r t ih =>
        obtain ⟨ps, e, h⟩ := ih
        obtain ⟨u, rfl, hu⟩ := r
        exact ⟨u :: ps, by rw [e]; rfl, .cons hu h⟩
    refine ⟨_, rfl, a, ps, encK l, rfl, hF, hps, fun p1 H1 n1 => ?_⟩
    have hp1 := n1.at_
    rw [merge_enc0 l nd] at hp1
    refine ⟨_, rfl, p1, rfl, .inl ⟨_, .inl hp1⟩, _, rfl, _, dgetLo hp1, _, rfl, ?_⟩
    have ev : ((getL l z).map V.int).getD (.int 0) = .int (cnt l z) := by
      rw [← getL_cnt l z nd]
      cases getL l z <;> rfl
    refine ⟨_, _, ev, rfl, _, rfl, _, rfl, ?_⟩
    obtain ⟨H2, dp, m2⟩ := dputL z (cnt l z + n) hp1 nd (by unfold sizeLine; omega)
    refine ⟨p1, H2, rfl, dp, ?_⟩
    have s2 : Same H H2 := m2.same n1.same n1.none_
    have nd2 := putL_nodup l z (cnt l z + n) nd
    have len2 := putL_len l z (cnt l z + n)
    have pos2 : ∀ p ∈ putL l z (cnt l z + n), 1 ≤ p.2 := fun p hp => by
      have h1 := getL_of_mem nd2 (x := p.1) (v := p.2) hp
      rw [getL_put] at h1
      by_cases e : p.1 = z
      · rw [if_pos e] at h1
        have h2 : cnt l z + n = p.2 := Option.some.inj h1
        have h3 : 0 ≤ cnt l z := cnt_nonneg fun q hq => by have := hpos q hq; omega
        omega
      · rw [if_neg e] at h1
        exact hpos (p.1, p.2) (getL_mem h1)
    have hp2 := m2.at_
    revert nd2 len2 pos2 hp2
    have hcn : ∀ x, cnt (putL l z (cnt l z + n)) x = cnt l x + if z = x then n else 0 := fun x => by
      rw [cnt_put _ _ _ _ nd]
      by_cases e : x = z
      · rw [if_pos e, if_pos e.symm, e]
      · rw [if_neg e, if_neg fun h => e h.symm, Int.add_zero]
    have hmm : ∀ y, y ∈ (putL l z (cnt l z + n)).map (·.1) → y = z ∨ y ∈ l.map (·.1) := fun y h => (putL_mem _ _ _ _).mp h
    revert hcn hmm
    generalize putL l z (cnt l z + n) = m
    intro hcn hmm nd2 len2 pos2 hp2
    refine ⟨_, rfl, p1, _, rfl, hp2, fun p3 H3 n3 => ?_⟩
    have h3 := n3.at_
    rw [enc_keys] at h3
    refine ⟨p3, _, (m.map (·.1)).map PyData.str, rfl, h3, strs_dt _, strs_alike _, strs_sortable _, strs_depth _, fun zs p4 H4 pz sz n4 => ?_⟩
    obtain ⟨ks, kp, ke, _⟩ := sorted_of (F := IsS) (d := PyData.str) (isS_map _) pz sz
    have ke := isS_eq ke
    have h4 := n4.at_
    rw [ke] at h4
    have s4 : Same H2 H4 := n3.same.trans n4.same
    have hmem : ∀ k ∈ ks, ∃ v, getL m k = some v ∧ 1 ≤ v := fun k hk => by
      obtain ⟨v, hv⟩ := getL_some (kp.mem_iff.mp hk)
      exact ⟨v, hv, pos2 _ (getL_mem hv)⟩
    have hlk : ks.length = m.length := by rw [kp.length_eq, List.length_map]
    have hpg := perm_get nd2 kp
    refine ⟨p4, rfl, ⟨_, h4⟩, fun _ => lcLst h4 (by rw [List.length_map]; unfold sizeLine; omega) (fun i acc H => Paired (IsP H) acc ((ks.map fun k => (k, (getL m k).getD 0)).take i)) (fun _ _ _ _ k h => pimp (fun _ _ z => z.tk k) h) .nil (fun Ky Kn i x acc H5 hx5 s5 g ky kn => ?_) (fun D acc H5 hD5 s5 hA5 _ g => ?_)⟩
    · rw [List.getElem?_map] at hx5
      obtain ⟨k, hk, rfl⟩ := Option.map_eq_some_iff.mp hx5
      obtain ⟨v, hv, hv1⟩ := hmem k (List.mem_of_getElem? hk)
      have hd := s5 _ _ (s4 _ _ hp2)
      refine ⟨rfl, _, rfl, _, rfl, p1, _, rfl, dgetL hd hv, _, _, rfl, rfl, ?_⟩
      refine ⟨true, congrArg V.bl (decide_eq_true (show (0 : Int) < v by omega)), ?_⟩
      refine iteT ?_
      refine ⟨_, rfl, _, rfl, _, rfl, p1, _, rfl, dgetL hd hv, sz2, fun p6 H6 n6 => ?_⟩
      refine ky _ _ n6.same ?_
      have e5 : (ks.map fun k => (k, (getL m k).getD 0))[i]? = some (k, v) := by rw [List.getElem?_map, hk]; show some (k, (getL m k).getD 0) = _; rw [hv]; rfl
      rw [take_next e5]
      exact papp (pimp (fun _ _ z => z.tk (tk_of n6.same)) g) (.cons ⟨p6, rfl, n6.at_⟩ .nil)
    · refine ⟨D, acc, rfl, hA5, fun p6 H6 e6 s6 f6 => ?_⟩
      rw [List.length_map, List.take_of_length_le (by rw [List.length_map]; exact Nat.le_refl _)] at g
      refine q p6 H6 (ks.map fun k => (k, (getL m k).getD 0)) (s2.trans (s4.trans (s5.trans s6))) ⟨acc, f6, pimp (fun _ _ z => z.tk (tk_of s6)) g⟩ ?_ (fun p hp => ?_) (by rw [List.length_map, hlk]; exact len2) fun x => ?_
      · rw [List.map_map]
        have : ks.map ((fun p : Str × Int => p.1) ∘ fun k => (k, (getL m k).getD 0)) = ks := by
          have e : ((fun p : Str × Int => p.1) ∘ fun k => (k, (getL m k).getD 0)) = id := rfl
          rw [e, List.map_id]
        rw [this]
        exact kp.nodup_iff.mpr nd2
      · have hp := hpg.mem_iff.mp hp
        exact ⟨pos2 p hp, hmm _ (List.mem_map_of_mem hp)⟩
      · rw [cnt_perm hpg, hcn]
end K57
namespace K57
open PySem PySem.Spec PyProof.Rows L2
variable {P : Program} {w : World} {K : PySem.W.Frag} {mg : Str → Option Value} {base : Heap}
def sp_rows_together : Sp := fun vs H Q _ => ∃ (a b : Addr) (l m : List (Str × Int)), vs = [.ref a, .ref b] ∧ RowF H a l ∧ (l.map (·.1)).Nodup ∧ (∀ p ∈ l, 1 ≤ p.2) ∧ RowAt H b m ∧ (∀ p ∈ m, 1 ≤ p.2) ∧ l.length + m.length < 1000000 ∧
  ∀ p H' l', Same H H' → RowF H' p l' → (l'.map (·.1)).Nodup → (∀ p ∈ l', 1 ≤ p.2 ∧ (p.1 ∈ m.map (·.1) ∨ p.1 ∈ l.map (·.1))) → l'.length ≤ l.length + m.length → (∀ x, cnt l' x = cnt l x + cnt m x) → Q (.ref p) H'
/-! ### rows_together: 0 sales, 1 late, 2 found, 3 article, 4 number -/
abbrev N_rows_together : List Str := ["sales", "late", "found", "article", "number"]
theorem sc_rows_together : FnScope N_rows_together ["sales", "late"] (defScope s_rows_together) := ⟨rfl, rfl, rfl, by decide +kernel, rfl, by decide +kernel, by decide +kernel⟩
theorem ok_rows_together (T : Tx K mg) : OkF P w K mg base "rows_together" 2 ["sales", "late"] [] sp_rows_together := by
  have O_row_with : OkF P w K mg base "row_with" 1 ["sales", "article", "number"] [] sp_row_with := ok_row_with T
  refine okF_mk d_rows_together T (fn_mem 18 rfl) rfl rfl sc_rows_together (fun _ _ _ _ _ _ us hl => match us, hl with | [_, _], _ => rfl) (fun vs H Q E h => ?_) (fun f cdv A outer s H vs Q E hr h => ?_)
  · first | (obtain ⟨_, rfl, _⟩ := h; rfl) | (obtain ⟨_, _, rfl, _⟩ := h; rfl) | (obtain ⟨_, _, _, rfl, _⟩ := h; rfl) | (obtain ⟨_, _, _, _, rfl, _⟩ := h; rfl) | (obtain ⟨_, _, _, _, _, rfl, _⟩ := h; rfl) | (obtain ⟨_, _, _, _, _, _, rfl, _⟩ := h; rfl) | (obtain ⟨_, _, _, _, _, _, _, rfl, _⟩ := h; rfl)
  · have hu := hu_of hr
    have hu65 := hu65_of hr
    refine ⟨_, (pss_cons (ps_set (i := 2) sc_rows_together.nd rfl (by first | exact Or.inl rfl | exact Or.inr rfl) (pv 0))
      (pss_cons (ps_for PassesOwn.never rfl (pi_tupN (pv 1)) (pg_tupN rfl (pgs_cons (pg_name (i := 3) sc_rows_together.nd rfl (by first | exact Or.inl rfl | exact Or.inr rfl)) (pgs_cons (pg_name (i := 4) sc_rows_together.nd rfl (by first | exact Or.inl rfl | exact Or.inr rfl)) pgs_nil)))
        (pss_one (ps_set (i := 2) sc_rows_together.nd rfl (by first | exact Or.inl rfl | exact Or.inr rfl) (pe_callO O_row_with hr (pa_cons (pv 2) (pa_cons (pv 3) (pa_cons (pv 4) pa_nil)))))))
      (pss_one (ps_ret (pv 2))))), ?_⟩
    obtain ⟨a, b, l, m, rfl, hF, nd, hpos, ⟨ys, hb, hy⟩, hm, hl, q⟩ := h
    have hlen := plen hy
    refine ⟨_, rfl, ?_⟩
    refine ⟨_, rfl, b, rfl, ⟨_, hb⟩, fun _ => forT (fun i σ H' => ∃ x3 x4 p l', σ = [some (.ref a), some (.ref b), some (.ref p), x3, x4] ∧ Same H H' ∧ RowF H' p l' ∧ (l'.map (·.1)).Nodup ∧ (∀ p ∈ l', 1 ≤ p.2 ∧ (p.1 ∈ m.map (·.1) ∨ p.1 ∈ l.map (·.1))) ∧ l'.length ≤ l.length + i ∧ ∀ x, cnt l' x = cnt l x + cnt (m.take i) x)
      ⟨none, none, a, l, rfl, Same.refl _, hF, nd, fun p hp => ⟨hpos p hp, .inr (List.mem_map_of_mem hp)⟩, Nat.le_refl _, fun x => (Int.add_zero _).symm⟩
      (fun i σ H' _ ⟨_, _, _, _, _, s, _⟩ => s _ _ hb) (fun i x σ H' hx ⟨x3, x4, p, l', e, s, hF', nd', hp', hl', hc'⟩ => ?_) (fun σ H' ⟨x3, x4, p, l', e, s, hF', nd', hp', hl', hc'⟩ => ?_)⟩
    · subst e
      obtain ⟨z, hz, t2, rfl, ht2⟩ := pget hy hx
      have hzm := List.mem_of_getElem? hz
      have hi : i < m.length := by
        rcases Nat.lt_or_ge i m.length with y | y
        · exact y
        · rw [List.getElem?_eq_none y] at hz; cases hz
      refine ⟨t2, _, rfl, s _ _ ht2, rfl, _, _, rfl, _, _, rfl, rfl, ?_⟩
      refine ⟨_, rfl, _, rfl, _, rfl, p, l', z.1, z.2, rfl, hF', nd', fun q hq => (hp' q hq).1, by omega, hm z hzm, fun p2 H2 l2 s2 f2 nd2 hp2 hl2 hc2 => ?_⟩
      refine ⟨_, _, p2, l2, rfl, s.trans s2, f2, nd2, fun q hq => ⟨(hp2 q hq).1, ?_⟩, by omega, fun x => ?_⟩
      · rcases (hp2 q hq).2 with e | e
        · rw [e]; exact .inl (List.mem_map_of_mem hzm)
        · obtain ⟨q2, hq2, e2⟩ := List.mem_map.mp e
          rw [← e2]
          exact (hp' q2 hq2).2
      · rw [hc2 x, hc' x, take_next hz, cnt_append]
        show _ = _ + (_ + (_ + 0))
        omega
    · subst e
      rw [hlen, List.take_length] at hc'
      refine ⟨_, rfl, ?_⟩
      exact q p H' l' s hF' nd' hp' (by rw [hlen] at hl'; exact hl') hc'
theorem yesT0 {σ : L2.St} {H : Hp} {Q : Bool → Hp → Prop} (h : Q true H) : tYes σ H Q := h
theorem filt_next {α : Type} {l : List α} {i : Nat} {x : α} (f : α → Bool) (h : l[i]? = some x) : (l.take (i + 1)).filter f = (l.take i).filter f ++ if f x = true then [x] else [] := by
  rw [take_next h, List.filter_append]
  cases e : f x <;> simp [List.filter_cons, e]
def inner (rs : List (Pk Str)) : List Str := (rs.flatMap (·.sheet)).map (·.1)
theorem inner_next {rs : List (Pk Str)} {i : Nat} {p : Pk Str} (h : rs[i]? = some p) : inner (rs.take (i + 1)) = inner (rs.take i) ++ p.sheet.map (·.1) := by
  unfold inner
  rw [take_next h, List.flatMap_append, List.map_append]
  simp
theorem inner_mem {rs : List (Pk Str)} {x : Str} : x ∈ inner rs ↔ ∃ p ∈ rs, ∃ z ∈ p.sheet, z.1 = x := by
  unfold inner
  rw [List.mem_map]
  constructor
  · rintro ⟨z, hz, e⟩
    obtain ⟨p, hp, hz⟩ := List.mem_flatMap.mp hz
    exact ⟨p, hp, z, hz, e⟩
  · rintro ⟨p, hp, z, hz, e⟩
    exact ⟨z, List.mem_flatMap.mpr ⟨p, hp, hz⟩, e⟩
theorem inner_len : ∀ {rs : List (Pk Str)}, (∀ p ∈ rs, p.sheet.length ≤ 5) → (inner rs).length ≤ 5 * rs.length
  | [], _ => Nat.le_refl _
  | p :: rs, h => by
    have h1 := h p List.mem_cons_self
    have h2 := inner_len (rs := rs) fun q hq => h q (List.mem_cons_of_mem _ hq)
    unfold inner at h2 ⊢
    rw [List.flatMap_cons, List.map_append, List.length_append, List.length_map, List.length_cons]
    omega
theorem has_top {rk : Str → Nat} : ∀ {rs : List (Pk Str)}, rs ≠ [] → ∃ p ∈ rs, ∀ q ∈ rs, rk q.name ≤ rk p.name
  | [], h => absurd rfl h
  | [p], _ => ⟨p, List.mem_cons_self, fun q hq => by rw [List.mem_singleton.mp hq]; exact Nat.le_refl _⟩
  | p :: q :: rs, _ => by
    obtain ⟨t, ht, h⟩ := has_top (rk := rk) (rs := q :: rs) (by simp)
    rcases Nat.le_total (rk t.name) (rk p.name) with c | c
    · refine ⟨p, List.mem_cons_self, fun z hz => ?_⟩
      rcases List.mem_cons.mp hz with e | hz
      · rw [e]; exact Nat.le_refl _
      · exact Nat.le_trans (h z hz) c
    · refine ⟨t, List.mem_cons_of_mem _ ht, fun z hz => ?_⟩
      rcases List.mem_cons.mp hz with e | hz
      · rw [e]; exact c
      · exact h z hz
def NoNm (p q : Pk Str) : Prop := ∀ z ∈ q.sheet, z.1 ≠ p.name
/-- packs found, packs left -/
structure Split (S : Shop) (fs rs : List (Pk Str)) : Prop where
  perm : (fs ++ rs).Perm S.packs
  up : fs.Pairwise NoNm
  cross : ∀ p ∈ fs, ∀ q ∈ rs, NoNm p q
theorem Split.step {S : Shop} {fs rs : List (Pk Str)} (h : Split S fs rs) (f : Pk Str → Bool) (hf : ∀ p, f p = decide (p.name ∈ inner rs)) : Split S (fs ++ rs.filter (fun p => !f p)) (rs.filter f) := by
  have out : ∀ p ∈ rs.filter (fun p => !f p), p ∈ rs ∧ ∀ q ∈ rs, NoNm p q := fun p hp => by
    obtain ⟨h1, h2⟩ := List.mem_filter.mp hp
    rw [hf] at h2
    refine ⟨h1, fun q hq z hz e => ?_⟩
    have : p.name ∈ inner rs := inner_mem.mpr ⟨q, hq, z, hz, e⟩
    rw [decide_eq_true this] at h2
    cases h2
  refine ⟨?_, ?_, ?_⟩
  · refine List.Perm.trans ?_ h.perm
    rw [List.append_assoc]
    refine List.Perm.append_left _ ?_
    exact (List.perm_append_comm).trans (List.filter_append_perm f rs)
  · rw [List.pairwise_append]
    refine ⟨h.up, ?_, fun p hp q hq => h.cross p hp q (out q hq).1⟩
    exact List.Pairwise.imp_of_mem (R := fun _ _ => True) (fun {a b} ha hb _ => (out a ha).2 b (out b hb).1) (List.pairwise_of_forall fun _ _ => trivial)
  · intro p hp q hq
    have hq := (List.mem_filter.mp hq).1
    rcases List.mem_append.mp hp with h1 | h1
    · exact h.cross p h1 q hq
    · exact (out p h1).2 q hq
theorem Split.less {S : Shop} {fs rs : List (Pk Str)} (hS : ShopOk S) (h : Split S fs rs) (f : Pk Str → Bool) (hf : ∀ p, f p = decide (p.name ∈ inner rs)) (hne : rs ≠ []) : (rs.filter f).length < rs.length := by
  obtain ⟨rk, W, _⟩ := hS.rk
  obtain ⟨p, hp, ht⟩ := has_top (rk := rk) hne
  refine List.length_filter_lt_length_iff_exists.mpr ⟨p, hp, ?_⟩
  rw [hf, decide_eq_false]
  · decide
  · intro hm
    obtain ⟨q, hq, z, hz, e⟩ := inner_mem.mp hm
    have hq' : q ∈ S.packs := h.perm.mem_iff.mp (List.mem_append_right _ hq)
    have h1 := W.rank q hq' z hz
    have h2 := ht q hq
    rw [e] at h1
    omega
def sp_outer_names : Sp := fun vs H Q _ => ∃ (t : Addr) (S : Shop), vs = [.ref t] ∧ ShopAt H t S ∧ ShopOk S ∧ ∀ (ord : List (Pk Str)) p H', ord.Perm S.packs → ord.Pairwise NoNm → New H p (.lst ((ord.map (·.name)).map V.str)) H' → Q (.ref p) H'
/-! ### outer_names: 0 shop, 1 rest, 2 found, 3 inner, 4 pack, 5 name, 6 count -/
abbrev N_outer_names : List Str := ["shop", "rest", "found", "inner", "pack", "name", "count"]
theorem sc_outer_names : FnScope N_outer_names ["shop"] (defScope s_outer_names) := ⟨rfl, rfl, rfl, by decide +kernel, rfl, by decide +kernel, by decide +kernel⟩
theorem ok_outer_names (T : Tx K mg) : OkF P w K mg base "outer_names" 1 ["shop"] [] sp_outer_names := by
  refine okF_mk d_outer_names T (fn_mem 13 rfl) rfl rfl sc_outer_names (fun _ _ _ _ _ _ us hl => match us, hl with | [_], _ => rfl) (fun vs H Q E h => ?_) (fun f cdv A outer s H vs Q E hr h => ?_)
  · first | (obtain ⟨_, rfl, _⟩ := h; rfl) | (obtain ⟨_, _, rfl, _⟩ := h; rfl) | (obtain ⟨_, _, _, rfl, _⟩ := h; rfl) | (obtain ⟨_, _, _, _, rfl, _⟩ := h; rfl) | (obtain ⟨_, _, _, _, _, rfl, _⟩ := h; rfl) | (obtain ⟨_, _, _, _, _, _, rfl, _⟩ := h; rfl) | (obtain ⟨_, _, _, _, _, _, _, rfl, _⟩ := h; rfl)
  · have hu := hu_of hr
    have hu65 := hu65_of hr
    refine ⟨_, (pss_cons (ps_par (i := 1) (j := 2) rfl sc_outer_names.nd rfl rfl (by decide) rfl rfl (pa_cons (pe_callTy call_list_ofN (by rfl) T.m_list b_list (pa_cons (pe_ix ix_tupN (pv 0) pe_int (fun _ _ => rfl)) pa_nil)) (pa_cons (pe_lstN pa_nil) pa_nil)) (by rfl))
      (pss_cons (ps_while PassesOwn.never (pt_cmpR op_gt (pe_callB call_len_seqN (by rfl) T.m_len b_len (pa_cons (pv 1) pa_nil)) pe_int (by first | exact nomark _ | rfl))
        (pss_cons (ps_set (i := 3) sc_outer_names.nd rfl (by first | exact Or.inl rfl | exact Or.inr rfl) (pe_lc2 (own := [("pack", 4), ("name", 5), ("count", 6)]) (vs1 := [5, 6]) (g := (gName 4)) (g1 := (gTupN 2 (gCons (gName 5) (gCons (gName 6) gNil)))) (tt := tYes) (tt1 := tYes) rfl sc_outer_names.nd (pi_lstN (pv 1)) (blkOk_by (N := N_outer_names) (sc := (defScope s_outer_names)) (own := [("pack", 4), ("name", 5), ("count", 6)]) (by decide +kernel)) (by decide) (fun _ _ _ _ _ => (pg_name (i := 4) sc_outer_names.nd rfl (by first | exact Or.inl rfl | exact Or.inr rfl))) (fun _ _ _ _ _ => pts_nil) (fun _ _ _ _ _ => (pi_tupN (pe_ix ix_tupN (pv 4) pe_int (fun _ _ => rfl)))) (fun _ _ _ _ _ => (pg_tupN rfl (pgs_cons (pg_name (i := 5) sc_outer_names.nd rfl (by first | exact Or.inl rfl | exact Or.inr rfl)) (pgs_cons (pg_name (i := 6) sc_outer_names.nd rfl (by first | exact Or.inl rfl | exact Or.inr rfl)) pgs_nil)))) (fun _ _ _ _ _ => pts_nil) (fun _ _ _ _ _ => (pv 5))))
        (pss_cons (ps_set (i := 2) sc_outer_names.nd rfl (by first | exact Or.inl rfl | exact Or.inr rfl) (pe_op op_catN (pv 2) (pe_lc (own := [("pack", 4)]) (g := (gName 4)) rfl sc_outer_names.nd (pi_lstN (pv 1)) (blkOk_by (N := N_outer_names) (sc := (defScope s_outer_names)) (own := [("pack", 4)]) (by decide +kernel)) (fun _ _ _ _ _ => (pg_name (i := 4) sc_outer_names.nd rfl (by first | exact Or.inl rfl | exact Or.inr rfl))) (fun _ _ _ _ _ => pts_one (pt_cmpR op_notInN (pe_ix ix_tupN (pv 4) pe_int (fun _ _ => rfl)) (pv 3) (by first | exact nomark _ | rfl))) (fun _ _ _ _ _ => (pe_ix ix_tupN (pv 4) pe_int (fun _ _ => rfl))))))
        (pss_one (ps_setLc (i := 1) (own := [("pack", 4)]) (g := (gName 4)) rfl sc_outer_names.nd rfl rfl (sw_true rfl rfl rfl (by decide +kernel)) (pi_lstN (pv 1)) (blkOk_by (N := N_outer_names) (sc := (defScope s_outer_names)) (own := [("pack", 4)]) (by decide +kernel)) (fun _ _ _ _ _ => (pg_name (i := 4) sc_outer_names.nd rfl (by first | exact Or.inl rfl | exact Or.inr rfl))) (fun _ _ _ _ _ => pts_one (pt_cmpR op_inN (pe_ix ix_tupN (pv 4) pe_int (fun _ _ => rfl)) (pv 3) (by first | exact nomark _ | rfl))) (fun _ _ _ _ _ => (pv 4)))))))
      (pss_one (ps_ret (pv 2))))), ?_⟩
    obtain ⟨t, S, rfl, hS, hok, q⟩ := h
    obtain ⟨pa, pb, pc, xs, ys, k1, k2, k3, k4, k5, k6⟩ := hS.ex
    have hnk := hok.nk
    refine ⟨_, rfl, t, _, _, _, rfl, rfl, k1, atI_nat (j := 2) rfl, pc, ys, rfl, .inr k5, fun ra H1 n1 => ?_⟩
    refine ⟨by decide, fun fa H2 n2 => ?_⟩
    refine ⟨_, _, rfl, ?_⟩
    refine ⟨fun m σ H' => ∃ ra fa rs fs zs x3 x4 x5 x6, σ = [some (.ref t), some (.ref ra), some (.ref fa), x3, x4, x5, x6] ∧ Same H H' ∧ (H' ra = some (.lst zs) ∧ Paired (IsPk H') zs rs) ∧ (H fa = none ∧ H' fa = some (.lst ((fs.map (·.name)).map V.str))) ∧ Split S fs rs ∧ m = rs.length,
      ⟨_, ra, fa, S.packs, [], ys, none, none, none, none, rfl, n1.same.trans n2.same, ⟨n2.same _ _ n1.at_, pimp (fun _ _ z => z.tk (tk_of (n1.same.trans n2.same))) k6⟩, ⟨none_same n1.same n2.none_, n2.at_⟩, ⟨.refl _, .nil, fun p hp => by cases hp⟩, rfl⟩, ?_⟩
    rintro m σ H' ⟨ra, fa, rs, fs, zs, x3, x4, x5, x6, rfl, s0, ⟨hra, hrp⟩, ⟨hf0, hfa⟩, hsp, rfl⟩
    have hlen := plen hrp
    have hmem : ∀ p ∈ rs, p ∈ S.packs := fun p hp => hsp.perm.mem_iff.mp (List.mem_append_right _ hp)
    have hlr : fs.length + rs.length = S.packs.length := by rw [← hsp.perm.length_eq, List.length_append]
    refine ⟨_, rfl, ra, zs, rfl, .inl hra, _, _, rfl, rfl, ?_⟩
    by_cases hz : rs = []
    · subst hz
      have e0 : zs.length = 0 := hlen
      refine ⟨false, congrArg V.bl (decide_eq_false (show ¬ (0 : Int) < (zs.length : Int) by omega)), ?_⟩
      refine iteF (A := _) ?_
      refine ⟨_, rfl, ?_⟩
      have hp := hsp.perm
      rw [List.append_nil] at hp
      exact q fs fa H' hp hsp.up ⟨hf0, hfa, s0⟩
    have hpos : 0 < rs.length := List.length_pos_iff.mpr hz
    refine ⟨true, congrArg V.bl (decide_eq_true (show (0 : Int) < (zs.length : Int) by omega)), ?_⟩
    refine iteT ?_
    refine ⟨fun σ' H'' => ∃ m', m' < rs.length ∧ ∃ ra fa rs fs zs x3 x4 x5 x6, σ' = [some (.ref t), some (.ref ra), some (.ref fa), x3, x4, x5, x6] ∧ Same H H'' ∧ (H'' ra = some (.lst zs) ∧ Paired (IsPk H'') zs rs) ∧ (H fa = none ∧ H'' fa = some (.lst ((fs.map (·.name)).map V.str))) ∧ Split S fs rs ∧ m' = rs.length, fun σ' H'' h => h, ?_⟩
    -- inner
    refine ⟨_, rfl, ra, rfl, ⟨_, hra⟩, fun _ D hD => ?_⟩
    have sizes : ∀ i, (inner (rs.take i)).length ≤ 25 := fun i => by
      have := inner_len (rs := rs.take i) fun p hp => hok.ns p (hmem p (List.mem_of_mem_take hp))
      have h2 : (rs.take i).length ≤ 5 := by rw [List.length_take]; omega
      omega
    refine ⟨fun i m H2 => m = rs.length - i ∧ i ≤ rs.length ∧ Same H' H2 ∧ H2 D = some (.lst ((inner (rs.take i)).map V.str)), ⟨_, rfl, Nat.zero_le _, same_upd hD, upd_same⟩, ?_⟩
    rintro i m H2 ⟨rfl, hi, s2, hD2⟩
    by_cases hlt : i < rs.length
    · obtain ⟨p, hp⟩ : ∃ p, rs[i]? = some p := ⟨_, List.getElem?_eq_getElem hlt⟩
      refine .inr ⟨⟨zs, zs[i]'(by omega), SqL.of (s2 _ _ hra), by simp [hlen, hlt]⟩, fun H3 => Same H' H3 ∧ H3 D = some (.lst ((inner (rs.take (i + 1))).map V.str)), fun H3 h3 => ⟨_, Nat.sub_lt_sub_left hlt (Nat.lt_succ_self i), rfl, hlt, h3.1, h3.2⟩, fun x H3 hy => ?_⟩
      obtain ⟨e3, hx⟩ := hy
      subst e3
      obtain ⟨p', hp', u, w2, vs2, rfl, hu, hw2, hv2⟩ := pget hrp (hx zs (SqL.of (s2 _ _ hra)))
      have ep : p' = p := by rw [hp] at hp'; exact (Option.some.inj hp').symm
      subst ep
      have hl2 := plen hv2
      refine ⟨rfl, ?_⟩
      refine yesT0 ?_
      refine iteT ?_
      refine ⟨_, rfl, u, _, _, _, rfl, rfl, s2 _ _ hu, atI_nat (j := 3) rfl, w2, rfl, ⟨_, s2 _ _ hw2⟩, fun _ => ?_⟩
      refine ⟨fun j k H3 => k = p'.sheet.length - j ∧ j ≤ p'.sheet.length ∧ Same H' H3 ∧ H3 D = some (.lst ((inner (rs.take i) ++ (p'.sheet.take j).map (·.1)).map V.str)), ⟨_, rfl, Nat.zero_le _, s2, by simpa using hD2⟩, ?_⟩
      rintro j k H3 ⟨rfl, hj, s3, hD3⟩
      by_cases hlt2 : j < p'.sheet.length
      · obtain ⟨z, hz2⟩ : ∃ z, p'.sheet[j]? = some z := ⟨_, List.getElem?_eq_getElem hlt2⟩
        refine .inr ⟨⟨vs2, vs2[j]'(by omega), SqT.of (s3 _ _ hw2), by simp [hl2, hlt2]⟩, fun H4 => Same H' H4 ∧ H4 D = some (.lst ((inner (rs.take i) ++ (p'.sheet.take (j + 1)).map (·.1)).map V.str)), fun H4 h4 => ⟨_, Nat.sub_lt_sub_left hlt2 (Nat.lt_succ_self j), rfl, hlt2, h4.1, h4.2⟩, fun x H4 hy => ?_⟩
        obtain ⟨e4, hx4⟩ := hy
        subst e4
        obtain ⟨z', hz', u4, rfl, hu4⟩ := pget hv2 (hx4 vs2 (SqT.of (s3 _ _ hw2)))
        have ez : z' = z := by rw [hz2] at hz'; exact (Option.some.inj hz').symm
        subst ez
        refine ⟨u4, _, rfl, s3 _ _ hu4, rfl, _, _, rfl, _, _, rfl, rfl, rfl, ?_⟩
        refine yesT0 ?_
        refine iteT ?_
        refine ⟨_, rfl, _, hD3, ?_, fun b o hb => ?_, ?_⟩
        · have h1 := sizes i
          have h2 := hok.ns p' (hmem p' (List.mem_of_getElem? hp))
          rw [List.length_map, List.length_append, List.length_map, List.length_take]
          exact small1000 (by omega)
        · rw [upd_ne (ne_of_none hb hD)]; exact s3 _ _ hb
        · rw [upd_same, take_next hz2, List.map_append, List.map_append, List.map_append, List.append_assoc]
          simp
      · have e : j = p'.sheet.length := by omega
        subst e
        refine .inl ⟨⟨vs2, SqT.of (s3 _ _ hw2), Nat.le_of_eq hl2⟩, s3, ?_⟩
        rw [inner_next hp]
        rw [List.take_length] at hD3
        exact hD3
    have ei : i = rs.length := by omega
    subst ei
    rw [List.take_length] at hD2
    refine .inl ⟨⟨zs, SqL.of (s2 _ _ hra), Nat.le_of_eq hlen⟩, ?_⟩
    -- found
    refine ⟨_, rfl, _, rfl, ra, rfl, ⟨_, s2 _ _ hra⟩, fun _ => lcLst (s2 _ _ hra) (small1000 (by omega)) (fun i acc _ => acc = (((rs.take i).filter (fun p => !decide (p.name ∈ inner rs))).map (·.name)).map V.str) (fun _ _ _ _ _ h => h) rfl (fun Ky Kn i x acc H3 hx s3 g ky kn => ?_) (fun D2 acc H3 hD3 s3 hA3 hl3 g => ?_)⟩
    · obtain ⟨p, hp, u, w2, vs2, rfl, hu, hw2, hv2⟩ := pget hrp hx
      refine ⟨rfl, _, rfl, u, _, _, _, rfl, rfl, s3 _ _ (s2 _ _ hu), atI_nat (j := 0) rfl, _, rfl, p.name, D, inner rs, rfl, rfl, s3 _ _ hD2, ?_⟩
      refine ⟨!decide (p.name ∈ inner rs), rfl, ?_⟩
      subst g
      by_cases hm : p.name ∈ inner rs
      · rw [decide_eq_true hm]
        refine iteF (A := _) ?_
        refine kn _ (Same.refl _) ?_
        rw [filt_next _ hp, decide_eq_true hm]
        simp
      · rw [decide_eq_false hm]
        refine iteT ?_
        refine ⟨_, rfl, u, _, _, _, rfl, rfl, s3 _ _ (s2 _ _ hu), atI_nat (j := 0) rfl, ?_⟩
        refine ky _ _ (Same.refl _) ?_
        rw [filt_next _ hp, decide_eq_false hm]
        simp
    rw [hlen, List.take_length] at g
    subst g
    refine ⟨fa, D2, _, _, rfl, rfl, s3 _ _ (s2 _ _ hfa), hA3, ?_, fun fa2 H4 n4 => ?_⟩
    · rw [List.length_map, List.length_map]
      exact Nat.le_of_lt (small1000 (by omega))
    -- rest
    have s4 := s2.trans (s3.trans n4.same)
    refine ⟨_, rfl, ra, rfl, ⟨_, s4 _ _ hra⟩, fun _ => lcLst (s4 _ _ hra) (small1000 (by omega)) (fun i acc H => Paired (IsPk H) acc ((rs.take i).filter (fun p => decide (p.name ∈ inner rs)))) (fun _ _ _ _ k h => pimp (fun _ _ z => z.tk k) h) .nil (fun Ky Kn i x acc H5 hx s5 g ky kn => ?_) (fun D3 acc H5 hD5 s5 hA5 hl5 g => ?_)⟩
    · obtain ⟨p, hp, ip⟩ := pget hrp hx
      obtain ⟨u, w2, vs2, rfl, hu, hw2, hv2⟩ := id ip
      refine ⟨rfl, _, rfl, u, _, _, _, rfl, rfl, s5 _ _ (s4 _ _ hu), atI_nat (j := 0) rfl, _, rfl, p.name, D, inner rs, rfl, rfl, s5 _ _ (n4.same _ _ (s3 _ _ hD2)), ?_⟩
      refine ⟨decide (p.name ∈ inner rs), rfl, ?_⟩
      by_cases hm : p.name ∈ inner rs
      · rw [decide_eq_true hm]
        refine iteT ?_
        refine ⟨_, rfl, ?_⟩
        refine ky _ _ (Same.refl _) ?_
        rw [filt_next _ hp, decide_eq_true hm]
        exact papp g (.cons (ip.tk (tk_of (s4.trans s5))) .nil)
      · rw [decide_eq_false hm]
        refine iteF (A := _) ?_
        refine kn _ (Same.refl _) ?_
        rw [filt_next _ hp, decide_eq_false hm]
        simpa using g
    rw [hlen, List.take_length] at g
    refine ⟨_, hsp.less hok (fun p => decide (p.name ∈ inner rs)) (fun _ => rfl) hz, D3, fa2, _, fs ++ rs.filter (fun p => !decide (p.name ∈ inner rs)), acc, _, _, _, _, rfl, s0.trans (s4.trans s5), ⟨hA5, g⟩, ⟨none_same (s0.trans (s2.trans s3)) n4.none_, ?_⟩, hsp.step (fun p => decide (p.name ∈ inner rs)) (fun _ => rfl), rfl⟩
    rw [List.map_append, List.map_append]
    exact s5 _ _ n4.at_
end K57
namespace K57
open PySem PySem.Spec PyProof.Rows L2
section
variable {X : Cx}
/-- name = {..} on one line, the name a local -/
theorem ps_setDc {i : Nat} {y : Str} {py pos spos : Pos} {kx vx tg iter : Expr} {ifs : List Expr} {scope : Scope} {own : List (Str × Nat)} {wi : TI} {g : TG} {tt : TT} {tk tv : TE}
    (hc : X.calm = true) (hN : X.N.Nodup) (hy : X.N[i]? = some y) (hyl : X.env.scope.names.lookup y = some .local) (hsw : swapsWith (.DictComp kx vx [⟨tg, iter, ifs, 0⟩] scope pos) (some (.Name y py)) spos.line X.env = pure true)
    (hi : PI X tg iter wi) (ok : BlkOk X.N X.env.scope scope own)
    (hg : ∀ (s : Shared) (H : Hp) (C : Addr) (cl : List (Str × Addr)) (fp : List Addr), PG (X.blk s H scope (compEnvC scope cl C X.env) fp) tg g)
    (ht : ∀ (s : Shared) (H : Hp) (C : Addr) (cl : List (Str × Addr)) (fp : List Addr), PTs (X.blk s H scope (compEnvC scope cl C X.env) fp) ifs tt)
    (hk : ∀ (s : Shared) (H : Hp) (C : Addr) (cl : List (Str × Addr)) (fp : List Addr), PE (X.blk s H scope (compEnvC scope cl C X.env) fp) kx tk)
    (hv : ∀ (s : Shared) (H : Hp) (C : Addr) (cl : List (Str × Addr)) (fp : List Addr), PE (X.blk s H scope (compEnvC scope cl C X.env) fp) vx tv) (hfold : ∀ x, foldedSetIterable iter X.env x = pure x := by intro _; rfl) :
    PS X (.Assign [.Name y py] (.DictComp kx vx [⟨tg, iter, ifs, 0⟩] scope pos) spos) (tAsg (tDc wi g tt tk tv (own.map (·.2))) (gName i)) := by
  refine ⟨fun pins s σ H D I h => ?_⟩
  have h' : tDc wi g tt tk tv (own.map (·.2)) σ H (fun x H1 => gName i x σ H1 D.nx) := h
  rw [exec_Assign_Name_used _ _ _ _ hsw]
  refine wpAny_bind (wpAny_standAt (wpAny_bind (?_ : wpAny _ X.A (do let _ ← comprehension (.DictComp kx vx [⟨tg, iter, ifs, 0⟩] scope pos) scope X.env (firstIterPos [⟨tg, iter, ifs, 0⟩] pos) newDict false (eval iter X.env) (some (assign (.Name y py) X.env))) _ _ s)))
  have core := dc_core (pos := pos) (use := some (assign (.Name y py) X.env)) (pos' := firstIterPos [⟨tg, iter, ifs, 0⟩] pos) (Qf := fun _ s' => SP X pins D .next s') hc hN I hi ok hg ht hk hv hfold h'
    (fun L C s' m H' I' q hn f => by
      show wpAny _ _ (assign (.Name y py) X.env (.ref L)) _ _ _
      obtain ⟨f0, f1, f2, f3, f4, f5⟩ := f
      refine wpAny_assign_Name (store_ok2 (v := V.ref L) I' hN hy (.inl hyl) rfl (fun s2 I2 ⟨a, sb, ha⟩ => ?_) (.inr hyl))
      have apart : C ≠ a := by
        rcases ha with z | z
        · rw [z]; exact f1
        · intro e; exact f4 y a z e.symm
      exact ⟨m, hn.sameBut sb apart, fun h3 sb3 => ⟨_, H', I2.turned (t' := s2.toks) (fun b o hb e => (sb3.2 b hb).trans e) f0 f1 f3 f4 f5, q⟩⟩)
  exact wpAny_bind (thn core fun _ s' hq => wpAny_pure (wpAny_pure hq))
theorem sw_dict {kx vx : Expr} {gs : List Comprehension} {scope : Scope} {pos py : Pos} {y : Str} {l : Nat} {env : Env} (h1 : env.scope.kind = .function) (h2 : env.scope.names.lookup y = some .local) (h3 : (py.line == pos.line) = true)
    (h4 : (scope.names.any fun (n, k) => n == y && (k == .local || k == .cell)) = false) : swapsWith (.DictComp kx vx gs scope pos) (some (.Name y py)) l env = pure true := by
  have e1 : env.kindOf y = some .local := h2
  have e2 : env.blockKind = .function := by unfold Env.blockKind; rw [h1]; rfl
  unfold swapsWith
  simp only [e1, e2, h4, Expr.pos, h3]
  rfl
end
end K57
namespace K57
open PySem PySem.Spec PyProof.Rows L2
/-- what goes into a set here: texts, numbers, pairs of a number and a text -/
def IsIS (H : Hp) (v : V) (l : Int × Str) : Prop := ∃ t, v = .ref t ∧ H t = some (.tup [.int l.1, .str l.2])
def isD (l : Int × Str) : PyData := .tuple [.int l.1, .str l.2]
def SetCls (H : Hp) (xs : List V) (ds : List PyData) : Prop :=
  (∃ ns : List Str, xs = ns.map V.str ∧ ds = ns.map PyData.str) ∨ (∃ ns : List Int, xs = ns.map V.int ∧ ds = ns.map PyData.int) ∨ (∃ ls : List (Int × Str), Paired (IsIS H) xs ls ∧ ds = ls.map isD)
def tSortSet (te : TE) : TE := fun σ H Q => te σ H fun x H1 => ∃ a xs ds, x = .ref a ∧ H1 a = some (.lst xs) ∧ SetCls H1 xs ds ∧ xs.length ≤ 5 ∧
  ∀ (zs : List (V × PyData)) p H2, (∀ z ∈ zs, z ∈ xs.zip ds) → (∀ d ∈ ds, ∃ z ∈ zs, z.2 = d) → zs.Pairwise (fun a b => PySem.W.dataLt a.2 b.2 = true) → New H1 p (.lst (zs.map Prod.fst)) H2 → Q (.ref p) H2
end K57
namespace K57
open PySem PySem.Spec PyProof.Rows L2
/-! ### sets of whatever can be put in and told apart -/
abbrev newSet (w : World) : Obj := { cls := .type "set", dict := none, data := .set #[] 0 (.fresh 0 0 (!w.params.followText "set-order")) }
structure SetKd (P : Program) (w : World) (α : Type) where
  Key : Heap → Value → α → Prop
  At : Heap → Addr → List (Value × α) → Prop
  fresh : ∀ (h : Heap) (a : Addr), h.get? a = some (newSet w) → At h a []
  keyKeep : ∀ (h h' : Heap) (v : Value) (k : α), (∀ c o, h.get? c = some o → h'.get? c = some o) → Key h v k → Key h' v k
  keep : ∀ (h h' : Heap) (a : Addr) (L : List (Value × α)), (∀ o, h.get? a = some o → h'.get? a = some o) → (∀ p ∈ L, Key h' p.1 p.2) → At h a L → At h' a L
  nd : ∀ (h : Heap) (a : Addr) (L : List (Value × α)), At h a L → (L.map (·.2)).Nodup
  add : ∀ (A : Around) (E : Value → Shared → Prop) (s : Shared) (a : Addr) (L : List (Value × α)) (v : Value) (k : α) (Q : Bool → Shared → Prop), A.units < cLine → L.length + 1 < 64 → At s.heap a L → Key s.heap v k →
    (∀ (b : Bool) (h' : Heap) (n : Nat) (L' : List (Value × α)), Heap.SameBut a s.heap h' → At h' a L' → (k ∈ L.map (·.2) → L' = L) → (k ∉ L.map (·.2) → L'.Perm ((v, k) :: L)) → Q b { s with heap := h', toks := s.toks + n }) →
    wpAny (model P w) A (setAdd a v) Q E s
  rows : ∀ (h : Heap) (a : Addr) (L : List (Value × α)), At h a L → ∃ es ep t, SetAt h a es ep t ∧ t.fits es.size = true ∧ es.size < scanBound ∧ Ris t.place.toList ∧ (w.params.followText "set-order" = true ∨ t.led = true) ∧ es.toList.map (·.2) = L.map (·.1)
theorem take_nx {α : Type} {l : List α} {i : Nat} {x : α} (h : l[i]? = some x) : l.take (i + 1) = l.take i ++ [x] := L2.take_next h
structure Had {α : Type} (ks : List (Value × α)) (i : Nat) (L : List (Value × α)) : Prop where
  from_ : ∀ p ∈ L, p ∈ ks.take i
  every : ∀ p ∈ ks.take i, p.2 ∈ L.map (·.2)
  most : L.length ≤ i
theorem Had.none_ {α : Type} (ks : List (Value × α)) : Had ks 0 [] := ⟨fun p h => (nomatch h), fun p h => (by simp at h), Nat.le_refl _⟩
theorem Had.next {α : Type} {ks L L' : List (Value × α)} {i : Nat} {x : Value × α} (g : Had ks i L) (h : ks[i]? = some x) (c1 : x.2 ∈ L.map (·.2) → L' = L) (c2 : x.2 ∉ L.map (·.2) → L'.Perm (x :: L)) : Had ks (i + 1) L' := by
  rcases Classical.em (x.2 ∈ L.map (·.2)) with c | c
  · have e := c1 c
    subst e
    refine ⟨fun p hp => by rw [K57.take_nx h]; exact List.mem_append_left _ (g.from_ p hp), fun p hp => ?_, Nat.le_succ_of_le g.most⟩
    rw [K57.take_nx h] at hp
    exact (List.mem_append.mp hp).elim (g.every p) fun z => by rw [List.mem_singleton.mp z]; exact c
  · have pm := c2 c
    refine ⟨fun p hp => ?_, fun p hp => ?_, by rw [pm.length_eq, List.length_cons]; have := g.most; omega⟩
    · rw [K57.take_nx h]
      exact (List.mem_cons.mp (pm.mem_iff.mp hp)).elim (fun e => by rw [e]; exact List.mem_append_right _ List.mem_cons_self) fun z => List.mem_append_left _ (g.from_ p z)
    · rw [(pm.map (·.2)).mem_iff, List.map_cons]
      rw [K57.take_nx h] at hp
      exact (List.mem_append.mp hp).elim (fun z => List.mem_cons_of_mem _ (g.every p z)) fun z => by rw [List.mem_singleton.mp z]; exact List.mem_cons_self
section
variable {P : Program} {w : World} {α : Type} (C : SetKd P w α) {A : Around} {E : Value → Shared → Prop} {s : Shared}
/-- the loop that puts in -/
theorem cls_loop {it : Addr} {fp wr : List Addr} {G : Array GenState → Array GenState → Prop} {n : Nat} {Pv : Nat → Value → Prop} {St : Nat → Shared → Prop} {R : Result → Shared → Prop} (W : WalksS P w A.in1 it fp wr G n Pv St) (D : Addr) (apart : D ∉ fp)
    (ks : List (Value × α)) (hn : n = ks.length) (few : ks.length < 64) (what : ∀ i v, Pv i v → ∃ p, ks[i]? = some p ∧ v = p.1) (h0 : Heap) (keys : ∀ p ∈ ks, C.Key h0 p.1 p.2) (newD : h0.get? D = none) (newW : ∀ b ∈ wr, h0.get? b = none) (room : A.in1.units < cLine) :
    ∀ (d i : Nat) (s : Shared), n - i = d → i ≤ n → St i s → (∀ b o, h0.get? b = some o → s.heap.get? b = some o) → (∃ L, C.At s.heap D L ∧ Had ks i L) →
      (∀ s' L, Moved (D :: wr) G s s' → C.At s'.heap D L → Had ks n L → (∀ b o, h0.get? b = some o → s'.heap.get? b = some o) → R (.ok (.ret .none)) s') →
      codeAny (model P w) A (.builtin "set.update.loop" ⟨[.ref D, .ref it], []⟩) R s := by
  have notW : D ∉ wr := fun z => apart (W.sub _ z)
  have sub : ∀ b ∈ wr, b ∈ D :: wr := fun b hb => List.mem_cons_of_mem _ hb
  have still : ∀ {s s' : Shared}, Moved wr G s s' → (∀ b o, h0.get? b = some o → s.heap.get? b = some o) → ∀ b o, h0.get? b = some o → s'.heap.get? b = some o := fun m k b o z => m.heap b o (fun hb => by rw [newW b hb] at z; cases z) (k b o z)
  intro d
  induction d with
  | zero =>
    intro i s hd hi st kp ⟨L, at_, had⟩ fin
    obtain rfl : i = n := by omega
    refine codeAny_builtin PyProof.Rows.F.entry_set_update_loop (?_ : wpAny _ _ _ _ _ _)
    rw [Around.under_plainId PyProof.Rows.F.plain_set_update_loop ⟨[.ref D, .ref it], []⟩]
    show wpAny _ A.in1 (pyNext (.ref it) >>= _) _ _ s
    refine wpAny_bind (W.done s _ _ st fun s' m => ?_)
    show wpAny _ A.in1 (ret Value.none) _ _ s'
    have kp' := still m kp
    exact wpAny_pure (fin s' L (m.mono sub) (C.keep _ _ _ _ (fun o z => m.heap D o notW z) (fun p hp => C.keyKeep _ _ _ _ kp' (keys p (List.mem_of_mem_take (had.from_ p hp)))) at_) had kp')
  | succ d ih =>
    intro i s hd hi st kp ⟨L, at_, had⟩ fin
    have lt : i < n := by omega
    refine codeAny_builtin PyProof.Rows.F.entry_set_update_loop (?_ : wpAny _ _ _ _ _ _)
    rw [Around.under_plainId PyProof.Rows.F.plain_set_update_loop ⟨[.ref D, .ref it], []⟩]
    show wpAny _ A.in1 (pyNext (.ref it) >>= _) _ _ s
    refine wpAny_bind (W.item i s _ _ lt st fun v s' pv st' m => ?_)
    obtain ⟨p, hp, rfl⟩ := what i v pv
    have kp' := still m kp
    have at' : C.At s'.heap D L := C.keep _ _ _ _ (fun o z => m.heap D o notW z) (fun q hq => C.keyKeep _ _ _ _ kp' (keys q (List.mem_of_mem_take (had.from_ q hq)))) at_
    have key' := C.keyKeep _ _ _ _ kp' (keys p (List.mem_of_getElem? hp))
    show wpAny _ A.in1 (holding [p.1] (setAdd D p.1) >>= _) _ _ s'
    refine wpAny_bind (wpAny_holding (C.add A.in1 _ s' D L p.1 p.2 _ room (by have := had.most; omega) at' key' fun b h' k L' sb at2 c1 c2 => ?_))
    have had' : Had ks (i + 1) L' := had.next hp c1 c2
    have kp2 : ∀ b o, h0.get? b = some o → h'.get? b = some o := fun b o z => (sb.2 b (fun y => by rw [y, newD] at z; cases z)).trans (kp' b o z)
    refine wpAny_pure ⟨plainId_quiet PyProof.Rows.F.plain_set_update_loop ⟨[.ref D, .ref it], []⟩, ih (i + 1) _ (by omega) lt (W.frame _ s' _ _ st' (Nat.le_add_right _ _) fun b hb o z => ?_) kp2 ⟨L', at2, had'⟩ fun s2 L2 m2 at3 had2 kp3 => ?_⟩
    · rw [sb.2 b (fun y : b = D => apart (by rw [← y]; exact hb))]
      exact z
    · refine fin s2 L2 (Moved.trans W.gtrans ((m.mono sub).then_heap (Nat.le_add_right _ _) fun b o hb z => ?_) m2) at3 had2 kp3
      rw [sb.2 b (fun y : b = D => hb (by rw [y]; exact List.mem_cons_self))]
      exact z
end
end K57
namespace K57
open PySem PySem.Spec PyProof.Rows L2
/-! ### texts and numbers in a set -/
def kOf : Value → Key | .int i _ => .inl i | .str x _ => .inr x | _ => .inl 0
theorem kOf_is {k : Key} {v : Value} (z : keyIs k v = true) : kOf v = k := by
  rcases keyIs_shape z with ⟨i, t, rfl, rfl⟩ | ⟨x, t, rfl, rfl⟩ <;> rfl
theorem scan_is {k : Key} {v : Value} (z : keyIs k v = true) : v.scannable = true := by
  rcases keyIs_shape z with ⟨i, t, rfl, rfl⟩ | ⟨x, t, rfl, rfl⟩ <;> rfl
def pairUp (e : Int × Value) : Value × Key := (e.2, kOf e.2)
def Okm (w : World) (e : Int × Value) : Prop := ∃ k, keyIs k e.2 = true ∧ e.1 = keyH w k
structure Mixed (w : World) (h : Heap) (a : Addr) (L : List (Value × Key)) (o : Obj) (es : Array (Int × Value)) (ep : Nat) (t : SetTable) : Prop where
  ob : h.get? a = some o
  ex : o.ExactSet
  dat : o.data = .set es ep t
  good : ∀ e ∈ es.toList, Okm w e
  same : L = es.toList.map pairUp
  nd : (es.toList.map fun e => kOf e.2).Nodup
  few : es.size < scanBound
  fit : t.fits es.size = true
  ris : Ris t.place.toList
  led : w.params.followText "set-order" = true ∨ t.led = true
def MixAt (w : World) (h : Heap) (a : Addr) (L : List (Value × Key)) : Prop := ∃ o es ep t, Mixed w h a L o es ep t
section
variable {P : Program} {w : World} {A : Around} {E : Value → Shared → Prop} {s : Shared} {a : Addr} {L : List (Value × Key)}
theorem okm_elems {l : List (Int × Value)} (g : ∀ e ∈ l, Okm w e) : ElemsOf (mixKind P w) l := fun e m => by
  obtain ⟨k, z1, z2⟩ := g e m
  exact ⟨⟨k, z1, z2⟩, scan_is z1⟩
theorem okm_mem {l : List (Int × Value)} (g : ∀ e ∈ l, Okm w e) (k : Key) : k ∈ l.map (fun e => kOf e.2) ↔ ∃ e ∈ l, keyIs k e.2 = true := by
  rw [List.mem_map]
  refine ⟨fun ⟨e, m, q⟩ => ?_, fun ⟨e, m, q⟩ => ⟨e, m, kOf_is q⟩⟩
  obtain ⟨k0, z, _⟩ := g e m
  have : k0 = k := by rw [← q]; exact (kOf_is z).symm
  exact ⟨e, m, by rw [← this]; exact z⟩
/-- what is behind the laying -/
theorem mix_store {gv : Bool → Sem Unit} (calmly : ∀ (b : Bool) (s₁ : Shared) (Q' : Unit → Shared → Prop), Q' () s₁ → wpAny (model P w) A (gv b) Q' E s₁)
    {o : Obj} {es fs : Array (Int × Value)} {ep : Nat} {t u : SetTable} (ob : s.heap.get? a = some o) (ex : o.ExactSet) (dat : o.data = .set es ep t)
    (good : ∀ e ∈ fs.toList, Okm w e) (nd : (fs.toList.map fun e => kOf e.2).Nodup) (few : fs.size < scanBound) (fit : u.fits fs.size = true) (ris : Ris u.place.toList) (led : w.params.followText "set-order" = true ∨ u.led = true) {wd : Bool} {R : Option Bool → Shared → Prop}
    (fin : ∀ h' L', Heap.SameBut a s.heap h' → MixAt w h' a L' → L'.Perm (fs.toList.map pairUp) → R (some true) { s with heap := h' }) :
    wpAny (model P w) A (do
        storeSet a fs u
        if (!wd && u.tooFull) = true then do
            gv (relayAll u fs (SetTable.grown fs.size)).2.2
            storeSet a (relayAll u fs (SetTable.grown fs.size)).1 (relayAll u fs (SetTable.grown fs.size)).2.1
            pure (some true)
          else pure (some true)) R E s := by
  refine wpAny_bind (wpAny_storeSet_of ob dat ?_ (fits_of_scanBound few))
  have ob1 := L2.store_at (es' := fs) (t' := u) ob dat
  have sb1 := Heap.SameBut.update s.heap a (Obj.putSet fs u)
  split
  · have r1 := relayAll_perm u fs (SetTable.grown fs.size)
    have r2 := relayAll_fits u fs (SetTable.grown fs.size)
    have r3 := relayAll_ris u fs (SetTable.grown fs.size)
    have r4 := relayAll_led u fs (SetTable.grown fs.size)
    generalize relayAll u fs (SetTable.grown fs.size) = W at r1 r2 r3 r4 ⊢
    obtain ⟨gs, u2, gone⟩ := W
    dsimp only at r1 r2 r3 r4 ⊢
    have len : gs.size = fs.size := by rw [← Array.length_toList, r1.length_eq, Array.length_toList]
    have few2 : gs.size < scanBound := by rw [len]; exact few
    refine wpAny_bind (calmly _ _ _ ?_)
    refine wpAny_bind (wpAny_storeSet_of ob1 rfl ?_ (fits_of_scanBound few2))
    have ob2 := L2.store_at (es' := gs) (t' := u2) ob1 rfl
    refine wpAny_pure (fin _ (gs.toList.map pairUp) (sb1.trans (Heap.SameBut.update _ a _)) ?_ (r1.map pairUp))
    exact ⟨_, gs, _, u2, ob2, ex, rfl, fun e m => good e (r1.mem_iff.mp m), rfl, (r1.map _).nodup_iff.mpr nd, few2, r2, r3, led.imp id fun z => r4.trans z⟩
  · exact wpAny_pure (fin _ (fs.toList.map pairUp) sb1 ⟨_, fs, _, u, ob1, ex, rfl, good, rfl, nd, few, fit, ris, led⟩ (.refl _))
theorem mix_add {v : Value} {k : Key} {Q : Bool → Shared → Prop} (at_ : MixAt w s.heap a L) (isK : keyIs k v = true) (room : L.length + 1 < 64)
    (fin : ∀ (b : Bool) (h' : Heap) (L' : List (Value × Key)), Heap.SameBut a s.heap h' → MixAt w h' a L' → (k ∈ L.map (·.2) → L' = L) → (k ∉ L.map (·.2) → L'.Perm ((v, k) :: L)) → Q b { s with heap := h' }) :
    wpAny (model P w) A (setAddHashed a v (keyH w k)) Q E s := by
  obtain ⟨o, es, ep, t, M⟩ := at_
  have key : (mixKind P w).is k v = true := isK
  have sc := scan_is isK
  have elems : ElemsOf (mixKind P w) es.toList := okm_elems M.good
  have keys : L.map (·.2) = es.toList.map fun e => kOf e.2 := by rw [M.same, List.map_map] <;> rfl
  have size : L.length = es.size := by rw [M.same, List.length_map, Array.length_toList]
  unfold setAddHashed setAddHashedIn
  refine wpAny_holding (wpAny_bind (wpAny_setState_of M.ob M.dat M.fit ?_))
  dsimp only
  rw [byScan_of sc M.few elems]
  simp only [↓reduceIte]
  unfold setAddByScan
  refine wpAny_bind ?_
  refine wpAny_bind (wpAny_rule ?_)
  refine wpAny_bind (wpAny_setScan_of key M.ob M.dat M.fit elems ?_)
  cases fi : List.findIdx? (fun e => (mixKind P w).is k e.2) es.toList with
  | some j =>
    dsimp only
    obtain ⟨lt, pj, _⟩ := List.findIdx?_eq_some_iff_getElem.mp fi
    have inn : k ∈ L.map (·.2) := by rw [keys]; exact (okm_mem M.good k).2 ⟨_, List.getElem_mem lt, pj⟩
    exact wpAny_pure (wpAny_pure (fin false s.heap L (Heap.SameBut.refl a s.heap) ⟨o, es, ep, t, M⟩ (fun _ => rfl) fun z => absurd inn z))
  | none =>
    dsimp only
    have out : k ∉ L.map (·.2) := fun z => by
      rw [keys] at z
      obtain ⟨e, m, q⟩ := (okm_mem M.good k).1 z
      have c := List.findIdx?_eq_none_iff.mp fi e m
      exact absurd (q.symm.trans c) (by decide)
    have quiet : ∀ (b : Bool) {s₁ : Shared} {Q' : Unit → Shared → Prop}, Q' () s₁ → wpAny (model P w) A (match b with | true => rule "set.scan.the-table-gave-way" | false => pure ()) Q' E s₁ :=
      fun b s₁ Q' q => by cases b <;> first | exact wpAny_pure q | exact wpAny_rule q
    have n1 := layNew_perm t es ((mixKind P w).hash k) v
    have n2 := layNew_fits t es ((mixKind P w).hash k) v
    have n3 := layNew_ris t es ((mixKind P w).hash k) v M.ris
    have n4 := layNew_led t es ((mixKind P w).hash k) v
    rw [show keyH w k = (mixKind P w).hash k from rfl]
    generalize layNew t es ((mixKind P w).hash k) v = W at n1 n2 n3 n4 ⊢
    obtain ⟨fs, u, wd, gone⟩ := W
    dsimp only at n1 n2 n3 n4 ⊢
    rw [Array.toList_push] at n1
    have pc : fs.toList.Perm (((mixKind P w).hash k, v) :: es.toList) := n1.trans (List.perm_append_singleton _ _)
    have good : ∀ e ∈ fs.toList, Okm w e := fun e m => (List.mem_cons.mp (pc.mem_iff.mp m)).elim (fun z => by rw [z]; exact ⟨k, isK, rfl⟩) (M.good e)
    have nd : (fs.toList.map fun e => kOf e.2).Nodup := (pc.map _).nodup_iff.mpr (by
      rw [List.map_cons, kOf_is isK]
      exact List.nodup_cons.mpr ⟨by rw [← keys]; exact out, M.nd⟩)
    have len : fs.size = L.length + 1 := by rw [← Array.length_toList, pc.length_eq, List.length_cons, Array.length_toList, size]
    have few : fs.size < scanBound := by rw [len]; unfold scanBound; omega
    have led : w.params.followText "set-order" = true ∨ u.led = true := M.led.imp id fun z => n4.trans z
    have last : ∀ h' L', Heap.SameBut a s.heap h' → MixAt w h' a L' → L'.Perm (fs.toList.map pairUp) → Q true { s with heap := h' } := fun h' L' sb at2 pm =>
      fin true h' L' sb at2 (fun z => absurd z out) fun _ => by
        refine pm.trans ((pc.map pairUp).trans ?_)
        rw [List.map_cons, ← M.same, show pairUp ((mixKind P w).hash k, v) = (v, k) from congrArg (Prod.mk v) (kOf_is isK)]
    refine wpAny_bind (quiet _ ?_)
    split
    · refine wpAny_bind ?_
      rw [hashByValue_scannable 8 sc]
      refine wpAny_pure ?_
      refine mix_store ?_ M.ob M.ex M.dat good nd few ?_ ?_ ?_ ?_
      · intro b s₁ Q' q; cases b <;> first | exact wpAny_pure q | exact wpAny_rule q
      · first | (split <;> first | exact n2 | exact SetTable.fits_plain_off n2) | exact n2
      · first | (split <;> exact n3) | exact n3
      · first | (split <;> exact led) | exact led
      · intro h' L' sb at2 pm; dsimp only; exact wpAny_pure (last h' L' sb at2 pm)
    · refine wpAny_bind (wpAny_pure ?_)
      simp only [↓reduceIte]
      refine mix_store ?_ M.ob M.ex M.dat good nd few n2 n3 led ?_
      · intro b s₁ Q' q; cases b <;> first | exact wpAny_pure q | exact wpAny_rule q
      · intro h' L' sb at2 pm; dsimp only; exact wpAny_pure (last h' L' sb at2 pm)
end
def mixSet (P : Program) (w : World) : SetKd P w Key where
  Key := fun _ v k => keyIs k v = true
  At := MixAt w
  fresh := fun h a z => ⟨_, #[], 0, .fresh 0 0 (!w.params.followText "set-order"), z, ⟨rfl, rfl, rfl⟩, rfl, fun e m => (by cases m), rfl, List.nodup_nil, by decide, by rfl, List.Pairwise.nil, by
    show _ ∨ (!w.params.followText "set-order") = true
    cases w.params.followText "set-order" <;> simp⟩
  keyKeep := fun _ _ _ _ _ z => z
  keep := fun h h' a L z _ ⟨o, es, ep, t, M⟩ => ⟨o, es, ep, t, { M with ob := z o M.ob }⟩
  nd := fun h a L ⟨o, es, ep, t, M⟩ => by
    rw [M.same, List.map_map]
    exact M.nd
  add := fun A E s a L v k Q hu room at_ isK fin => by
    unfold setAdd
    refine wpAny_holding (wpAny_bind ((mixKind P w).pyHash isK ?_))
    exact mix_add (s := { s with toks := s.toks + 1 }) at_ isK room fun b h' L' sb a2 c1 c2 => fin b h' 1 L' sb a2 c1 c2
  rows := fun h a L ⟨o, es, ep, t, M⟩ => ⟨es, ep, t, ⟨o, M.ob, M.ex.1, M.dat⟩, M.fit, M.few, M.ris, M.led, by rw [M.same, List.map_map] <;> rfl⟩
end K57
namespace K57
open PySem PySem.Spec PyProof.Rows L2
/-! ### tuples of texts and numbers in a set -/
abbrev ph (P : Program) (w : World) (k : List Key) : Int := tupleKeyHash (mixKind P w) k
abbrev TupIs (P : Program) (w : World) (h : Heap) (k : List Key) (b : Addr) : Prop := IsTupleKey (mixKind P w) h k b
abbrev road (m : Nat) (q : Int) (c : Nat) : SetTable.Probe := nth m (runAt m (SetTable.bits q % (m + 1)) (SetTable.bits q)) c
section
variable {P : Program} {w : World} {A : Around} {E : Value → Shared → Prop} {s : Shared}
theorem plain_items {k : List Key} {vs : List Value} (z : PySem.ItemsAre (mixKind P w) k vs) : ∀ v ∈ vs, ∃ q, keyIs q v = true := by
  induction z with
  | nil => intro v m; exact nomatch m
  | @cons q v' ks us z1 _ ih => exact fun v m => (List.mem_cons.mp m).elim (fun e => ⟨q, by rw [e]; exact z1⟩) (ih v)
theorem noClass {q : Key} {v : Value} (n : Nat) (z : keyIs q v = true) : ofAClassStatement n v = pure false := by
  rcases keyIs_shape z with ⟨i, t, rfl, rfl⟩ | ⟨x, t, rfl, rfl⟩ <;> cases n <;> rfl
theorem byVal {q : Key} {v : Value} (n : Nat) (z : keyIs q v = true) : ∃ b, hashByValue n v = pure b := by
  rcases keyIs_shape z with ⟨i, t, rfl, rfl⟩ | ⟨x, t, rfl, rfl⟩
  · exact ⟨true, by cases n <;> rfl⟩
  · exact ⟨false, by cases n <;> rfl⟩
theorem noClass_tup {k : List Key} {b : Addr} {Q : Bool → Shared → Prop} (z : TupIs P w s.heap k b) (fin : Q false s) : wpAny (model P w) A (ofAClassStatement 8 (.ref b)) Q E s := by
  have ty := z.typeIs
  obtain ⟨ob, items, n, got, _, dat, its⟩ := z
  unfold ofAClassStatement
  refine wpAny_bind (wpAny_typeOf ty ?_)
  dsimp only
  have tt : (("tuple" : String) == "tuple") = true := by decide
  simp only [tt, if_true, Bool.not_true, Bool.false_eq_true, if_false]
  try refine wpAny_bind (wpAny_pure ?_)
  try simp only [Bool.not_true, Bool.false_eq_true, if_false]
  show wpAny _ _ (seqItems? (.ref b) >>= _) _ _ s
  refine wpAny_bind (wpAny_seqItems got dat ?_)
  dsimp only
  refine wpAny_bind ?_
  show wpAny _ _ (forIn items _ _) _ _ s
  rw [← Array.forIn_toList]
  refine wpAny_forIn_list _ (fun rest r s' => r.1 = none ∧ s' = s ∧ ∀ v ∈ rest, ∃ q, keyIs q v = true) _ ?_ ?_ _ _ ⟨rfl, rfl, plain_items its⟩
  · rintro v rest r s' ⟨r0, rfl, all⟩
    obtain ⟨q, qv⟩ := all v List.mem_cons_self
    rw [K57.noClass 7 qv]
    refine wpAny_bind (wpAny_pure ?_)
    simp only [Bool.false_eq_true, if_false]
    exact wpAny_pure ⟨rfl, rfl, fun u m => all u (List.mem_cons_of_mem _ m)⟩
  · rintro ⟨r1, r2⟩ s' ⟨r0, rfl, _⟩
    simp only at r0
    subst r0
    exact wpAny_pure fin
theorem byVal_tup {k : List Key} {b : Addr} {Q : Bool → Shared → Prop} (z : TupIs P w s.heap k b) (fin : ∀ c, Q c s) : wpAny (model P w) A (hashByValue 8 (.ref b)) Q E s := by
  have ty := z.typeIs
  obtain ⟨ob, items, n, got, _, dat, its⟩ := z
  unfold hashByValue
  refine wpAny_bind (wpAny_specialOf ty PySem.F.slot_tuple_hash.lookup ?_)
  show wpAny _ _ (seqItems? (.ref b) >>= _) _ _ s
  refine wpAny_bind (wpAny_seqItems got dat ?_)
  refine wpAny_bind ?_
  show wpAny _ _ (forIn items _ _) _ _ s
  rw [← Array.forIn_toList]
  refine wpAny_forIn_list _ (fun rest r s' => s' = s ∧ r.1 = none ∧ ∀ v ∈ rest, ∃ q, keyIs q v = true) _ ?_ ?_ _ _ ⟨rfl, rfl, plain_items its⟩
  · rintro v rest r s' ⟨rfl, r0, all⟩
    obtain ⟨q, qv⟩ := all v List.mem_cons_self
    obtain ⟨c, ec⟩ := byVal 7 qv
    rw [ec]
    refine wpAny_bind (wpAny_pure ?_)
    cases c with
    | true =>
      simp only [Bool.not_true, Bool.false_eq_true, if_false]
      exact wpAny_pure ⟨rfl, rfl, fun u m => all u (List.mem_cons_of_mem _ m)⟩
    | false =>
      simp only [Bool.not_false, if_true]
      exact wpAny_pure (wpAny_pure (fin _))
  · rintro ⟨r1, r2⟩ s' ⟨rfl, r0, _⟩
    simp only at r0
    subst r0
    exact wpAny_pure (fin _)
theorem unseen_tup {k : List Key} {b : Addr} {Q : Bool → Shared → Prop} (z : TupIs P w s.heap k b) {ys : List Value} (each : ∀ y ∈ ys, ∃ k' c, y = Value.ref c ∧ TupIs P w s.heap k' c) (fin : Q false s) :
    wpAny (model P w) A (searchCouldBeSeen (.ref b) ys) Q E s := by
  unfold searchCouldBeSeen
  refine wpAny_bind ?_
  refine wpAny_forIn_list _ (fun rest r s' => r.1 = none ∧ s' = s ∧ ∀ y ∈ rest, ∃ k' c, y = Value.ref c ∧ TupIs P w s.heap k' c) _ ?_ ?_ _ _ ⟨rfl, rfl, each⟩
  · rintro v rest r s' ⟨r0, rfl, all⟩
    obtain ⟨k', c, rfl, zc⟩ := all v List.mem_cons_self
    have next : ∀ y ∈ rest, ∃ k' c, y = Value.ref c ∧ TupIs P w s'.heap k' c := fun u m => all u (List.mem_cons_of_mem _ m)
    dsimp only
    by_cases very : (b == c || (carriedByValue (.ref b) && carriedByValue (.ref c))) = true
    · exact wp_if_pos very (wpAny_pure ⟨rfl, rfl, next⟩)
    · refine wp_if_neg very (wpAny_bind (wpAny_eqIsQuiet_tuple z ?_))
      simp only [Bool.not_true, Bool.false_eq_true, if_false]
      refine wpAny_bind (wpAny_eqIsQuiet_tuple zc ?_)
      simp only [Bool.not_true, Bool.false_eq_true, if_false]
      refine wpAny_bind (noClass_tup z ?_)
      simp only [Bool.false_eq_true, if_false]
      refine wpAny_bind (noClass_tup zc ?_)
      simp only [Bool.false_eq_true, if_false]
      exact wpAny_pure ⟨rfl, rfl, next⟩
  · rintro ⟨r1, r2⟩ s' ⟨r0, rfl, _⟩
    simp only at r0
    subst r0
    exact wpAny_pure fin
end
def prow (P : Program) (w : World) (p : Value × List Key) : Int × Value := (ph P w p.2, p.1)
def TupVal (P : Program) (w : World) (h : Heap) (v : Value) (k : List Key) : Prop := ∃ b, v = .ref b ∧ TupIs P w h k b
structure Tbl (P : Program) (w : World) (h : Heap) (a : Addr) (L : List (Value × List Key)) (o : Obj) (es : Array (Int × Value)) (ep : Nat) (t : SetTable) : Prop where
  ob : h.get? a = some o
  ex : o.ExactSet
  dat : o.data = .set es ep t
  same : es.toList = L.map (prow P w)
  tab : TabOk t (L.map fun p => ph P w p.2)
  nd : (L.map (·.2)).Nodup
  tups : ∀ p ∈ L, TupVal P w h p.1 p.2
  led : w.params.followText "set-order" = true ∨ t.led = true
  room : L.length * 5 < t.mask * 3
  few : L.length < 64
def TblAt (P : Program) (w : World) (h : Heap) (a : Addr) (L : List (Value × List Key)) : Prop := ∃ o es ep t, Tbl P w h a L o es ep t
section
variable {P : Program} {w : World} {A : Around} {E : Value → Shared → Prop} {s : Shared} {a : Addr} {L : List (Value × List Key)} {o : Obj} {es : Array (Int × Value)} {ep : Nat} {t : SetTable}
theorem rows_len {l : List (Value × List Key)} {fs : Array (Int × Value)} (z : fs.toList = l.map (prow P w)) : fs.size = l.length := by
  rw [← Array.length_toList, z, List.length_map]
theorem Tbl.len {h : Heap} (T : Tbl P w h a L o es ep t) : es.size = L.length := rows_len T.same
theorem Tbl.fit {h : Heap} (T : Tbl P w h a L o es ep t) : t.fits es.size = true := by
  have z1 := T.tab.sz
  rw [List.length_map] at z1
  have z2 := T.len
  have z3 := T.room
  unfold SetTable.fits SetTable.fill
  rw [T.tab.dm, Bool.and_eq_true, beq_iff_eq, decide_eq_true_eq]
  show t.place.size = es.size ∧ t.place.size + 0 ≤ t.mask
  omega
theorem Tbl.row {h : Heap} (T : Tbl P w h a L o es ep t) {i : Nat} {p : Value × List Key} (z : L[i]? = some p) : es[i]? = some (ph P w p.2, p.1) := by
  rw [← Array.getElem?_toList, T.same, List.getElem?_map, z] <;> rfl
theorem Tbl.held {h : Heap} (T : Tbl P w h a L o es ep t) : ¬ t.gaveWay = true := by
  unfold SetTable.gaveWay
  rw [mask_odd T.tab.mok]
  decide
theorem road_clean (m : Nat) (q : Int) (c : Nat) : (road m q c).dummy = none := by
  have all : ∀ (n : Nat) (p : SetTable.Probe), p.dummy = none → (nth m p n).dummy = none := by
    intro n
    induction n with
    | zero => exact fun p z => z
    | succ n ih =>
      intro p z
      refine ih (adv m p) ?_
      unfold adv
      split <;> exact z
  exact all c _ rfl
theorem road_on (m : Nat) (q : Int) (c d : Nat) : nth m (road m q c) d = road m q (c + d) := (nth_add m c _ d).symm
theorem road_j (m : Nat) (q : Int) (c d : Nat) : (nth m (road m q c) d).j = way m q (c + d) := congrArg SetTable.Probe.j (road_on m q c d)
/-- looking for a tuple, from the c-th step on -/
theorem look_from (T : Tbl P w s.heap a L o es ep t) {x : Addr} {k : List Key} (isx : TupIs P w s.heap k x) (hu : A.units < cLine) {K : Nat} (near : K < 10 * SetTable.turns t.mask)
    (free : way t.mask (ph P w k) K ∉ t.place.toList) (taken : ∀ c, c < K → way t.mask (ph P w k) c ∈ t.place.toList) {Q : SetFound → Shared → Prop}
    (inn : k ∈ L.map (·.2) → Q (.there none) s) (out : k ∉ L.map (·.2) → Q (.free (way t.mask (ph P w k) K) false) s) :
    ∀ (f c : Nat) (stand : Option SetTable.Probe), stand.getD (t.probeStart (ph P w k)) = road t.mask (ph P w k) c → c ≤ K → K - c < f →
      (∀ (i : Nat) p, L[i]? = some p → p.2 = k → ∃ c', c ≤ c' ∧ c' < K ∧ t.place.toList[i]? = some (way t.mask (ph P w k) c')) →
      wpAny (model P w) A (setSearchFrom a (.ref x) (ph P w k) true f stand) Q E s
  | 0, c, stand, _, _, z, _ => absurd z (Nat.not_lt_zero _)
  | f + 1, c, stand, at_, le, fuel, back => by
    rw [L2.setSearchFrom_succ]
    refine wpAny_bind (wpAny_setState_of T.ob T.dat T.fit ?_)
    dsimp only
    refine wp_if_neg T.held ?_
    try refine wpAny_bind (wpAny_pure ?_)
    have total : c + (K - c) = K := by omega
    have spec := go_spec t T.tab.ris T.tab.dm (fun i => (es[i]?.map (·.1)).getD 0) (ph P w k) (10 * SetTable.turns t.mask) (K - c) _ (road_clean t.mask (ph P w k) c) (by omega)
      (fun q lt => by rw [road_j]; exact taken (c + q) (by omega)) (by rw [road_j, total]; exact free)
    have hashed : ∀ (i : Nat) p, L[i]? = some p → (fun i => (es[i]?.map (·.1)).getD 0) i = ph P w p.2 := fun i p z => by
      show (es[i]?.map (·.1)).getD 0 = _
      rw [T.row z] <;> rfl
    rcases spec with ⟨q, i, lq, li, lh, skip, pr⟩ | ⟨skip, pr⟩
    · have pr' : t.probe (fun i => (es[i]?.map (·.1)).getD 0) (ph P w k) (stand.getD (t.probeStart (ph P w k))) = some (.candidate (way t.mask (ph P w k) (c + q)) i (road t.mask (ph P w k) (c + (q + 1)))) := by
        rw [at_, ← road_j, ← road_on]
        exact pr
      rw [pr']
      dsimp only
      rw [road_j] at li
      have il : i < L.length := by
        have z1 : i < t.place.toList.length := (List.getElem?_eq_some_iff.mp li).1
        have z2 := T.tab.sz
        rw [List.length_map] at z2
        rw [Array.length_toList] at z1
        omega
      have Li : L[i]? = some L[i] := List.getElem?_eq_getElem il
      generalize L[i] = p at Li
      have pin : p ∈ L := List.mem_of_getElem? Li
      obtain ⟨pb, epb, ispb⟩ := T.tups p pin
      have row := T.row Li
      rw [epb] at row
      have rest : wpAny (model P w) A (searchRest a (.ref x) (ph P w k) true f es t (way t.mask (ph P w k) (c + q)) i (road t.mask (ph P w k) (c + (q + 1)))) Q E s := by
        unfold searchRest
        rw [row]
        dsimp only
        refine wpAny_bind (wpAny_holding (wpAny_eqBool_tuple hu ispb isx ?_))
        refine wpAny_bind (wpAny_setState_of T.ob T.dat T.fit ?_)
        dsimp only
        by_cases eq : p.2 = k
        · exact wp_if_pos (by simp [eq]) (wpAny_pure (inn (List.mem_map.mpr ⟨p, pin, eq⟩)))
        · refine wp_if_neg (by simp [eq]) ?_
          try refine wpAny_bind (wpAny_pure ?_)
          rw [L2.sameMem]
          dsimp only
          have live : t.slot (way t.mask (ph P w k) (c + q)) = .live i := slot_live T.tab.ris li
          simp only [if_true, live, row]
          refine wpAny_bind (wpAny_isSame_ref_self (wpAny_bind (wpAny_pure ?_)))
          simp only [if_true]
          refine wp_if_neg (by simp [eq]) ?_
          refine look_from T isx hu near free taken inn out f (c + (q + 1)) _ rfl (by omega) (by omega) fun j p0 z0 z1 => ?_
          obtain ⟨d, d1, d2, d3⟩ := back j p0 z0 z1
          refine ⟨d, ?_, d2, d3⟩
          rcases Nat.lt_trichotomy d (c + q) with z | z | z
          · refine absurd ((hashed j p0 z0).trans (congrArg (ph P w) z1)) (skip (d - c) j (by omega) ?_)
            rw [road_j, show c + (d - c) = d by omega]
            exact d3
          · rw [z] at d3
            have s0 := slot_live T.tab.ris d3
            rw [live] at s0
            injection s0 with s0
            rw [← s0, Li] at z0
            exact absurd ((congrArg Prod.snd (Option.some.inj z0)).trans z1) eq
          · omega
      by_cases ld : t.led = true
      · refine wp_if_neg (by simp [ld]) ?_
        try refine wpAny_bind (wpAny_pure ?_)
        exact rest
      · refine wp_if_pos (by simp [ld]) (wpAny_bind (unseen_tup isx (fun y m => ?_) ?_))
        · obtain ⟨e, me, ee⟩ := List.mem_map.mp m
          have me1 : e ∈ es ∧ e.1 = ph P w k := by simpa using me
          have me2 : e ∈ es.toList := by simpa using me1.1
          rw [T.same] at me2
          obtain ⟨r, mr, er⟩ := List.mem_map.mp me2
          obtain ⟨b', eb, z⟩ := T.tups r mr
          exact ⟨r.2, b', by rw [← ee, ← er]; exact eb, z⟩
        · refine wp_if_neg (by decide) ?_
          try refine wpAny_bind (wpAny_pure ?_)
          exact rest
    · have pr' : t.probe (fun i => (es[i]?.map (·.1)).getD 0) (ph P w k) (stand.getD (t.probeStart (ph P w k))) = some (.empty (way t.mask (ph P w k) K) none) := by
        have z2 : way t.mask (ph P w k) K = (nth t.mask (road t.mask (ph P w k) c) (K - c)).j := by rw [road_j, total]
        rw [at_, z2]
        exact pr
      rw [pr']
      dsimp only
      refine wpAny_pure (out fun m => ?_)
      obtain ⟨p0, m0, z1⟩ := List.mem_map.mp m
      obtain ⟨j, lj, ej⟩ := List.getElem_of_mem m0
      have z0 : L[j]? = some p0 := by rw [List.getElem?_eq_getElem lj, ej]
      obtain ⟨d, d1, d2, d3⟩ := back j p0 z0 z1
      refine skip (d - c) j (by omega) ?_ ((hashed j p0 z0).trans (congrArg (ph P w) z1))
      rw [road_j, show c + (d - c) = d by omega]
      exact d3
theorem look_at (T : Tbl P w s.heap a L o es ep t) {x : Addr} {k : List Key} (isx : TupIs P w s.heap k x) (hu : A.units < cLine) {Q : SetFound → Shared → Prop} (inn : k ∈ L.map (·.2) → Q (.there none) s)
    (out : ∀ K, k ∉ L.map (·.2) → way t.mask (ph P w k) K ∉ t.place.toList → (∀ c, c < K → way t.mask (ph P w k) c ∈ t.place.toList) → Q (.free (way t.mask (ph P w k) K) false) s) :
    wpAny (model P w) A (setSearch a (.ref x) (ph P w k) true) Q E s := by
  have room := T.room
  obtain ⟨K, near, free, taken⟩ := T.tab.first (by rw [List.length_map]; omega) (ph P w k)
  have big : K < 100000 := by
    have : 10 * SetTable.turns t.mask ≤ 1420 := by
      unfold SetTable.turns
      rcases T.tab.mok with e | e | e <;> omega
    omega
  unfold setSearch
  refine look_from T isx hu near free taken inn (fun z => out K z free taken) 100000 0 none rfl (Nat.zero_le _) (by omega) fun i p z zk => ?_
  have hi : (L.map fun p => ph P w p.2)[i]? = some (ph P w k) := by rw [List.getElem?_map, z, ← zk] <;> rfl
  have il : i < t.place.toList.length := by
    have z1 : i < L.length := (List.getElem?_eq_some_iff.mp z).1
    have z2 := T.tab.sz
    rw [List.length_map] at z2
    rw [Array.length_toList]
    omega
  have hj := List.getElem?_eq_getElem il
  obtain ⟨c, lt, e⟩ := T.tab.before free hi hj
  exact ⟨c, Nat.zero_le _, lt, by rw [hj, e]⟩
end
end K57
namespace K57
open PySem PySem.Spec PyProof.Rows L2
section
variable {P : Program} {w : World} {A : Around} {E : Value → Shared → Prop} {s : Shared} {a : Addr} {L : List (Value × List Key)} {o : Obj} {es : Array (Int × Value)} {ep : Nat} {t : SetTable}
/-- a tuple lies elsewhere than the set -/
theorem tup_apart {h h' : Heap} {k : List Key} {v : Value} (z : TupVal P w h v k) (ob : h.get? a = some o) (dat : o.data = .set es ep t) (sb : Heap.SameBut a h h') : TupVal P w h' v k := by
  obtain ⟨b, e, ob2, its, n, got, cls, dat2, each⟩ := z
  have ne : b ≠ a := by
    rintro rfl
    obtain rfl : ob2 = o := Option.some.inj (got.symm.trans ob)
    rw [dat] at dat2
    exact nomatch dat2
  exact ⟨b, e, ob2, its, n, (sb.2 b ne).trans got, cls, dat2, each⟩
theorem prow_put (L : List (Value × List Key)) (i : Nat) (x : Value) (k : List Key) : (L.take i ++ (x, k) :: L.drop i).map (prow P w) = (L.map (prow P w)).take i ++ (ph P w k, x) :: (L.map (prow P w)).drop i := by
  rw [List.map_append, List.map_cons, List.map_take, List.map_drop] <;> rfl
theorem pick_range {α : Type} (L : List α) : ∀ n, n ≤ L.length → (List.range n).filterMap (fun i => L[i]?) = L.take n
  | 0, _ => rfl
  | n + 1, le => by
    have lt : n < L.length := le
    rw [List.range_succ, List.filterMap_append, pick_range L n (Nat.le_of_lt lt), List.take_succ, List.getElem?_eq_getElem lt]
    rw [List.filterMap_cons_some (List.getElem?_eq_getElem lt)] <;> rfl
theorem relaid_rows (L : List (Value × List Key)) (es : Array (Int × Value)) (order : Array Nat) (same : es.toList = L.map (prow P w)) (pm : order.toList.Perm (List.range L.length)) :
    ∃ N2 : List (Value × List Key), (order.filterMap (es[·]?)).toList = N2.map (prow P w) ∧ N2.Perm L ∧ (N2.map fun p => ph P w p.2) = order.toList.map fun i => (es.map (·.1)).getD i 0 := by
  have len := rows_len same
  have at_ : ∀ i (lt : i < L.length), es[i]? = some (prow P w (L[i])) := fun i lt => by
    rw [← Array.getElem?_toList, same, List.getElem?_map, List.getElem?_eq_getElem lt] <;> rfl
  have all : ∀ l : List Nat, (∀ i ∈ l, i < L.length) → ∃ N2 : List (Value × List Key), l.filterMap (fun i => es[i]?) = N2.map (prow P w) ∧ N2 = l.filterMap (fun i => L[i]?) ∧ (N2.map fun p => ph P w p.2) = l.map fun i => (es.map (·.1)).getD i 0 := by
    intro l
    induction l with
    | nil => exact fun _ => ⟨[], rfl, rfl, rfl⟩
    | cons i l ih =>
      intro lts
      have lt := lts i List.mem_cons_self
      obtain ⟨N2, z1, z2, z3⟩ := ih fun j m => lts j (List.mem_cons_of_mem _ m)
      refine ⟨L[i] :: N2, ?_, ?_, ?_⟩
      · rw [List.filterMap_cons_some (at_ i lt), z1, List.map_cons]
      · rw [List.filterMap_cons_some (List.getElem?_eq_getElem lt), z2]
      · rw [List.map_cons, List.map_cons, z3]
        have z5 : (es.map (·.1))[i]? = some (ph P w (L[i]).2) := by rw [Array.getElem?_map, at_ i lt] <;> rfl
        rw [show (es.map (·.1)).getD i 0 = ph P w (L[i]).2 by simp [Array.getD_eq_getD_getElem?, z5]]
  obtain ⟨N2, z1, z2, z3⟩ := all order.toList fun i m => List.mem_range.mp (pm.mem_iff.mp m)
  refine ⟨N2, by first | (rw [Array.toList_filterMap]; exact z1) | simpa using z1, ?_, z3⟩
  have pm2 : N2.Perm ((List.range L.length).filterMap fun i => L[i]?) := by rw [z2]; exact pm.filterMap _
  rw [pick_range L L.length (Nat.le_refl _), List.take_length] at pm2
  exact pm2
/-- the fifth: the table is laid anew -/
theorem lay_anew (ob : s.heap.get? a = some o) (ex : o.ExactSet) (dat : o.data = .set es ep t) (same : es.toList = L.map (prow P w)) (psz : t.place.size = es.size) (dm : t.dummies = #[]) (le : es.size ≤ t.mask)
    (nd : (L.map (·.2)).Nodup) (tups : ∀ p ∈ L, TupVal P w s.heap p.1 p.2) (led : w.params.followText "set-order" = true ∨ t.led = true) (few : L.length < 64) {want M : Nat}
    (sz : SetTable.sizeAbove want - 1 = M) (mk : MaskOk M) (sm : SetTable.sizeAbove want ≤ 128) (room : L.length * 5 < M * 3) {Q : Unit → Shared → Prop}
    (fin : ∀ h' L', Heap.SameBut a s.heap h' → TblAt P w h' a L' → L'.Perm L → Q () { s with heap := h' }) : wpAny (model P w) A (setRelay a want) Q E s := by
  have len := rows_len same
  have fit : t.fits es.size = true := by
    unfold SetTable.fits SetTable.fill
    rw [dm, Bool.and_eq_true, beq_iff_eq, decide_eq_true_eq]
    show t.place.size = es.size ∧ t.place.size + 0 ≤ t.mask
    omega
  obtain ⟨t', order, e, pm, T, em, el, _, _⟩ := relaid_ok t (hs := es.map (·.1)) (wanted := want) sz mk (by rw [Array.size_map, len]; omega)
  rw [Array.size_map, len] at pm
  obtain ⟨N2, z1, z2, z3⟩ := relaid_rows L es order same pm
  rw [← z3] at T
  have len2 : (order.filterMap (es[·]?)).size = es.size := by rw [rows_len z1, z2.length_eq, len]
  rw [L2.setRelay_eq]
  refine wpAny_bind (wpAny_setState_of ob dat fit ?_)
  dsimp only
  refine wp_if_neg (by rw [sizeLine_eq]; omega) ?_
  try refine wpAny_bind (wpAny_pure ?_)
  rw [e]
  dsimp only
  refine wpAny_bind ?_
  refine wp_if_neg (by rw [len2]; simp) ?_
  try refine wpAny_bind (wpAny_pure ?_)
  refine wpAny_pure ?_
  dsimp only
  refine wpAny_storeSet_of ob dat ?_ (by rw [len2, len, sizeLine_eq]; omega)
  have sb : Heap.SameBut a s.heap (s.heap.update a (Obj.putSet (order.filterMap (es[·]?)) t')) := Heap.SameBut.update ..
  refine fin _ N2 sb ⟨_, order.filterMap (es[·]?), ep + 1, t', L2.store_at ob dat, ⟨ex.1, ex.2.1, ex.2.2⟩, rfl, z1, T, (z2.map (·.2)).nodup_iff.mpr nd, fun p m => tup_apart (tups p (z2.mem_iff.mp m)) ob dat sb, by rw [el]; exact led, ?_, by rw [z2.length_eq]; exact few⟩ z2
  rw [z2.length_eq, em]
  exact room
theorem tup_add {x : Addr} {k : List Key} {Q : Bool → Shared → Prop} (at_ : TblAt P w s.heap a L) (isx : TupIs P w s.heap k x) (hu : A.units < cLine) (few : L.length + 1 < 64)
    (fin : ∀ b h' L', Heap.SameBut a s.heap h' → TblAt P w h' a L' → (k ∈ L.map (·.2) → L' = L) → (k ∉ L.map (·.2) → L'.Perm ((Value.ref x, k) :: L)) → Q b { s with heap := h' }) :
    wpAny (model P w) A (setAddHashed a (.ref x) (ph P w k)) Q E s := by
  obtain ⟨o, es, ep, t, T⟩ := at_
  have len := T.len
  have room := T.room
  unfold setAddHashed
  refine wpAny_holding ?_
  rw [show (100000 : Nat) = 99999 + 1 from rfl, L2.setAddHashedIn_succ]
  refine wpAny_bind (wpAny_setState_of T.ob T.dat T.fit ?_)
  dsimp only
  refine wp_if_neg (by simp [byScan, Value.scannable]) ?_
  try refine wpAny_bind (wpAny_pure ?_)
  refine wpAny_bind (look_at T isx hu (fun m => ?_) fun K no free taken => ?_)
  · dsimp only
    exact wpAny_pure (fin false s.heap L (Heap.SameBut.refl a s.heap) ⟨o, es, ep, t, T⟩ (fun _ => rfl) fun z => absurd m z)
  · dsimp only
    refine wpAny_bind (wpAny_setState_of T.ob T.dat T.fit ?_)
    dsimp only
    obtain ⟨q1, q2, q3, q4, q5, q6, q7, q8, q9⟩ := T.tab.put free taken
    generalize t.put (way t.mask (ph P w k) K) = tp at q1 q3 q4 q5 q6 q7 q8 q9 ⊢
    obtain ⟨t0, i⟩ := tp
    dsimp only at q1 q3 q4 q5 q6 q7 q8 q9 ⊢
    subst q1
    -- whatever is said of its hash, the table's slots stay
    have onward : ∀ t1 : SetTable, t1.place = t0.place → t1.dummies = t0.dummies → t1.mask = t0.mask → t1.led = t0.led → t1.tooFull = t0.tooFull → wpAny (model P w) A (do
        storeSet a (SetTable.insertAt es (SetTable.below t.place (way t.mask (ph P w k) K)) (ph P w k, Value.ref x)) t1
        if (!false && t1.tooFull) = true then do
            setRelay a (SetTable.grown (es.size + 1))
            pure true
          else pure true) Q E s := by
      intro t1 p1 p2 p3 p4 p5
      have into : (SetTable.insertAt es (SetTable.below t.place (way t.mask (ph P w k) K)) (ph P w k, Value.ref x)).toList = (L.take (SetTable.below t.place (way t.mask (ph P w k) K)) ++ (Value.ref x, k) :: L.drop (SetTable.below t.place (way t.mask (ph P w k) K))).map (prow P w) := by
        rw [SetTable.toList_insertAt, prow_put, T.same]
      generalize SetTable.below t.place (way t.mask (ph P w k) K) = i at q2 q3 into ⊢
      have pm := L2.put_perm L i (Value.ref x, k)
      have hs : (L.take i ++ (Value.ref x, k) :: L.drop i).map (fun p => ph P w p.2) = (L.map fun p => ph P w p.2).take i ++ ph P w k :: (L.map fun p => ph P w p.2).drop i := by
        rw [List.map_append, List.map_cons, List.map_take, List.map_drop]
      rw [← hs] at q3
      have nd1 : ((L.take i ++ (Value.ref x, k) :: L.drop i).map (·.2)).Nodup := (pm.map (·.2)).nodup_iff.mpr (by
        rw [List.map_cons]
        exact List.nodup_cons.mpr ⟨no, T.nd⟩)
      have len1 := rows_len into
      rw [pm.length_eq, List.length_cons] at len1
      generalize SetTable.insertAt es i (ph P w k, Value.ref x) = fs at into len1 ⊢
      have llen : (L.take i ++ (Value.ref x, k) :: L.drop i).length = L.length + 1 := pm.length_eq
      generalize L.take i ++ (Value.ref x, k) :: L.drop i = M at pm llen q3 nd1 into
      refine wpAny_bind (wpAny_storeSet_of T.ob T.dat ?_ (by rw [len1, sizeLine_eq]; omega))
      have sb : Heap.SameBut a s.heap (s.heap.update a (Obj.putSet fs t1)) := Heap.SameBut.update ..
      have ob1 := L2.store_at (es' := fs) (t' := t1) T.ob T.dat
      generalize s.heap.update a (Obj.putSet fs t1) = h1 at sb ob1 ⊢
      have tups1 : ∀ p ∈ M, TupVal P w h1 p.1 p.2 := fun p m => (List.mem_cons.mp (pm.mem_iff.mp m)).elim
        (fun e => by rw [e]; exact tup_apart ⟨x, rfl, isx⟩ T.ob T.dat sb) fun m => tup_apart (T.tups p m) T.ob T.dat sb
      have led1 : w.params.followText "set-order" = true ∨ t1.led = true := by rw [p4, q5]; exact T.led
      have tab1 : TabOk t1 (M.map fun p => ph P w p.2) := by
        obtain ⟨r1, r2, r3, r4, r5, r6⟩ := q3
        exact ⟨by rw [p1]; exact r1, by rw [p2]; exact r2, by rw [p1]; exact r3, by rw [p3]; exact r4, by rw [p1, p3]; exact r5, by rw [p1, p3]; exact r6⟩
      by_cases full : t1.tooFull = true
      · first
          | (refine wpAny_bind ?_; refine wp_if_pos (by simp [full]) ?_)
          | (refine wp_if_pos (by simp [full]) ?_; refine wpAny_bind ?_)
        have over : (L.length + 1) * 5 ≥ t0.mask * 3 := by
          have z := p5 ▸ full
          unfold SetTable.tooFull at z
          rw [decide_eq_true_eq, q9, List.length_map] at z
          exact z
        rw [len]
        have psz1 : t1.place.size = fs.size := by
          have z := tab1.sz
          rw [List.length_map, llen] at z
          rw [z, len1]
        have when : (t.mask = 7 ∧ L.length = 4) ∨ (t.mask = 31 ∧ L.length = 18) := by
          rw [q4] at over
          rcases T.tab.mok with e | e | e
          · exact .inl ⟨e, by rw [e] at over room; omega⟩
          · exact .inr ⟨e, by rw [e] at over room; omega⟩
          · rw [e] at over; omega
        have go : ∀ m, SetTable.sizeAbove (SetTable.grown (L.length + 1)) - 1 = m → MaskOk m → SetTable.sizeAbove (SetTable.grown (L.length + 1)) ≤ 128 → (L.length + 1) * 5 < m * 3 →
            wpAny (model P w) A (setRelay a (SetTable.grown (L.length + 1))) (fun _ s' => wpAny (model P w) A (pure true) Q E s') E { s with heap := h1 } := fun m g1 g2 g3 g4 => by
          refine lay_anew (s := { s with heap := h1 }) ob1 ⟨T.ex.1, T.ex.2.1, T.ex.2.2⟩ rfl into psz1 tab1.dm (by rw [len1, p3, q4]; rcases when with ⟨e, e2⟩ | ⟨e, e2⟩ <;> omega) nd1 tups1 led1 (by rw [llen]; exact few) g1 g2 g3 (by rw [llen]; exact g4) fun h2 N2 sb2 at2 pm2 => ?_
          exact wpAny_pure (fin true h2 N2 (sb.trans sb2) at2 (fun z => absurd z no) fun _ => pm2.trans pm)
        rcases when with ⟨_, e2⟩ | ⟨_, e2⟩
        · exact go 31 (by rw [e2, size_20]) (.inr (.inl rfl)) (by rw [e2, size_20]; decide) (by omega)
        · exact go 127 (by rw [e2, size_76]) (.inr (.inr rfl)) (by rw [e2, size_76]; decide) (by omega)
      · first
          | refine wp_if_neg (by simp [full]) ?_
          | (refine wpAny_bind ?_; refine wp_if_neg (by simp [full]) ?_; refine wpAny_pure ?_)
        refine wpAny_pure (fin true h1 M sb ⟨_, fs, ep + 1, t1, ob1, ⟨T.ex.1, T.ex.2.1, T.ex.2.2⟩, rfl, into, tab1, nd1, tups1, led1, ?_, by rw [llen]; exact few⟩ (fun z => absurd z no) fun _ => pm)
        have z : ¬ t0.tooFull = true := by rw [← p5]; exact full
        unfold SetTable.tooFull at z
        rw [decide_eq_true_eq, q9, List.length_map] at z
        rw [llen, p3]
        omega
    by_cases pl : t0.plain = true
    · first
        | (refine wpAny_bind ?_; refine wp_if_pos pl ?_; refine byVal_tup isx fun c => ?_)
        | refine wp_if_pos pl (wpAny_bind (byVal_tup isx fun c => ?_))
      cases c with
      | true =>
        simp only [if_true]
        exact onward t0 rfl rfl rfl rfl rfl
      | false =>
        simp only [Bool.false_eq_true, if_false]
        exact onward { t0 with plain := false } rfl rfl rfl rfl rfl
    · first
        | (refine wpAny_bind ?_; refine wp_if_neg pl ?_; refine wpAny_pure ?_)
        | refine wp_if_neg pl ?_
      try simp only [if_true]
      exact onward t0 rfl rfl rfl rfl rfl
end
def tupSet (P : Program) (w : World) : SetKd P w (List Key) where
  Key := TupVal P w
  At := TblAt P w
  fresh := fun h a z => ⟨_, #[], 0, .fresh 0 0 (!w.params.followText "set-order"), z, ⟨rfl, rfl, rfl⟩, rfl, rfl, ⟨List.Pairwise.nil, rfl, rfl, .inl rfl, fun x m => (by cases m), fun i h j hi => (by simp at hi)⟩, List.nodup_nil, fun p m => (nomatch m), by
      show _ ∨ (!w.params.followText "set-order") = true
      cases w.params.followText "set-order" <;> simp, by
      show 0 * 5 < 7 * 3
      decide, by
      show 0 < 64
      decide⟩
  keyKeep := fun h h' v k kp ⟨b, e, ob, its, n, got, r⟩ => ⟨b, e, ob, its, n, kp b ob got, r⟩
  keep := fun h h' a L z tups ⟨o, es, ep, t, T⟩ => ⟨o, es, ep, t, { T with ob := z o T.ob, tups := tups }⟩
  nd := fun h a L ⟨o, es, ep, t, T⟩ => T.nd
  add := fun A E s a L v k Q hu room at_ ⟨b, e, isx⟩ fin => by
    subst e
    unfold setAdd
    refine wpAny_holding (wpAny_bind (wpAny_pyHash_tuple hu isx ?_))
    exact tup_add (s := { s with toks := s.toks + (k.length + 1) }) at_ isx hu room fun b h' L' sb a2 c1 c2 => fin b h' _ L' sb a2 c1 c2
  rows := fun h a L ⟨o, es, ep, t, T⟩ => ⟨es, ep, t, ⟨o, T.ob, T.ex.1, T.dat⟩, T.fit, by rw [rows_len T.same]; have := T.few; unfold scanBound; omega, T.tab.ris, T.led, by rw [T.same, List.map_map] <;> rfl⟩
end K57
namespace K57
open PySem PySem.Spec PyProof.Rows L2
section
variable {P : Program} {w : World} {α : Type} (C : SetKd P w α) {A : Around} {E : Value → Shared → Prop} {s : Shared}
/-- set(xs), whatever xs is filled with -/
theorem set_cls {l : Addr} {items : Array Value} (ks : List (Value × α)) {Q : Value → Shared → Prop} (calm : A.handled = none) (isL : s.heap.IsList l items) (each : items.toList = ks.map (·.1)) (keys : ∀ p ∈ ks, C.Key s.heap p.1 p.2) (few : ks.length < 64) (room : A.units + 3 < cLine)
    (fin : ∀ (h' : Heap) (tk : Nat) L, C.At h' s.heap.objs.size L → Had ks ks.length L → (∀ b o, s.heap.get? b = some o → h'.get? b = some o) → Q (.ref s.heap.objs.size) { s with heap := h', toks := tk }) :
    wpAny (model P w) A (call (.type "set") [.ref l]) Q E s := by
  have len : items.size = ks.length := by rw [← Array.length_toList, each, List.length_map]
  obtain ⟨c0, tl0, mro0⟩ := F.called_set.mro
  have mk0 := F.called_set.made
  have sub0 := F.called_set.sub
  refine wpAny_call (codeAny_of_tree ?_)
  show wpAny _ _ (callAny (.type "set") _) _ _ _
  refine wpAny_pure ⟨Code.quiet_builtin _ (by decide +kernel), codeAny_builtin F.entry_type_call ?_⟩
  rw [Around.under_plain (weight_type_call_type "set" [.ref l] []) rfl]
  have nt0 := F.called_set.notType
  have cc0 := F.called_set.canCreate
  have tc0 := F.typeCall_set_1 (.ref l)
  repeat (any_goals (first | assumption | wp_step))
  refine codeAny_mono (code_set_led1 (.ref l) (E := E) (Q₁ := fun x u => x = .ref s.heap.objs.size ∧ u = { s with heap := s.heap.push (newSet w) }) ⟨rfl, rfl⟩) fun r u done => ?_
  cases r with
  | error e => exact done
  | ok fl =>
    cases fl with
    | ret obj =>
      obtain ⟨rfl, rfl⟩ := done
      have got : (s.heap.push (newSet w)).get? s.heap.objs.size = some (newSet w) := Heap.get?_push_size _ rfl
      have ty : Shared.TypeIs { s with heap := s.heap.push (newSet w) } (.ref s.heap.objs.size) "set" := ⟨_, got, rfl⟩
      have look0 := F.called_set.init.lookup
      have bind0 := F.called_set.init.bind (.ref s.heap.objs.size)
      repeat (any_goals (first | assumption | wp_step))
      refine codeAny_mono (codeAny_call_builtin (R := wants (fun r v => r = .none ∧ ∃ h' tk L, v = { s with heap := h', toks := tk } ∧ C.At h' s.heap.objs.size L ∧ Had ks ks.length L ∧ (∀ b o, s.heap.get? b = some o → h'.get? b = some o)) E) F.called_set.init.plain F.entry_set_init (check_set_init_1 ty ?_)) fun r2 v done2 => ?_
      · obtain ⟨ol, gl, cl, nl, dl⟩ := isL
        obtain ⟨lcls, ldict, ldata, lslots⟩ := ol
        simp only at cl dl
        subst cl; subst dl
        have gl' : (s.heap.push (newSet w)).get? l = some { cls := .type "list", dict := ldict, data := .seq items nl, slots := lslots } := Heap.get?_push_of_some _ gl
        have sls0 := F.sub_list_set
        have slf0 := F.sub_list_frozenset
        have nd0 : (Value.type "list" == Value.type "dict") = false := by decide
        have isL1 : (s.heap.push (newSet w)).IsList l items := ⟨_, gl', rfl, nl, rfl⟩
        unfold Builtin.«set.__init__» noKeywords Builtin.Frozenset.updateFrom
        generalize iter0 : pyIter = it0
        wp_walk
        subst iter0
        refine wpAny_pyIter_list isL1 ?_
        refine wpAny_bind (wpAny_runValue ?_)
        have ltS : l < s.heap.objs.size := Heap.lt_size gl
        have sz1 : (s.heap.push (newSet w)).objs.size = s.heap.objs.size + 1 := Heap.size_push ..
        have calm3 : A.in1.in1.in1.handled = none := by simp [calm]
        have apartL : l ≠ (s.heap.push (newSet w)).objs.size := by rw [sz1]; exact (Nat.ne_of_lt (Nat.lt_succ_of_lt ltS))
        have apartD : s.heap.objs.size ∉ [(s.heap.push (newSet w)).objs.size, l] := by
          rw [sz1]
          simp only [List.mem_cons, List.not_mem_nil, or_false, not_or]
          exact ⟨(Nat.ne_of_lt (Nat.lt_succ_self _)), Nat.ne_of_gt ltS⟩
        have what : ∀ (i : Nat) (v : Value), items[i]? = some v → ∃ p, ks[i]? = some p ∧ v = p.1 := fun i v z => by
          rw [← Array.getElem?_toList, each, List.getElem?_map] at z
          obtain ⟨p, z1, z2⟩ := Option.map_eq_some_iff.mp z
          exact ⟨p, z1, z2.symm⟩
        have beyond : ∀ b, s.heap.objs.size ≤ b → s.heap.get? b = none := fun b le => by
          cases q : s.heap.get? b with
          | none => rfl
          | some o => exact absurd (Heap.lt_size q) (Nat.not_lt_of_le le)
        refine K57.cls_loop C ((Walks.list calm3 _ l apartL items).toS) s.heap.objs.size apartD ks len few what s.heap keys (beyond _ (Nat.le_refl _)) (fun b m => beyond b (by
            rw [List.mem_singleton.mp m, sz1]
            exact Nat.le_succ _)) room (items.size - 0) 0 _ (by omega) (Nat.zero_le _) ⟨⟨_, Heap.get?_push_size _ rfl, rfl, rfl⟩, (isL1.push _)⟩ (fun b o z => Heap.get?_push_of_some _ (Heap.get?_push_of_some _ z)) ?start ?stop
        case start => exact ⟨[], C.fresh _ _ (Heap.get?_push_of_some _ got), Had.none_ ks⟩
        case stop =>
          intro s' L mv at_ had kp
          obtain ⟨h', g', d', tk', os'⟩ := s'
          have z1 : g' = s.gens := mv.gens
          have z2 : d' = s.drawn := mv.drawn
          have z3 : os' = s.os := mv.os
          subst z1; subst z2; subst z3
          show wpAny _ _ _ _ _ _
          refine wpAny_pure ?_
          show wpAny _ _ (ret Value.none) _ _ _
          rw [len] at had
          exact wpAny_pure ⟨rfl, h', tk', L, rfl, at_, had, kp⟩
      · cases r2 with
        | error e => exact done2
        | ok fl2 =>
          cases fl2 with
          | ret r =>
            obtain ⟨rfl, h', tk, L, rfl, at_, had, kp⟩ := done2
            repeat (any_goals (first | assumption | wp_step))
            exact fin _ _ _ at_ had kp
          | _ => exact done2.elim
    | _ => exact done.elim
end
end K57
namespace K57
open PySem PySem.Spec PyProof.Rows L2
/-! ### a set, sorted -/
theorem perm_lift {β γ : Type} {f : β → γ} {vs us : List γ} (pm : vs.Perm us) : ∀ L : List β, us = L.map f → ∃ M : List β, M.Perm L ∧ vs = M.map f := by
  induction pm with
  | nil => exact fun L z => ⟨L, .refl _, z⟩
  | cons x _ ih =>
    intro L z
    cases L with
    | nil => exact nomatch z
    | cons q L =>
      rw [List.map_cons] at z
      injection z with z1 z2
      obtain ⟨M, p, e⟩ := ih L z2
      exact ⟨q :: M, p.cons q, by rw [List.map_cons, e, z1]⟩
  | swap x y l =>
    intro L z
    match L, z with
    | q :: r :: L, z =>
      rw [List.map_cons, List.map_cons] at z
      injection z with z1 z2
      injection z2 with z2 z3
      exact ⟨r :: q :: L, List.Perm.swap q r L, by rw [List.map_cons, List.map_cons, z1, z2, z3]⟩
  | trans _ _ ih1 ih2 =>
    intro L z
    obtain ⟨M, p, e⟩ := ih2 L z
    obtain ⟨N, p', e'⟩ := ih1 M e
    exact ⟨N, p'.trans p, e'⟩
def encK1 : Key → PyData | .inl i => .int i | .inr x => .str x
theorem each_self {β : Type} {R : Value → β → Prop} {f : β → Value} : ∀ {L : List β}, (∀ p ∈ L, R (f p) p) → PySem.W.EachIs R (L.map f) L
  | [], _ => .nil
  | p :: L, z => .cons (z p List.mem_cons_self) (each_self fun q m => z q (List.mem_cons_of_mem _ m))
theorem each_map_of {β : Type} {f : β → Value} : ∀ {out : List Value} {L : List β}, PySem.W.EachIs (fun v p => v = f p) out L → out = L.map f
  | _, _, .nil => rfl
  | _, _, .cons z t => by rw [List.map_cons, z, each_map_of t]
section
variable {P : Program} {w : World} {α : Type} (C : SetKd P w α) {A : Around} {E : Value → Shared → Prop} {s : Shared}
theorem sorted_cls {a : Addr} {L : List (Value × α)} {Q : Value → Shared → Prop} (enc : α → PyData) (calm : A.handled = none) (at_ : C.At s.heap a L) (reads : ∀ (h : Heap) v k, C.Key h v k → Reads h v (enc k) []) (keys : ∀ p ∈ L, C.Key s.heap p.1 p.2)
    (like : PySem.W.AllAlike (L.map fun p => enc p.2)) (can : PySem.W.Sortable (L.map fun p => enc p.2)) (room : ∀ p ∈ L, A.units + 2 + (enc p.2).depth < cLine)
    (fin : ∀ s' p (M : List (Value × α)) c, (∀ b o, s.heap.get? b = some o → s'.heap.get? b = some o) → s'.gens = s.gens → s'.os = s.os → s.heap.objs.size ≤ p → s'.heap.get? p = some (seqObj "list" (M.map (·.1)).toArray c) → M.Perm L → M.Pairwise (fun q r => PySem.W.dataLt (enc r.2) (enc q.2) = false) → Q (.ref p) s') :
    wpAny (model P w) A (call (.builtin "sorted") [.ref a]) Q E s := by
  obtain ⟨es, ep, t, sat, fit, few, ris, led, rows⟩ := C.rows _ _ _ at_
  have short : L.length < scanBound := by
    have z := congrArg List.length rows
    rw [List.length_map, List.length_map, Array.length_toList] at z
    omega
  refine Calls.call_function_entry kind_sorted plain_sorted entry_sorted (args_sorted1 _) ?_
  unfold Builtin.«sorted»
  refine wpAny_bind (m := checkCount "sorted" 1 1 _) (wpAny_pure ?_)
  refine wpAny_bind (collect_set (A := A.in1) calm sat fit few ris led fun s1 vs kp grow g1 o1 pm => ?_)
  rw [rows] at pm
  obtain ⟨N, pN, eN⟩ := K57.perm_lift pm L rfl
  have inN : ∀ p ∈ N, p ∈ L := fun p m => pN.mem_iff.mp m
  have lenN : N.length < 4096 := by rw [pN.length_eq]; exact short
  have rd : ∀ h, (∀ b o, s.heap.get? b = some o → h.get? b = some o) → PySem.W.EachIs (fun v (b : Value × α) => ∃ as, Reads h v (enc b.2) as ∧ s1.heap.objs.size ∉ as) vs N := fun h k => by
    rw [eN]
    exact K57.each_self fun p m => ⟨[], reads _ _ _ (C.keyKeep _ _ _ _ k (keys p (inN p m))), List.not_mem_nil⟩
  have lenV : vs.length = N.length := by rw [eN, List.length_map]
  refine wpAny_bind (wpAny_newList ?_ (by rw [sizeLine_eq]; first | omega | (simp only [List.size_toArray]; omega) | (show vs.length ≤ _; omega)))
  have ob : (s1.heap.push (seqObj "list" vs.toArray 0)).get? s1.heap.objs.size = some (seqObj "list" vs.toArray 0) := Heap.get?_push_size _ rfl
  show wpAny _ _ _ _ _ { s1 with heap := s1.heap.push (seqObj "list" vs.toArray 0) }
  have kp2 : ∀ b o, s.heap.get? b = some o → (s1.heap.push (seqObj "list" vs.toArray 0)).get? b = some o := fun b o z => Heap.get?_push_of_some _ (kp b o z)
  have sub : ∀ d ∈ N.map (fun p => enc p.2), d ∈ L.map (fun p => enc p.2) := fun d m => by
    obtain ⟨p, mp, e⟩ := List.mem_map.mp m
    exact List.mem_map.mpr ⟨p, inN p mp, e⟩
  refine wpAny_bind (wpAny_holding (PySem.W.list_sort_data (s := { s1 with heap := s1.heap.push (seqObj "list" vs.toArray 0) }) (bs := N) (enc := fun p => enc p.2) (R := fun v p => v = p.1) ob ?_ ?_ ?_ ?_ ?_ ?_ fun out lo z => ?_))
  · rw [eN]
    exact K57.each_self fun p _ => rfl
  · exact rd _ kp2
  · exact fun d m d' m' => like d (sub d m) d' (sub d' m')
  · exact can.imp (fun z d m => z d (sub d m)) fun z d m => z d (sub d m)
  · rw [sizeLine_eq]; omega
  · exact fun p m => room p (inN p m)
  · obtain ⟨c, at2⟩ := sortedHeap_at (vs := vs) (out := out.toArray) ob
    have eo := K57.each_map_of (f := fun p : Value × α => p.1) z
    have pm2 : (N.mergeSort (PySem.W.dataLe false fun p => enc p.2)).Perm N := List.mergeSort_perm _ _
    refine wpAny_pure ⟨_, rfl, fin _ s1.heap.objs.size (N.mergeSort (PySem.W.dataLe false fun p => enc p.2)) c (fun b o z => ?_) g1 o1 grow (by rw [← eo]; exact at2) (pm2.trans pN) ?_⟩
    · have q := kp b o z
      have lt := Heap.lt_size q
      show (sortedHeap (s1.heap.push (seqObj "list" vs.toArray 0)) s1.heap.objs.size vs out.toArray).get? b = some o
      rw [sortedHeap_old (Nat.ne_of_lt lt) (by rw [size_push']; exact Nat.lt_succ_of_lt lt)]
      exact Heap.get?_push_of_some _ q
    · refine (List.pairwise_mergeSort (fun a b c => ?_) (fun a b => ?_) N).imp fun {q r} z => ?_
      · exact le_trans_data (V.non, enc a.2) (V.non, enc b.2) (V.non, enc c.2)
      · exact le_total_data (V.non, enc a.2) (V.non, enc b.2)
      · rw [PySem.W.dataLe_eq] at z
        simpa using z
end
end K57
namespace K57
open PySem PySem.Spec PyProof.Rows L2
theorem trip {α γ : Type} {F : V → γ → Prop} {Ok : Value → α → Prop} (kk : γ → α) (ok : ∀ x l u, F x l → RelV x u → Ok u (kk l)) : ∀ {xs : List V} {ls : List γ} {us : List Value}, Paired F xs ls → Vals xs us →
    ∃ T : List (V × Value × γ), T.map (fun t => t.1) = xs ∧ T.map (fun t => t.2.1) = us ∧ T.map (fun t => t.2.2) = ls ∧ ∀ t ∈ T, RelV t.1 t.2.1 ∧ Ok t.2.1 (kk t.2.2)
  | _, _, _, .nil, .nil => ⟨[], rfl, rfl, rfl, fun t m => nomatch m⟩
  | x :: _, l :: _, u :: _, .cons z zs, .cons r rs => by
    obtain ⟨T, e1, e2, e3, all⟩ := trip kk ok zs rs
    exact ⟨(x, u, l) :: T, by rw [List.map_cons, e1], by rw [List.map_cons, e2], by rw [List.map_cons, e3], fun t m => (List.mem_cons.mp m).elim (fun e => by rw [e]; exact ⟨r, ok x l u z r⟩) (all t)⟩
theorem trip_back {α γ : Type} (kk : γ → α) (T : List (V × Value × γ)) : ∀ M : List (Value × α), (∀ q ∈ M, q ∈ T.map fun t => (t.2.1, kk t.2.2)) → ∃ U : List (V × Value × γ), U.map (fun t => (t.2.1, kk t.2.2)) = M ∧ ∀ t ∈ U, t ∈ T
  | [], _ => ⟨[], rfl, fun t m => nomatch m⟩
  | q :: M, z => by
    obtain ⟨t, mt, e⟩ := List.mem_map.mp (z q List.mem_cons_self)
    obtain ⟨U, e2, all⟩ := trip_back kk T M fun r m => z r (List.mem_cons_of_mem _ m)
    exact ⟨t :: U, by rw [List.map_cons, e2, e], fun u m => (List.mem_cons.mp m).elim (fun e => by rw [e]; exact mt) (all u)⟩
theorem trip_vals {γ : Type} : ∀ {U : List (V × Value × γ)}, (∀ t ∈ U, RelV t.1 t.2.1) → Vals (U.map fun t => t.1) (U.map fun t => t.2.1)
  | [], _ => .nil
  | t :: U, z => .cons (z t List.mem_cons_self) (trip_vals fun u m => z u (List.mem_cons_of_mem _ m))
theorem zip_maps {β γ δ : Type} (f : β → γ) (g : β → δ) : ∀ l : List β, (l.map f).zip (l.map g) = l.map fun t => (f t, g t)
  | [] => rfl
  | t :: l => by rw [List.map_cons, List.map_cons, List.zip_cons_cons, zip_maps f g l, List.map_cons]
theorem up_strict {x y : PyData} (ne : PySem.W.keyToks x ≠ PySem.W.keyToks y) (z : PySem.W.dataLt y x = false) : PySem.W.dataLt x y = true := by
  cases q : PySem.W.dataLt x y with
  | true => rfl
  | false => exact absurd (PyProof.Rows.lex_total _ _ q z) ne
section
variable {X : Cx} {α γ : Type} (C : SetKd X.prog X.w α) (enc : α → PyData) (kk : γ → α)
theorem sort_core {pins : List (Addr × Obj)} {σ : L2.St} {H : Hp} {s : Shared} {E : Value → Shared → Prop} {a : Addr} {us : List Value} {n : Nat} {Q : VK} {Z : Value → Shared → Prop} (I : Inv X pins σ H s) (hc : X.calm = true) (hu : X.A.units + 65 < cLine)
    (reads : ∀ (h : Heap) v k, C.Key h v k → Reads h v (enc k) []) (apart : ∀ k k', PySem.W.keyToks (enc k) = PySem.W.keyToks (enc k') → k = k')
    (got : s.heap.get? a = some (seqObj "list" us.toArray n)) (T : List (V × Value × γ)) (eu : T.map (fun t => t.2.1) = us) (ok : ∀ t ∈ T, RelV t.1 t.2.1 ∧ C.Key s.heap t.2.1 (kk t.2.2)) (few : T.length ≤ 5)
    (like : ∀ l l' : γ, PySem.W.alike (enc (kk l)) (enc (kk l')) = true) (can : PySem.W.Sortable (T.map fun t => enc (kk t.2.2))) (deep : ∀ l, (enc (kk l)).depth ≤ 2)
    (fin : ∀ (zs : List (V × PyData)) p H2, (∀ z ∈ zs, z ∈ (T.map fun t => t.1).zip (T.map fun t => enc (kk t.2.2))) → (∀ d ∈ T.map (fun t => enc (kk t.2.2)), ∃ z ∈ zs, z.2 = d) → zs.Pairwise (fun a b => PySem.W.dataLt a.2 b.2 = true) → New H p (.lst (zs.map Prod.fst)) H2 → Q (.ref p) H2)
    (done : ∀ v s', (∃ x H', Inv X pins σ H' s' ∧ RelV x v ∧ Q x H') → Z v s') :
    wpAny (model X.prog X.w) X.A (call (.type "set") [.ref a]) (fun v s2 => wpAny (model X.prog X.w) X.A (call (.builtin "sorted") [v]) Z E s2) E s := by
  have len : (T.map fun t => (t.2.1, kk t.2.2)).length ≤ 5 := by rw [List.length_map]; exact few
  refine set_cls C (T.map fun t => (t.2.1, kk t.2.2)) (items := us.toArray) (I.ok.hd hc) ⟨_, got, rfl, _, rfl⟩ ?_ (fun p m => ?_) (Nat.lt_of_le_of_lt len (by decide)) (by omega) fun h' tk L at_ had kp => ?_
  · rw [List.map_map, List.toList_toArray, ← eu] <;> rfl
  · obtain ⟨t, mt, e⟩ := List.mem_map.mp m
    rw [← e]
    exact (ok t mt).2
  have I2 : Inv X pins σ H { s with heap := h', toks := tk } := I.kept kp
  have inL : ∀ q ∈ L, q ∈ T.map fun t => (t.2.1, kk t.2.2) := fun q m => List.mem_of_mem_take (had.from_ q m)
  have ofL : ∀ q ∈ L, ∃ t ∈ T, q = (t.2.1, kk t.2.2) := fun q m => (List.mem_map.mp (inL q m)).imp fun t z => ⟨z.1, z.2.symm⟩
  refine sorted_cls (s := { s with heap := h', toks := tk }) C enc (I.ok.hd hc) at_ reads (fun q m => ?_) (fun d m d' m' => ?_) ?_ (fun q m => ?_) fun s' p M c kp2 g o hp got2 pm pw => ?_
  · obtain ⟨t, mt, rfl⟩ := ofL q m
    exact C.keyKeep _ _ _ _ kp (ok t mt).2
  · obtain ⟨q, mq, rfl⟩ := List.mem_map.mp m
    obtain ⟨q', mq', rfl⟩ := List.mem_map.mp m'
    obtain ⟨t, _, rfl⟩ := ofL q mq
    obtain ⟨t', _, rfl⟩ := ofL q' mq'
    exact like _ _
  · have sub : ∀ d ∈ L.map (fun q => enc q.2), d ∈ T.map fun t => enc (kk t.2.2) := fun d m => by
      obtain ⟨q, mq, rfl⟩ := List.mem_map.mp m
      obtain ⟨t, mt, rfl⟩ := ofL q mq
      exact List.mem_map.mpr ⟨t, mt, rfl⟩
    exact can.imp (fun z d m => z d (sub d m)) fun z d m => z d (sub d m)
  · obtain ⟨t, mt, rfl⟩ := ofL q m
    have := deep t.2.2
    show X.A.units + 2 + (enc (kk t.2.2)).depth < cLine
    omega
  · obtain ⟨U, eU, inU⟩ := trip_back kk T M fun q m => inL q (pm.mem_iff.mp m)
    have hn : H p = none := I2.hok.fresh hp
    have vals : Vals (U.map fun t => t.1) (M.map fun q => q.1) := by
      have z := trip_vals fun t m => (ok t (inU t m)).1
      rw [← eU, List.map_map]
      exact z
    have short : (U.map fun t => t.1).length ≤ sizeLine := by
      have z := congrArg List.length eU
      rw [List.length_map] at z
      have z2 := had.most
      rw [List.length_map, z, pm.length_eq, sizeLine_eq]
      omega
    have nd : (M.map fun q => q.2).Nodup := (pm.map (·.2)).nodup_iff.mpr (C.nd _ _ _ at_)
    have strict : M.Pairwise fun q r => PySem.W.dataLt (enc q.2) (enc r.2) = true := (List.Pairwise.and (List.pairwise_map.mp nd) pw).imp fun {q r} z => up_strict (fun e => z.1 (apart _ _ e)) z.2
    rw [← eU] at strict
    have J : Inv X pins σ (upd H p (.lst (U.map fun t => t.1))) s' := I2.call' (ch := []) o (Un.laid kp2 hp hn) (I2.hok.laid kp2 hp ⟨short, M.map (·.1), c, vals, got2⟩) (by rw [g]; exact I2.bare) (fun _ z => nomatch z)
    have zsf : (U.map fun t => (t.1, enc (kk t.2.2))).map Prod.fst = U.map fun t => t.1 := by rw [List.map_map] <;> rfl
    refine done _ _ ⟨.ref p, _, J, rfl, fin (U.map fun t => (t.1, enc (kk t.2.2))) p _ (fun z m => ?_) (fun d m => ?_) (List.pairwise_map.mpr (List.pairwise_map.mp strict)) (by rw [zsf]; exact new_upd hn)⟩
    · obtain ⟨t, mt, rfl⟩ := List.mem_map.mp m
      rw [zip_maps]
      exact List.mem_map.mpr ⟨t, inU t mt, rfl⟩
    · obtain ⟨t, mt, rfl⟩ := List.mem_map.mp m
      have z : kk t.2.2 ∈ L.map (·.2) := had.every (t.2.1, kk t.2.2) (by rw [List.take_length]; exact List.mem_map.mpr ⟨t, mt, rfl⟩)
      obtain ⟨q, mq, eq⟩ := List.mem_map.mp z
      have mq2 := pm.mem_iff.mpr mq
      rw [← eU] at mq2
      obtain ⟨u, mu, eqq⟩ := List.mem_map.mp mq2
      refine ⟨_, List.mem_map.mpr ⟨u, mu, rfl⟩, ?_⟩
      show enc (kk u.2.2) = enc (kk t.2.2)
      rw [← eq, ← eqq]
end
end K57
namespace K57
open PySem PySem.Spec PyProof.Rows L2
theorem readsK {h : Heap} {v : Value} {k : Key} (z : keyIs k v = true) : Reads h v (encK1 k) [] := by
  rcases keyIs_shape z with ⟨i, t, rfl, rfl⟩ | ⟨x, t, rfl, rfl⟩
  · exact .int i t
  · exact .str x t
theorem toksK : ∀ k : Key, PySem.W.keyToks (encK1 k) = [match k with | .inl i => .inl i | .inr x => .inr x.cps.toList]
  | .inl i => by simp only [encK1, PySem.W.keyToks]
  | .inr x => by simp only [encK1, PySem.W.keyToks]
theorem tok_key {k k' : Key} (z : (match k with | .inl i => .inl i | .inr x => .inr x.cps.toList : Int ⊕ List Nat) = (match k' with | .inl i => .inl i | .inr x => .inr x.cps.toList : Int ⊕ List Nat)) : k = k' := by
  cases k with
  | inl i =>
    cases k' with
    | inl j => exact congrArg Sum.inl (Sum.inl.inj z)
    | inr y => exact nomatch z
  | inr x =>
    cases k' with
    | inl j => exact nomatch z
    | inr y => exact congrArg Sum.inr (PySem.W.str_of_cps (Sum.inr.inj z))
theorem apartK (k k' : Key) (z : PySem.W.keyToks (encK1 k) = PySem.W.keyToks (encK1 k')) : k = k' := by
  rw [toksK, toksK] at z
  injection z with z _
  exact tok_key z
def encP1 (k : List Key) : PyData := .tuple (k.map encK1)
theorem readsPs {P : Program} {w : World} {h : Heap} {k : List Key} {vs : List Value} (z : PySem.ItemsAre (mixKind P w) k vs) : ReadsAll h vs (k.map encK1) [] := by
  induction z with
  | nil => exact .nil
  | @cons q v ks us z1 _ ih => exact ReadsAll.cons (as := []) (bs := []) (readsK z1) ih
theorem readsP {P : Program} {w : World} {h : Heap} {v : Value} {k : List Key} : TupVal P w h v k → Reads h v (encP1 k) []
  | ⟨b, e, ob, its, n, got, cls, dat, each⟩ => by
    subst e
    exact .tuple got cls dat (readsPs each)
theorem apartPs : ∀ k k' : List Key, PySem.W.keyToksAll (k.map encK1) = PySem.W.keyToksAll (k'.map encK1) → k = k'
  | [], [], _ => rfl
  | [], q :: k', z => by
    rw [List.map_nil, List.map_cons, PySem.W.keyToksAll, PySem.W.keyToksAll] at z
    injection z with z _
    injection z with z
    exact absurd z (by decide)
  | q :: k, [], z => by
    rw [List.map_nil, List.map_cons, PySem.W.keyToksAll, PySem.W.keyToksAll] at z
    injection z with z _
    injection z with z
    exact absurd z (by decide)
  | q :: k, r :: k', z => by
    rw [List.map_cons, List.map_cons, PySem.W.keyToksAll, PySem.W.keyToksAll, toksK, toksK] at z
    injection z with _ z
    injection z with z1 z2
    rw [tok_key z1, apartPs k k' z2]
theorem apartP (k k' : List Key) (z : PySem.W.keyToks (encP1 k) = PySem.W.keyToks (encP1 k')) : k = k' := by
  unfold encP1 at z
  rw [PySem.W.keyToks, PySem.W.keyToks] at z
  exact apartPs k k' z
def kkP (l : Int × Str) : List Key := [.inl l.1, .inr l.2]
theorem str_key {u : Value} {n : Str} : RelV (.str n) u → keyIs (.inr n) u = true
  | ⟨t, e⟩ => by rw [e]; exact keyIs_str n t
theorem int_key {u : Value} {n : Int} : RelV (.int n) u → keyIs (.inl n) u = true
  | ⟨t, e⟩ => by rw [e]; exact keyIs_int n t
theorem paired_map {γ : Type} (f : γ → V) : ∀ l : List γ, Paired (fun x y => x = f y) (l.map f) l
  | [] => .nil
  | y :: l => .cons rfl (paired_map f l)
theorem pe_sortSet {X : Cx} {e : Expr} {te : TE} {p1 p2 q1 q2 : Pos} (hc : X.calm = true) (hu : X.A.units + 65 < cLine) (hg1 : Gl X "sorted") (hm1 : X.mg "sorted" = none) (hg2 : Gl X "set") (hm2 : X.mg "set" = none) (h : PE X e te)
    (na : starEach [e] X.env = (false, eval e X.env) :: starEach [] X.env := by rfl) :
    PE X (.Call (.Name "sorted" p1) [.Call (.Name "set" p2) [e] [] q2] [] q1) (tSortSet te) := by
  refine ⟨fun pins s σ H Q I z => ?_⟩
  refine Call_ (ld_blt I hg1 hm1 PyProof.Rows.boot_sorted ?_)
  refine PyProof.Rows.callWith_builtin1 (PyProof.Rows.args_cons ?_ rfl) rfl rfl
  refine Call_ (ld_blt I hg2 hm2 PyProof.Rows.boot_set ?_)
  refine PyProof.Rows.callWith_type1 (PyProof.Rows.args_cons (thn (h.run pins s σ H _ I z) fun v s1 ⟨x, H1, I1, r1, y1⟩ => PyProof.Rows.args_nil ?_) na) na rfl
  obtain ⟨a, xs, ds, rfl, ha, cls, few, fin⟩ := y1
  cases r1
  obtain ⟨_, us, n, vals, got⟩ := I1.hok a _ ha
  refine thn (Q := fun v s2 => wpAny (model X.prog X.w) X.A (call (.builtin "sorted") [v]) _ _ s2) ?_ fun v s2 y => PyProof.Rows.args_nil y
  rcases cls with ⟨ns, rfl, rfl⟩ | ⟨ns, rfl, rfl⟩ | ⟨ls, pr, rfl⟩
  · obtain ⟨T, e1, e2, e3, all⟩ := trip (Ok := fun v k => keyIs k v = true) (fun n : Str => (Sum.inr n : Key)) (fun x l u z r => by rw [z] at r; exact str_key r) (paired_map V.str ns) vals
    have ed : (T.map fun t => encK1 (Sum.inr t.2.2)) = ns.map PyData.str := by rw [← e3, List.map_map] <;> rfl
    refine sort_core (mixSet X.prog X.w) encK1 (fun n : Str => (Sum.inr n : Key)) I1 hc hu (fun h v k z => readsK z) apartK got T e2 all (by rw [← List.length_map (f := fun t : V × Value × Str => t.1), e1]; exact few) (fun l l' => rfl) (.inr fun d m => ?_) (fun l => by simp [encK1, PyData.depth]) (by rw [e1, ed]; exact fin) fun v s' y => y
    obtain ⟨t, _, rfl⟩ := List.mem_map.mp m
    exact ⟨nofun, nofun⟩
  · obtain ⟨T, e1, e2, e3, all⟩ := trip (Ok := fun v k => keyIs k v = true) (fun n : Int => (Sum.inl n : Key)) (fun x l u z r => by rw [z] at r; exact int_key r) (paired_map V.int ns) vals
    have ed : (T.map fun t => encK1 (Sum.inl t.2.2)) = ns.map PyData.int := by rw [← e3, List.map_map] <;> rfl
    refine sort_core (mixSet X.prog X.w) encK1 (fun n : Int => (Sum.inl n : Key)) I1 hc hu (fun h v k z => readsK z) apartK got T e2 all (by rw [← List.length_map (f := fun t : V × Value × Int => t.1), e1]; exact few) (fun l l' => rfl) (.inr fun d m => ?_) (fun l => by simp [encK1, PyData.depth]) (by rw [e1, ed]; exact fin) fun v s' y => y
    obtain ⟨t, _, rfl⟩ := List.mem_map.mp m
    exact ⟨nofun, nofun⟩
  · obtain ⟨T, e1, e2, e3, all⟩ := trip (Ok := TupVal X.prog X.w s1.heap) kkP (fun x l u z r => by
      obtain ⟨t, rfl, ht⟩ := z
      obtain rfl : u = Value.ref t := r
      obtain ⟨its, rv, ⟨ob, got, cls, n, dat⟩, _⟩ := I1.tuple (show SqT X.K H1 t _ from .inl (.inl ht))
      refine ⟨t, rfl, ob, _, n, got, cls, dat, ?_⟩
      match its, rv with
      | [_, _], .cons r1 (.cons r2 .nil) => exact .cons (int_key r1) (.cons (str_key r2) .nil)) pr vals
    have ed : (T.map fun t => encP1 (kkP t.2.2)) = ls.map isD := by rw [← e3, List.map_map] <;> rfl
    refine sort_core (tupSet X.prog X.w) encP1 kkP I1 hc hu (fun h v k z => readsP z) apartP got T e2 all (by rw [← List.length_map (f := fun t : V × Value × (Int × Str) => t.1), e1]; exact few) (fun l l' => by simp [encP1, kkP, encK1, PySem.W.alike, PySem.W.alikeAll]) (.inl fun d m => ?_) (fun l => by simp [encP1, kkP, encK1, PyData.depth, PyData.depthAll]) (by rw [e1, ed]; exact fin) fun v s' y => y
    obtain ⟨t, _, rfl⟩ := List.mem_map.mp m
    exact ⟨_, _, rfl⟩
end K57
namespace K57
open PySem PySem.Spec PyProof.Rows L2
variable {P : Program} {w : World} {K : PySem.W.Frag} {mg : Str → Option Value} {base : Heap}
def sp_names_at_bottom : Sp := fun vs H Q _ => ∃ (t : Addr) (S : Shop), vs = [.ref t] ∧ ShopAt H t S ∧ ShopOk S ∧ ∀ (ns : List Str) p H', ns.Nodup → (∀ x, x ∈ ns ↔ x ∈ S.parts.map (·.1)) → New H p (.lst (ns.map V.str)) H' → Q (.ref p) H'
theorem zip_strs : ∀ ns : List Str, (ns.map V.str).zip (ns.map PyData.str) = ns.map fun n => (V.str n, PyData.str n)
  | [] => rfl
  | n :: ns => by
    rw [List.map_cons, List.map_cons, List.zip_cons_cons, zip_strs ns]; rfl
theorem strs_of : ∀ {zs : List (V × PyData)} {ns : List Str}, (∀ z ∈ zs, z ∈ ns.map fun n => (V.str n, PyData.str n)) → ∃ ms : List Str, zs = ms.map fun n => (V.str n, PyData.str n)
  | [], _, _ => ⟨[], rfl⟩
  | z :: zs, ns, h => by
    obtain ⟨n, hn, e⟩ := List.mem_map.mp (h z List.mem_cons_self)
    obtain ⟨ms, e2⟩ := strs_of fun y hy => h y (List.mem_cons_of_mem _ hy)
    exact ⟨n :: ms, by rw [List.map_cons, ← e2, ← e]⟩
/-- a sorted set of texts -/
theorem strs_set {zs : List (V × PyData)} {ns : List Str} (h1 : ∀ z ∈ zs, z ∈ (ns.map V.str).zip (ns.map PyData.str)) (h2 : ∀ d ∈ ns.map PyData.str, ∃ z ∈ zs, z.2 = d) (h3 : zs.Pairwise (fun a b => PySem.W.dataLt a.2 b.2 = true)) :
    ∃ ms : List Str, zs.map Prod.fst = ms.map V.str ∧ ms.Nodup ∧ ∀ x, x ∈ ms ↔ x ∈ ns := by
  rw [zip_strs] at h1
  obtain ⟨ms, e⟩ := strs_of h1
  subst e
  refine ⟨ms, by rw [List.map_map]; rfl, ?_, fun x => ⟨fun h => ?_, fun h => ?_⟩⟩
  · rw [List.pairwise_map] at h3
    refine h3.imp fun {a b} h e => ?_
    rw [e] at h
    rw [show PySem.W.dataLt (.str b) (.str b) = false from lex_irrefl _] at h
    cases h
  · obtain ⟨n, hn, e⟩ := List.mem_map.mp (h1 _ (List.mem_map_of_mem (f := fun n => (V.str n, PyData.str n)) h))
    have : n = x := by
      have := congrArg Prod.fst e
      exact V.str.inj this
    rw [← this]; exact hn
  · obtain ⟨z, hz, e⟩ := h2 (.str x) (List.mem_map_of_mem h)
    obtain ⟨m, hm, e2⟩ := List.mem_map.mp hz
    rw [← e2] at e
    have : m = x := PyData.str.inj e
    rw [← this]; exact hm
/-! ### names_at_bottom: 0 shop, 1 name, 2 stock, 3 options -/
abbrev N_names_at_bottom : List Str := ["shop", "name", "stock", "options"]
theorem sc_names_at_bottom : FnScope N_names_at_bottom ["shop"] (defScope s_names_at_bottom) := ⟨rfl, rfl, rfl, by decide +kernel, rfl, by decide +kernel, by decide +kernel⟩
theorem ok_names_at_bottom (T : Tx K mg) : OkF P w K mg base "names_at_bottom" 1 ["shop"] [] sp_names_at_bottom := by
  refine okF_mk d_names_at_bottom T (fn_mem 14 rfl) rfl rfl sc_names_at_bottom (fun _ _ _ _ _ _ us hl => match us, hl with | [_], _ => rfl) (fun vs H Q E h => ?_) (fun f cdv A outer s H vs Q E hr h => ?_)
  · first | (obtain ⟨_, rfl, _⟩ := h; rfl) | (obtain ⟨_, _, rfl, _⟩ := h; rfl) | (obtain ⟨_, _, _, rfl, _⟩ := h; rfl) | (obtain ⟨_, _, _, _, rfl, _⟩ := h; rfl) | (obtain ⟨_, _, _, _, _, rfl, _⟩ := h; rfl) | (obtain ⟨_, _, _, _, _, _, rfl, _⟩ := h; rfl) | (obtain ⟨_, _, _, _, _, _, _, rfl, _⟩ := h; rfl)
  · have hu := hu_of hr
    have hu65 := hu65_of hr
    refine ⟨_, (pss_one (ps_ret (pe_sortSet rfl hu65 (by rfl) T.m_sorted (by rfl) T.m_set (pe_op op_catN (pe_lc (own := [("name", 1), ("stock", 2)]) (g := (gTupN 2 (gCons (gName 1) (gCons (gName 2) gNil)))) (tt := tYes) rfl sc_names_at_bottom.nd (pi_tupN (pe_ix ix_tupN (pv 0) pe_int (fun _ _ => rfl))) (blkOk_by (N := N_names_at_bottom) (sc := (defScope s_names_at_bottom)) (own := [("name", 1), ("stock", 2)]) (by decide +kernel)) (fun _ _ _ _ _ => (pg_tupN rfl (pgs_cons (pg_name (i := 1) sc_names_at_bottom.nd rfl (by first | exact Or.inl rfl | exact Or.inr rfl)) (pgs_cons (pg_name (i := 2) sc_names_at_bottom.nd rfl (by first | exact Or.inl rfl | exact Or.inr rfl)) pgs_nil)))) (fun _ _ _ _ _ => pts_nil) (fun _ _ _ _ _ => (pv 1))) (pe_lc (own := [("name", 1), ("options", 3)]) (g := (gTupN 2 (gCons (gName 1) (gCons (gName 3) gNil)))) (tt := tYes) rfl sc_names_at_bottom.nd (pi_tupN (pe_ix ix_tupN (pv 0) pe_int (fun _ _ => rfl))) (blkOk_by (N := N_names_at_bottom) (sc := (defScope s_names_at_bottom)) (own := [("name", 1), ("options", 3)]) (by decide +kernel)) (fun _ _ _ _ _ => (pg_tupN rfl (pgs_cons (pg_name (i := 1) sc_names_at_bottom.nd rfl (by first | exact Or.inl rfl | exact Or.inr rfl)) (pgs_cons (pg_name (i := 3) sc_names_at_bottom.nd rfl (by first | exact Or.inl rfl | exact Or.inr rfl)) pgs_nil)))) (fun _ _ _ _ _ => pts_nil) (fun _ _ _ _ _ => (pv 1))))))), ?_⟩
    obtain ⟨t, S, rfl, hS, hok, q⟩ := h
    obtain ⟨pa, pb, pc, xs, ys, k1, k2, k3, k4, k5, k6⟩ := hS.ex
    have hlen := plen k3
    have hnp := hok.np
    refine ⟨_, rfl, t, _, _, _, rfl, rfl, k1, atI_nat (j := 0) rfl, pa, rfl, ⟨xs, k2⟩, fun _ => lcTupY k2 (small1000 (by omega)) (fun i acc _ => acc = ((S.parts.map (·.1)).take i).map V.str) (fun _ _ _ _ _ h => h) rfl (fun Ky i x acc H1 hx s1 g ky => ?_) (fun D acc H1 hD s1 hA _ g => ?_)⟩
    · obtain ⟨p, hp, t2, rfl, ht2⟩ := pget k3 hx
      refine ⟨t2, _, rfl, s1 _ _ ht2, rfl, _, _, rfl, _, _, rfl, rfl, rfl, _, rfl, ?_⟩
      refine ky _ _ (Same.refl _) ?_
      subst g
      rw [take_next (show (S.parts.map (·.1))[i]? = some p.1 by rw [List.getElem?_map, hp]; rfl), List.map_append]; rfl
    have e : (S.parts.map (·.1)).take xs.length = S.parts.map (·.1) := List.take_of_length_le (by rw [List.length_map]; omega)
    rw [e] at g
    subst g
    refine ⟨_, rfl, t, _, _, _, rfl, rfl, s1 _ _ k1, atI_nat (j := 1) rfl, pb, rfl, ⟨[], s1 _ _ k4⟩, fun _ => lcTupY (s1 _ _ k4) (by decide) (fun i acc _ => acc = []) (fun _ _ _ _ _ h => h) rfl (fun Ky i x acc H2 hx s2 g ky => ?_) (fun D2 acc H2 hD2 s2 hA2 _ g => ?_)⟩
    · cases hx
    subst g
    refine ⟨D, D2, _, _, rfl, rfl, s2 _ _ hA, hA2, by rw [List.length_map, List.length_map]; exact Nat.le_of_lt (small1000 (by simp; omega)), fun p3 H3 n3 => ?_⟩
    have h3 := n3.at_
    rw [List.append_nil] at h3
    have s3 := s1.trans (s2.trans n3.same)
    refine ⟨p3, _, _, rfl, h3, .inl ⟨S.parts.map (·.1), rfl, rfl⟩, by rw [List.length_map, List.length_map]; omega, fun zs p4 H4 z1 z2 z3 n4 => ?_⟩
    obtain ⟨ms, e1, nd, hm⟩ := strs_set z1 z2 z3
    rw [e1] at n4
    exact q ms p4 H4 nd hm (n4.of s3)
/-- all but what stands at two places -/
def Kp2 (a b : Addr) (H H' : Hp) : Prop := ∀ c o, c ≠ a → c ≠ b → H c = some o → H' c = some o
theorem Kp2.refl (a b : Addr) (H : Hp) : Kp2 a b H H := fun _ _ _ _ h => h
theorem Kp2.md1 {a b : Addr} {o : HO} {H H1 H2 : Hp} (k : Kp2 a b H H1) (m : Md H1 a o H2) : Kp2 a b H H2 := fun c u n1 n2 h => by rw [m.else_ c n1]; exact k c u n1 n2 h
theorem Kp2.md2 {a b : Addr} {o : HO} {H H1 H2 : Hp} (k : Kp2 a b H H1) (m : Md H1 b o H2) : Kp2 a b H H2 := fun c u n1 n2 h => by rw [m.else_ c n2]; exact k c u n1 n2 h
theorem Kp2.same {a b : Addr} {H0 H H1 : Hp} (k : Kp2 a b H H1) (s : Same H0 H) (ha : H0 a = none) (hb : H0 b = none) : Same H0 H1 := fun c u h => k c u (ne_of_none h ha) (ne_of_none h hb) (s c u h)
theorem Kp2.tk {a b : Addr} {H H1 : Hp} {xs ys : List (Key × V)} (k : Kp2 a b H H1) (ha : H a = some (.dK xs)) (hb : H b = some (.dK ys)) : Tk H H1 := fun c u h => k c _ (fun e => by rw [e, ha] at h; cases h) (fun e => by rw [e, hb] at h; cases h) h
theorem m0_made {S : Shop} (hok : ShopOk S) {p : Pk Str} (hp : p ∈ S.packs) : M0 S p.name = p.made := by
  have nd : ((thereL S).map (·.1)).Nodup := by rw [there_keys]; exact hok.nd
  show cnt (thereL S) p.name = _
  rw [← getL_cnt _ _ nd, getL_of_mem (v := p.made) nd]
  · rfl
  · exact List.mem_append_right _ (List.mem_map_of_mem (f := fun p : Pk Str => (p.name, p.made)) hp)
def asOf (al : List (Str × Int)) (x : Str) : Int := (getL al x).getD 0
theorem asOf_put (al : List (Str × Int)) (x : Str) (v : Int) (y : Str) : asOf (putL al x v) y = if y = x then v else asOf al y := by
  unfold asOf
  rw [getL_put]
  split <;> rfl
theorem asOf_get {al : List (Str × Int)} {ks : List Str} (h : al.map (·.1) = ks) {x : Str} (hx : x ∈ ks) : getL al x = some (asOf al x) := by
  obtain ⟨v, hv⟩ := getL_some (l := al) (by rw [h]; exact hx)
  unfold asOf
  rw [hv]; rfl
theorem putL_keep {al : List (Str × Int)} {ks : List Str} (h : al.map (·.1) = ks) {x : Str} (v : Int) (hx : x ∈ ks) : (putL al x v).map (·.1) = ks := by
  rw [putL_keys _ _ _ ((getL_isSome al x).mpr (by rw [h]; exact hx))]; exact h
def sp_turns_and_asks : Sp := fun vs H Q _ => ∃ (t nd : Addr) (S : Shop) (l : List (Str × Int)), vs = [.ref t, .ref nd] ∧ ShopAt H t S ∧ ShopOk S ∧ H nd = some (.dK (encK l)) ∧ (l.map (·.1)).Nodup ∧ (∀ p ∈ l, p.1 ∈ arts S) ∧
  ∀ pr pt pa al A H', Same H H' → H' pr = some (.tup [.ref pt, .ref pa]) → H' pa = some (.dK (encK al)) → (∀ x ∈ arts S, getL al x = some (A x)) → Sol S.packs (M0 S) (cnt l) A → Q (.ref pr) H'
/-! ### turns_and_asks: 0 shop, 1 numbers, 2 packs, 3 asks, 4 name, 5 turns, 6 own, 7 made, 8 apart, 9 sheet, 10 turn, 11 piece, 12 count -/
abbrev N_turns_and_asks : List Str := ["shop", "numbers", "packs", "asks", "name", "turns", "own", "made", "apart", "sheet", "turn", "piece", "count"]
theorem sc_turns_and_asks : FnScope N_turns_and_asks ["shop", "numbers"] (defScope s_turns_and_asks) := ⟨rfl, rfl, rfl, by decide +kernel, rfl, by decide +kernel, by decide +kernel⟩
theorem ok_turns_and_asks (T : Tx K mg) : OkF P w K mg base "turns_and_asks" 2 ["shop", "numbers"] [] sp_turns_and_asks := by
  have O_packs_by : OkF P w K mg base "packs_by" 1 ["shop"] [] sp_packs_by := ok_packs_by T
  have O_outer_names : OkF P w K mg base "outer_names" 1 ["shop"] [] sp_outer_names := ok_outer_names T
  have O_names_at_bottom : OkF P w K mg base "names_at_bottom" 1 ["shop"] [] sp_names_at_bottom := ok_names_at_bottom T
  refine okF_mk d_turns_and_asks T (fn_mem 15 rfl) rfl rfl sc_turns_and_asks (fun _ _ _ _ _ _ us hl => match us, hl with | [_, _], _ => rfl) (fun vs H Q E h => ?_) (fun f cdv A outer s H vs Q E hr h => ?_)
  · first | (obtain ⟨_, rfl, _⟩ := h; rfl) | (obtain ⟨_, _, rfl, _⟩ := h; rfl) | (obtain ⟨_, _, _, rfl, _⟩ := h; rfl) | (obtain ⟨_, _, _, _, rfl, _⟩ := h; rfl) | (obtain ⟨_, _, _, _, _, rfl, _⟩ := h; rfl) | (obtain ⟨_, _, _, _, _, _, rfl, _⟩ := h; rfl) | (obtain ⟨_, _, _, _, _, _, _, rfl, _⟩ := h; rfl)
  · have hu := hu_of hr
    have hu65 := hu65_of hr
    refine ⟨_, (pss_cons (ps_set (i := 2) sc_turns_and_asks.nd rfl (by first | exact Or.inl rfl | exact Or.inr rfl) (pe_callO O_packs_by hr (pa_cons (pv 0) pa_nil)))
      (pss_cons (ps_setDc (i := 3) (own := [("name", 4)]) (g := (gName 4)) (tt := tYes) rfl sc_turns_and_asks.nd rfl rfl (sw_dict rfl rfl rfl (by decide +kernel)) (pi_lstN (pe_lstN (StX.pa_star (pe_callO O_names_at_bottom hr (pa_cons (pv 0) pa_nil)) (pa_starD rfl (pv 2) pa_nil)))) (blkOk_by (N := N_turns_and_asks) (sc := (defScope s_turns_and_asks)) (own := [("name", 4)]) (by decide +kernel)) (fun _ _ _ _ _ => (pg_name (i := 4) sc_turns_and_asks.nd rfl (by first | exact Or.inl rfl | exact Or.inr rfl))) (fun _ _ _ _ _ => pts_nil) (fun _ _ _ _ _ => (pv 4)) (fun _ _ _ _ _ => (pe_dget2 hu (pv 1) (pv 4) pe_int (by constructor <;> rfl))))
      (pss_cons (ps_set (i := 5) sc_turns_and_asks.nd rfl (by first | exact Or.inl rfl | exact Or.inr rfl) pe_dnewN)
      (pss_cons (ps_for PassesOwn.never rfl (pi_lstN (pe_callO O_outer_names hr (pa_cons (pv 0) pa_nil))) (pg_name (i := 4) sc_turns_and_asks.nd rfl (by first | exact Or.inl rfl | exact Or.inr rfl))
        (pss_cons (ps_asg (pe_dget hu (pv 2) (pv 4) (fun _ _ => rfl)) (pg_tupN rfl (pgs_cons (pg_name (i := 6) sc_turns_and_asks.nd rfl (by first | exact Or.inl rfl | exact Or.inr rfl)) (pgs_cons (pg_name (i := 7) sc_turns_and_asks.nd rfl (by first | exact Or.inl rfl | exact Or.inr rfl)) (pgs_cons (pg_name (i := 8) sc_turns_and_asks.nd rfl (by first | exact Or.inl rfl | exact Or.inr rfl)) (pgs_cons (pg_name (i := 9) sc_turns_and_asks.nd rfl (by first | exact Or.inl rfl | exact Or.inr rfl)) pgs_nil))))))
        (pss_cons (ps_set (i := 10) sc_turns_and_asks.nd rfl (by first | exact Or.inl rfl | exact Or.inr rfl) (pe_ifExp (PW.pt (pw_or (pt_val (pv 8)) (pw_or1 (pt_cmpR op_gt (pe_dget hu (pv 3) (pv 4) (fun _ _ => rfl)) (pv 7) (by first | exact nomark _ | rfl))))) (pe_op op_sub (pe_dget hu (pv 3) (pv 4) (fun _ _ => rfl)) (pv 7)) pe_int))
        (pss_cons (ps_dput hu (pv 5) (pv 4) (pv 10) rfl)
        (pss_one (ps_for PassesOwn.never rfl (pi_tupN (pv 9)) (pg_tupN rfl (pgs_cons (pg_name (i := 11) sc_turns_and_asks.nd rfl (by first | exact Or.inl rfl | exact Or.inr rfl)) (pgs_cons (pg_name (i := 12) sc_turns_and_asks.nd rfl (by first | exact Or.inl rfl | exact Or.inr rfl)) pgs_nil)))
          (pss_one (ps_dput hu (pv 3) (pv 11) (pe_op op_add (pe_dget hu (pv 3) (pv 11) (fun _ _ => rfl)) (pe_op op_mul (pv 12) (pv 10))) rfl))))))))
      (pss_one (ps_ret (pe_tupN (pa_cons (pv 5) (pa_cons (pv 3) pa_nil))))))))), ?_⟩
    obtain ⟨t, nd, S, l, rfl, hS, hok, hnd, lnd, lin, q⟩ := h
    have hnk := hok.nk
    have hnp := hok.np
    refine ⟨_, rfl, t, S, rfl, hS, hok, fun pk H1 kvs n1 hk => ?_⟩
    refine ⟨_, rfl, t, S, rfl, hS.tk (tk_of n1.same), hok, fun ns p2 H2 nnd hns n2 => ?_⟩
    refine ⟨p2, _, rfl, .inr (SqL.of n2.at_), _, rfl, pk, kvs, rfl, n2.same _ _ n1.at_, ?_⟩
    have hkeys : kvs.map (fun kv => kV kv.1) = (S.packs.map (·.name)).map V.str := pkd_keys hk
    obtain ⟨ks, hks⟩ : ∃ ks, ks = ns ++ S.packs.map (·.name) := ⟨_, rfl⟩
    have hmem : ∀ x, x ∈ ks ↔ x ∈ arts S := fun x => by
      rw [hks]
      unfold arts
      rw [List.mem_append, List.mem_append, hns]
    have knd : ks.Nodup := by
      rw [hks, List.nodup_append]
      refine ⟨nnd, hok.ndk, fun a ha b hb e => ?_⟩
      obtain ⟨p, hp, rfl⟩ := List.mem_map.mp hb
      exact hok.dis p hp (by rw [← e]; exact (hns a).mp ha)
    have hlen : ks.length = S.parts.length + S.packs.length := by
      have h1 : ks.Perm (arts S) := (List.perm_ext_iff_of_nodup knd hok.nd).mpr hmem
      rw [h1.length_eq]
      unfold arts
      rw [List.length_append, List.length_map, List.length_map]
    have eks : ns.map V.str ++ (kvs.map (fun kv => kV kv.1) ++ []) = ks.map V.str := by rw [hkeys, hks, List.append_nil, List.map_append]
    refine ⟨by rw [eks, List.length_map]; exact Nat.le_of_lt (small1000 (by omega)), fun p3 H3 n3 => ?_⟩
    rw [eks] at n3
    have s3 : Same H H3 := n1.same.trans (n2.same.trans n3.same)
    have e0 : (ks.map fun k => (k, cnt l k)).map (·.1) = ks := by
      rw [List.map_map]
      exact List.map_id _
    refine ⟨p3, rfl, ⟨_, n3.at_⟩, fun _ => dcLstY n3.at_ (by rw [List.length_map]; exact small1000 (by omega)) (fun i acc _ => acc = encK ((ks.map fun k => (k, cnt l k)).take i)) (fun _ _ _ _ _ h => h) rfl (fun Ky i x acc H4 hx s4 g ky => ?_) (fun ak acc H4 hak s4 hA4 hl4 g => ?_)⟩
    · rw [List.getElem?_map] at hx
      obtain ⟨k, hk2, rfl⟩ := Option.map_eq_some_iff.mp hx
      have hd := s4 _ _ (s3 _ _ hnd)
      have ev : ((getL l k).map V.int).getD (.int 0) = .int (cnt l k) := by
        rw [← getL_cnt l k lnd]
        cases getL l k <;> rfl
      refine ⟨rfl, _, rfl, _, rfl, nd, rfl, .inl ⟨_, .inl hd⟩, _, rfl, _, dgetLo hd, ?_⟩
      rw [ev]
      refine ky (Sum.inr k : Key) _ _ (Same.refl _) ?_
      subst g
      exact enc_next (l := ks.map fun k => (k, cnt l k)) (p := (k, cnt l k)) (by rw [e0]; exact knd) (by rw [List.getElem?_map, hk2]; rfl)
    rw [List.length_map, List.take_of_length_le (by rw [List.length_map]; exact Nat.le_refl _)] at g
    subst g
    refine fun tn H5 n5 => ?_
    have s5 : Same H H5 := s3.trans (s4.trans n5.same)
    refine ⟨_, rfl, t, S, rfl, hS.tk (tk_of s5), hok, fun ord po Ho hperm hup no => ?_⟩
    have s6 : Same H Ho := s5.trans no.same
    have hak0 : H ak = none := none_same s3 hak
    have htn0 : H tn = none := none_same (s3.trans s4) n5.none_
    have hak6 : Ho ak = some (.dK (encK (ks.map fun k => (k, cnt l k)))) := no.same _ _ (n5.same _ _ hA4)
    have htn6 : Ho tn = some (.dK (encK [])) := no.same _ _ n5.at_
    have hpk6 : Ho pk = some (.dK kvs) := no.same _ _ (n5.same _ _ (s4 _ _ (n3.same _ _ (n2.same _ _ n1.at_))))
    have nat : ak ≠ tn := n5.ne hA4
    have npa : pk ≠ ak := fun e => by have := n3.same _ _ (n2.same _ _ n1.at_); rw [e, hak] at this; cases this
    have npt : pk ≠ tn := fun e => by have := s4 _ _ (n3.same _ _ (n2.same _ _ n1.at_)); rw [e, n5.none_] at this; cases this
    have noa : po ≠ ak := (no.ne (n5.same _ _ hA4)).symm
    have nott : po ≠ tn := (no.ne n5.at_).symm
    have hk6 : PkD Ho kvs S.packs := hk.tk (tk_of (n2.same.trans (n3.same.trans (s4.trans (n5.same.trans no.same)))))
    obtain ⟨rk, W, _⟩ := hok.rk
    refine ⟨po, rfl, ⟨_, no.at_⟩, fun _ => forL (fun i σ H' => ∃ x4 x6 x7 x8 x9 x10 x11 x12 al tl, σ = [some (.ref t), some (.ref nd), some (.ref pk), some (.ref ak), x4, some (.ref tn), x6, x7, x8, x9, x10, x11, x12] ∧ Kp2 ak tn Ho H' ∧ H' ak = some (.dK (encK al)) ∧ H' tn = some (.dK (encK tl)) ∧ al.map (·.1) = ks ∧ (tl.map (·.1)).Nodup ∧ tl.length ≤ i ∧
      ∀ x, asOf al x = cnt l x + sumI (fun p => cnt p.sheet x * turn (M0 S) (asOf al) p) (ord.take i))
      ⟨none, none, none, none, none, none, none, none, _, [], rfl, Kp2.refl _ _ _, hak6, htn6, e0, List.nodup_nil, Nat.le_refl _, fun x => ?_⟩
      (fun i σ H' _ ⟨_, _, _, _, _, _, _, _, _, _, _, k, _⟩ => k _ _ noa nott no.at_) (fun i x σ H' hx ⟨x4, x6, x7, x8, x9, x10, x11, x12, al, tl, e, k, ha, ht, hal, htl, hll, hA⟩ => ?_) (fun σ H' ⟨x4, x6, x7, x8, x9, x10, x11, x12, al, tl, e, k, ha, ht, hal, htl, hll, hA⟩ => ?_)⟩
    · show asOf (ks.map fun k => (k, cnt l k)) x = cnt l x + 0
      rw [Int.add_zero]
      unfold asOf
      by_cases hx : x ∈ ks
      · rw [getL_of_mem (v := cnt l x) (by rw [e0]; exact knd) (List.mem_map_of_mem (f := fun k => (k, cnt l k)) hx)]; rfl
      · rw [getL_none (by rw [e0]; exact hx), cnt_zero]
        · rfl
        · intro z hz e
          exact hx ((hmem x).mpr (e ▸ lin z hz))
    · subst e
      rw [List.getElem?_map, List.getElem?_map] at hx
      obtain ⟨nm, hx1, rfl⟩ := Option.map_eq_some_iff.mp hx
      obtain ⟨p, hp, rfl⟩ := Option.map_eq_some_iff.mp hx1
      have hpm : p ∈ S.packs := hperm.mem_iff.mp (List.mem_of_getElem? hp)
      have hi : i < ord.length := by
        rcases Nat.lt_or_ge i ord.length with y | y
        · exact y
        · rw [List.getElem?_eq_none y] at hp; cases hp
      have hlo := hperm.length_eq
      obtain ⟨v, hv, ipk⟩ := pkd_get hk6 hok.ndk hpm
      obtain ⟨u, u2, zs, rfl, hu, hu2, hz⟩ := ipk
      have tk6 : Tk Ho H' := k.tk hak6 htn6
      have hart : p.name ∈ ks := (hmem _).mpr (List.mem_append_right _ (List.mem_map_of_mem hpm))
      have hget := asOf_get hal hart
      have hpk' : H' pk = some (.dK kvs) := k _ _ npa npt hpk6
      have hdg := DGet.k (k := (Sum.inr p.name : Key)) hpk'
      rw [hv] at hdg
      refine ⟨_, rfl, _, rfl, pk, _, rfl, hdg, u, _, rfl, tk6 _ _ hu, rfl, _, _, rfl, _, _, rfl, _, _, rfl, _, _, rfl, rfl, ?_⟩
      have hm0 := m0_made hok hpm
      have hq0 : cnt p.sheet p.name = 0 := cnt_zero fun z hz e => by
        have := W.rank p hpm z hz
        rw [e] at this
        exact Nat.lt_irrefl _ this
      have hl0 : ∀ q ∈ ord.take i, cnt p.sheet q.name = 0 := fun q hq => cnt_zero fun z hz e => by
        obtain ⟨j, hj, ej⟩ := List.mem_take_iff_getElem.mp hq
        have hji : j < i := by omega
        have := List.pairwise_iff_getElem.mp hup j i (by omega) hi hji
        rw [List.getElem?_eq_getElem hi] at hp
        rw [ej, Option.some.inj hp] at this
        exact this z hz e
      obtain ⟨Tn, hTn⟩ : ∃ Tn, Tn = turn (M0 S) (asOf al) p := ⟨_, rfl⟩
      have hor : (p.apart = true ∧ asOf al p.name - p.made = Tn) ∨ (p.apart = false ∧ asOf al p.name > p.made ∧ asOf al p.name - p.made = Tn) ∨ (p.apart = false ∧ ¬ asOf al p.name > p.made ∧ 0 = Tn) := by
        rw [hTn]
        unfold turn
        rw [hm0]
        cases h1 : p.apart with
        | true => exact .inl ⟨rfl, by rw [if_pos (.inl rfl)]⟩
        | false =>
          by_cases h2 : asOf al p.name > p.made
          · exact .inr (.inl ⟨rfl, h2, by rw [if_pos (.inr h2)]⟩)
          · exact .inr (.inr ⟨rfl, h2, by rw [if_neg (by rintro (z | z); cases z; exact h2 z)]⟩)
      refine ⟨_, rfl, p.apart, rfl, ?_⟩
      rcases hor with ⟨h1, h2⟩ | ⟨h1, h2, h3⟩ | ⟨h1, h2, h3⟩
      rw [h1]
      refine iteT ?_
      refine iteT ?_
      refine ⟨_, rfl, _, rfl, ak, _, rfl, dgetL ha hget, _, rfl, _, _, rfl, rfl, ?_⟩
      dsimp only
      rw [h2]
      rotate_left
      rw [h1]
      refine iteF (A := _) ?_
      refine ⟨_, rfl, _, rfl, ak, _, rfl, dgetL ha hget, _, rfl, _, _, rfl, rfl, ?_⟩
      refine ⟨true, congrArg V.bl (decide_eq_true h2), ?_⟩
      refine iteT ?_
      refine ⟨_, rfl, _, rfl, ak, _, rfl, dgetL ha hget, _, rfl, _, _, rfl, rfl, ?_⟩
      dsimp only
      rw [h3]
      rotate_left
      rw [h1]
      refine iteF (A := _) ?_
      refine ⟨_, rfl, _, rfl, ak, _, rfl, dgetL ha hget, _, rfl, _, _, rfl, rfl, ?_⟩
      refine ⟨false, congrArg V.bl (decide_eq_false h2), ?_⟩
      refine iteF (A := _) ?_
      dsimp only
      rw [h3]
      rotate_left
      all_goals
        clear h1 h2
        obtain ⟨H7, dp, m7⟩ := dputL p.name Tn ht htl (small1000 (by omega))
        refine ⟨_, rfl, _, rfl, _, rfl, tn, H7, rfl, dp, ?_⟩
        have k7 := k.md2 m7
        have ha7 : H7 ak = some (.dK (encK al)) := by rw [m7.else_ ak nat]; exact ha
        have tkO : ∀ {H'' : Hp}, Kp2 ak tn Ho H'' → Tk Ho H'' := fun k => k.tk hak6 htn6
        refine ⟨_, rfl, u2, rfl, ⟨_, tkO k7 _ _ hu2⟩, fun _ => forT (fun j σ H'' => ∃ x8 x11 x12 al', σ = [some (.ref t), some (.ref nd), some (.ref pk), some (.ref ak), some (.str p.name), some (.ref tn), some (.str p.name), some (.int p.made), x8, some (.ref u2), some (.int Tn), x11, x12] ∧ Kp2 ak tn Ho H'' ∧ H'' ak = some (.dK (encK al')) ∧ H'' tn = some (.dK (encK (putL tl p.name Tn))) ∧ al'.map (·.1) = ks ∧ ∀ x, asOf al' x = asOf al x + cnt (p.sheet.take j) x * Tn)
          ⟨_, _, _, al, rfl, k7, ha7, m7.at_, hal, fun x => by show _ = _ + 0 * Tn; rw [Int.zero_mul, Int.add_zero]⟩
          (fun j σ H'' _ ⟨_, _, _, _, _, k8, _⟩ => tkO k8 _ _ hu2) (fun j x σ H'' hx8 ⟨x8, x11, x12, al', e, k8, ha8, ht8, hal8, hA8⟩ => ?_) (fun σ H'' ⟨x8, x11, x12, al', e, k8, ha8, ht8, hal8, hA8⟩ => ?_)⟩
        · subst e
          obtain ⟨z, hz8, t3, rfl, ht3⟩ := pget hz hx8
          have hzm := List.mem_of_getElem? hz8
          have hzk : z.1 ∈ ks := (hmem _).mpr (hok.sheet p hpm z hzm)
          have hz1 := W.pos p hpm z hzm
          have hz4 := hok.cb p hpm z hzm
          have hl8 : al'.length = ks.length := by rw [← hal8, List.length_map]
          obtain ⟨H9, dp9, m9⟩ := dputL z.1 (asOf al' z.1 + z.2 * Tn) ha8 (by rw [hal8]; exact knd) (small1000 (by omega))
          refine ⟨t3, _, rfl, tkO k8 _ _ ht3, rfl, _, _, rfl, _, _, rfl, rfl, ?_⟩
          refine ⟨_, rfl, _, rfl, ak, _, rfl, dgetL ha8 (asOf_get hal8 hzk), _, rfl, _, rfl, _, _, rfl, rfl, .inl ⟨by omega, by omega⟩, _, _, rfl, rfl, _, rfl, _, rfl, ak, H9, rfl, dp9, ?_⟩
          refine ⟨_, _, _, _, rfl, k8.md1 m9, m9.at_, by rw [m9.else_ tn nat.symm]; exact ht8, putL_keep hal8 _ hzk, fun x => ?_⟩
          rw [asOf_put, take_next hz8, cnt_append, Int.add_mul]
          show _ = _ + (_ + ((if z.1 = x then z.2 else 0) + 0) * Tn)
          by_cases e : x = z.1
          · rw [if_pos e, if_pos e.symm, Int.add_zero, e, hA8 z.1]
            omega
          · rw [if_neg e, if_neg fun h => e h.symm, hA8 x, Int.add_zero, Int.zero_mul]
            omega
        · subst e
          have hlz := plen hz
          rw [hlz, List.take_length] at hA8
          refine ⟨_, _, _, _, _, _, _, _, al', putL tl p.name Tn, rfl, k8, ha8, ht8, hal8, putL_nodup _ _ _ htl, by have := putL_len tl p.name Tn; omega, ?_⟩
          rw [take_next hp]
          exact sol_next hA hl0 hq0 fun x => by rw [hA8 x, hTn]
    · subst e
      refine ⟨_, rfl, _, rfl, sz2, fun pr Hr nr => ?_⟩
      have sA := k.same s6 hak0 htn0
      refine q pr tn ak al (asOf al) Hr (sA.trans nr.same) nr.at_ (nr.same _ _ ha) (fun x hx => asOf_get hal ((hmem x).mpr hx)) fun x => ?_
      rw [List.length_map, List.length_map, List.take_length] at hA
      rw [hA x, sumI_perm hperm]
end K57
namespace K57
open PySem PySem.Spec PyProof.Rows L2
variable {P : Program} {w : World} {K : PySem.W.Frag} {mg : Str → Option Value} {base : Heap}
theorem len_sub {α : Type} [DecidableEq α] : ∀ {l m : List α}, l.Nodup → (∀ x ∈ l, x ∈ m) → l.length ≤ m.length
  | [], _, _, _ => Nat.zero_le _
  | a :: l, m, nd, h => by
    rw [List.nodup_cons] at nd
    have h1 := len_sub (l := l) (m := m.erase a) nd.2 fun x hx => (List.mem_erase_of_ne fun e => nd.1 (by rw [← e]; exact hx)).mpr (h x (List.mem_cons_of_mem _ hx))
    have h2 := List.length_erase_of_mem (h a List.mem_cons_self)
    have h3 := List.length_pos_of_mem (h a List.mem_cons_self)
    rw [List.length_cons]
    omega
def IsDay (H : Hp) (v : V) (r : Int × List (Str × Int)) : Prop := ∃ t dk, v = .ref t ∧ H t = some (.tup [.int r.1, .ref dk]) ∧ H dk = some (.dK (encK r.2))
theorem IsDay.sm {H H' : Hp} {v : V} {r : Int × List (Str × Int)} (s : Same H H') (h : IsDay H v r) : IsDay H' v r := let ⟨t, dk, e, h1, h2⟩ := h; ⟨t, dk, e, s _ _ h1, s _ _ h2⟩
theorem IsDay.kp {H H' : Hp} {v : V} {r : Int × List (Str × Int)} {fa : Addr} {xs : List V} (k : Kp fa H H') (hf : H fa = some (.lst xs)) (h : IsDay H v r) : IsDay H' v r :=
  let ⟨t, dk, e, h1, h2⟩ := h
  ⟨t, dk, e, k _ _ (fun z => by rw [z, hf] at h1; cases h1) h1, k _ _ (fun z => by rw [z, hf] at h2; cases h2) h2⟩
theorem RowF.kp {H H' : Hp} {a fa : Addr} {l : List (Str × Int)} {xs : List V} (k : Kp fa H H') (hf : H fa = some (.lst xs)) (h : RowF H a l) : RowF H' a l := by
  obtain ⟨ys, ⟨o, h, d⟩, p⟩ := h
  refine ⟨ys, ⟨o, k _ _ (fun z => by rw [z, hf] at h; cases h) h, d⟩, pimp (fun _ _ => IsP.tk fun b zs hb => k _ _ (fun z => by rw [z, hf] at hb; cases hb) hb) p⟩
theorem same_lock {H H2 : Hp} {a : Addr} {u : HO} {o : Obj} (h : H a = some u) (s : Same (upd H a (.frz o u)) H2) : Same H (upd H2 a u) := fun b x e => by
  by_cases z : b = a
  · subst z
    rw [upd_same]
    rw [h] at e
    exact e
  · rw [upd_ne z]
    exact s b x (by rw [upd_ne z]; exact e)
theorem new_lock {H H2 : Hp} {a D : Addr} {u v : HO} {o : Obj} (h : H a = some u) (s : Same (upd H a (.frz o u)) H2) (hD : (upd H a (.frz o u)) D = none) (h2 : H2 D = some v) : New H D v (upd H2 a u) := by
  have ne : D ≠ a := fun e => by rw [e, upd_same] at hD; cases hD
  exact ⟨by rw [upd_ne ne] at hD; exact hD, by rw [upd_ne ne]; exact h2, same_lock h s⟩
def lackOf (S : Shop) (os : Ords) (ls : Lds) (i : Nat) (A : Str → Int) : List (Str × Int) := S.parts.map fun p => (p.1, max 0 (0 - leftOf S os ls i A p.1))
def DayOk (S : Shop) (os : Ords) (ls : Lds) (i : Nat) (r : Int × List (Str × Int)) : Prop := ∃ A, Sol S.packs (M0 S) (cum os (i + 1)) A ∧ r.1 = dayOf os i ∧ r.2 = lackOf S os ls i A
theorem come_next {ls : Lds} {j : Nat} {l : Int × Str × Int} (d : Int) (x : Str) (h : ls[j]? = some l) : come (ls.take (j + 1)) d x = come (ls.take j) d x + if l.1 ≤ d ∧ l.2.1 = x then l.2.2 else 0 := by
  unfold come
  rw [take_next h, sumI_append]
  show _ + (_ + 0) = _
  rw [Int.add_zero]
theorem row_pairs {H : Hp} {xs : List V} {l : List (Str × Int)} (hx : Paired (IsP H) xs l) : ∃ ps : List Addr, xs = ps.map V.ref ∧ Paired (fun p kv => H p = some (.tup [kV kv.1, kv.2])) ps (encK l) := by
  induction hx with
  | nil => exact ⟨[], rfl, .nil⟩
  | @cons x p xs l r t ih =>
    obtain ⟨ps, e, h⟩ := ih
    obtain ⟨u, rfl, hu⟩ := r
    exact ⟨u :: ps, by rw [e]; rfl, .cons hu h⟩
def sp_lacks_by_days : Sp := fun vs H Q _ => ∃ (t a b : Addr) (S : Shop) (os : Ords) (ls : Lds), vs = [.ref t, .ref a, .ref b] ∧ ShopAt H t S ∧ ShopOk S ∧ OrdersAt H a os ∧ OrdersOk S os ∧ LoadAt H b ls ∧ LoadOk S ls ∧
  ∀ p xs rs H', Same H H' → H' p = some (.lst xs) → Paired (IsDay H') xs rs → rs.length = os.length → (∀ i r, rs[i]? = some r → DayOk S os ls i r) → Q (.ref p) H'
/-! ### lacks_by_days: 0 shop, 1 orders, 2 goods, 3 found, 4 total, 5 day, 6 sales, 7 turns, 8 asks, 9 left, 10 late, 11 part, 12 number -/
abbrev N_lacks_by_days : List Str := ["shop", "orders", "goods", "found", "total", "day", "sales", "turns", "asks", "left", "late", "part", "number"]
theorem sc_lacks_by_days : FnScope N_lacks_by_days ["shop", "orders", "goods"] (defScope s_lacks_by_days) := ⟨rfl, rfl, rfl, by decide +kernel, rfl, by decide +kernel, by decide +kernel⟩
theorem ok_lacks_by_days (T : Tx K mg) : OkF P w K mg base "lacks_by_days" 3 ["shop", "orders", "goods"] [] sp_lacks_by_days := by
  have O_rows_together : OkF P w K mg base "rows_together" 2 ["sales", "late"] [] sp_rows_together := ok_rows_together T
  have O_turns_and_asks : OkF P w K mg base "turns_and_asks" 2 ["shop", "numbers"] [] sp_turns_and_asks := ok_turns_and_asks T
  have O_left_by : OkF P w K mg base "left_by" 2 ["shop", "asks"] [] sp_left_by := ok_left_by T
  refine okF_mk d_lacks_by_days T (fn_mem 27 rfl) rfl rfl sc_lacks_by_days (fun _ _ _ _ _ _ us hl => match us, hl with | [_, _, _], _ => rfl) (fun vs H Q E h => ?_) (fun f cdv A outer s H vs Q E hr h => ?_)
  · first | (obtain ⟨_, rfl, _⟩ := h; rfl) | (obtain ⟨_, _, rfl, _⟩ := h; rfl) | (obtain ⟨_, _, _, rfl, _⟩ := h; rfl) | (obtain ⟨_, _, _, _, rfl, _⟩ := h; rfl) | (obtain ⟨_, _, _, _, _, rfl, _⟩ := h; rfl) | (obtain ⟨_, _, _, _, _, _, rfl, _⟩ := h; rfl) | (obtain ⟨_, _, _, _, _, _, _, rfl, _⟩ := h; rfl)
  · have hu := hu_of hr
    have hu65 := hu65_of hr
    refine ⟨_, (pss_cons (ps_par (i := 3) (j := 4) rfl sc_lacks_by_days.nd rfl rfl (by decide) rfl rfl (pa_cons (pe_lstN pa_nil) (pa_cons (pe_tupF pa_nil) pa_nil)) (by rfl))
      (pss_cons (ps_for PassesOwn.never rfl (pi_tupN (pv 1)) (pg_tupN rfl (pgs_cons (pg_name (i := 5) sc_lacks_by_days.nd rfl (by first | exact Or.inl rfl | exact Or.inr rfl)) (pgs_cons (pg_name (i := 6) sc_lacks_by_days.nd rfl (by first | exact Or.inl rfl | exact Or.inr rfl)) pgs_nil)))
        (pss_cons (ps_set (i := 4) sc_lacks_by_days.nd rfl (by first | exact Or.inl rfl | exact Or.inr rfl) (pe_callO O_rows_together hr (pa_cons (pv 4) (pa_cons (pv 6) pa_nil))))
        (pss_cons (ps_asg (pe_callO O_turns_and_asks hr (pa_cons (pv 0) (pa_cons (pe_callTy (call_dictT rfl) (by rfl) T.m_dict b_dict (pa_cons (pv 4) pa_nil)) pa_nil))) (pg_tupN rfl (pgs_cons (pg_name (i := 7) sc_lacks_by_days.nd rfl (by first | exact Or.inl rfl | exact Or.inr rfl)) (pgs_cons (pg_name (i := 8) sc_lacks_by_days.nd rfl (by first | exact Or.inl rfl | exact Or.inr rfl)) pgs_nil))))
        (pss_cons (ps_set (i := 9) sc_lacks_by_days.nd rfl (by first | exact Or.inl rfl | exact Or.inr rfl) (pe_callO O_left_by hr (pa_cons (pv 0) (pa_cons (pv 8) pa_nil))))
        (pss_cons (ps_for PassesOwn.never rfl (pi_tupN (pv 2)) (pg_tupN rfl (pgs_cons (pg_name (i := 10) sc_lacks_by_days.nd rfl (by first | exact Or.inl rfl | exact Or.inr rfl)) (pgs_cons (pg_name (i := 11) sc_lacks_by_days.nd rfl (by first | exact Or.inl rfl | exact Or.inr rfl)) (pgs_cons (pg_name (i := 12) sc_lacks_by_days.nd rfl (by first | exact Or.inl rfl | exact Or.inr rfl)) pgs_nil))))
          (pss_one (ps_dput hu (pv 9) (pv 11) (pe_op op_add (pe_dget hu (pv 9) (pv 11) (fun _ _ => rfl)) (pe_ifExp (pt_cmpR op_le (pv 10) (pv 5) (by first | exact nomark _ | rfl)) (pv 12) pe_int)) rfl)))
        (pss_one (ps_expr (pe_bm PySem.F.plainAttrs_list PySem.F.slot_list_append PySem.F.type_list_append mt_appendN (pv 3) (pa_cons (pe_tupN (pa_cons (pv 5) (pa_cons (pe_lock (pe_dc (own := [("part", 11)]) (g := (gName 11)) (tt := tYes) rfl sc_lacks_by_days.nd (pi_keys (pv 9)) (blkOk_by (N := N_lacks_by_days) (sc := (defScope s_lacks_by_days)) (own := [("part", 11)]) (by decide +kernel)) (fun _ _ _ _ _ => (pg_name (i := 11) sc_lacks_by_days.nd rfl (by first | exact Or.inl rfl | exact Or.inr rfl))) (fun _ _ _ _ _ => pts_nil) (fun _ _ _ _ _ => (pv 11)) (fun _ _ _ _ _ => (pe_callB (call_max2 rfl) (by rfl) T.m_max b_max (pa_cons pe_int (pa_cons (pe_op op_sub pe_int (pe_dget hu (pv 9) (pv 11) (fun _ _ => rfl))) pa_nil)))))) pa_nil))) pa_nil)))))))))
      (pss_one (ps_ret (pv 3))))), ?_⟩
    obtain ⟨t, a, b, S, os, ls, rfl, hS, hok, ⟨oxs, ha, hox⟩, ho, ⟨lxs, hb, hlx⟩, hl, q⟩ := h
    have hnk := hok.nk
    have hnp := hok.np
    have hlo := plen hox
    have hll := plen hlx
    have hfo := ho.few
    refine ⟨by decide, fun fa H1 n1 => ?_⟩
    refine ⟨by decide, fun tp0 H2 tn0 s2 tf0 => ?_⟩
    refine ⟨_, _, rfl, ?_⟩
    have s02 : Same H H2 := n1.same.trans s2
    have hfa0 : H fa = none := n1.none_
    refine ⟨_, rfl, a, rfl, ⟨_, s02 _ _ ha⟩, fun _ => forT (fun i σ H' => ∃ x5 x6 x7 x8 x9 x10 x11 x12 tp l xs rs, σ = [some (.ref t), some (.ref a), some (.ref b), some (.ref fa), some (.ref tp), x5, x6, x7, x8, x9, x10, x11, x12] ∧ Kp fa H2 H' ∧ H' fa = some (.lst xs) ∧ Paired (IsDay H') xs rs ∧ rs.length = i ∧ (∀ j r, rs[j]? = some r → DayOk S os ls j r) ∧
        RowF H' tp l ∧ (l.map (·.1)).Nodup ∧ (∀ p ∈ l, 1 ≤ p.2 ∧ p.1 ∈ arts S) ∧ ∀ x, cnt l x = cum os i x)
      ⟨none, none, none, none, none, none, none, none, tp0, [], [], [], rfl, Kp.refl _ _, s2 _ _ n1.at_, .nil, rfl, fun j r e => by simp at e, ⟨[], tf0, .nil⟩, List.nodup_nil, (fun p hp => nomatch hp), fun x => (cum_zero os x).symm⟩
      (fun i σ H' _ ⟨_, _, _, _, _, _, _, _, _, _, _, _, _, k, _⟩ => k.same s02 hfa0 _ _ ha) (fun i x σ H' hx ⟨x5, x6, x7, x8, x9, x10, x11, x12, tp, l, xs, rs, e, k, hfa, hrs, hrl, hok2, hF, nd, hpos, hcm⟩ => ?_)
      (fun σ H' ⟨x5, x6, x7, x8, x9, x10, x11, x12, tp, l, xs, rs, e, k, hfa, hrs, hrl, hok2, hF, nd, hpos, hcm⟩ => ?_)⟩
    · subst e
      obtain ⟨o, hoi, t5, r5, rfl, ht5, hr5⟩ := pget hox hx
      have s0 : Same H H' := k.same s02 hfa0
      obtain ⟨_, hrow⟩ := ho.each o (List.mem_of_getElem? hoi)
      have hil : i < os.length := by
        rcases Nat.lt_or_ge i os.length with y | y
        · exact y
        · rw [List.getElem?_eq_none y] at hoi; cases hoi
      have llen : l.length ≤ 10 := by
        have := len_sub nd (m := arts S) fun x hx => by
          obtain ⟨p, hp, rfl⟩ := List.mem_map.mp hx
          exact (hpos p hp).2
        unfold arts at this
        rw [List.length_append, List.length_map, List.length_map, List.length_map] at this
        omega
      have hrf := hrow.few
      refine ⟨t5, _, rfl, s0 _ _ ht5, rfl, _, _, rfl, _, _, rfl, rfl, ?_⟩
      refine ⟨_, rfl, _, rfl, tp, r5, l, o.2, rfl, hF, nd, fun p hp => (hpos p hp).1, hr5.tk (tk_of s0), fun p hp => (hrow.each p hp).2.2, by omega, fun tp2 H3 l2 s3 hF3 nd3 hp3 hl3 hc3 => ?_⟩
      have hcm3 : ∀ x, cnt l2 x = cum os (i + 1) x := fun x => by rw [hc3 x, hcm x, cum_next x hoi]
      have hin3 : ∀ p ∈ l2, 1 ≤ p.2 ∧ p.1 ∈ arts S := fun p hp => by
        obtain ⟨h1, h2⟩ := hp3 p hp
        refine ⟨h1, ?_⟩
        rcases h2 with h2 | h2
        · obtain ⟨z, hz, e⟩ := List.mem_map.mp h2
          rw [← e]; exact (hrow.each z hz).2.1
        · obtain ⟨z, hz, e⟩ := List.mem_map.mp h2
          rw [← e]; exact (hpos z hz).2
      obtain ⟨ys3, hfz, hys⟩ := id hF3
      obtain ⟨ps, rfl, hps⟩ := row_pairs hys
      refine ⟨_, rfl, _, rfl, tp2, ps, encK l2, rfl, hfz, hps, fun nd4 H4 n4 => ?_⟩
      have h4 := n4.at_
      rw [merge_enc0 l2 nd3] at h4
      have s4 : Same H H4 := s0.trans (s3.trans n4.same)
      refine ⟨t, nd4, S, l2, rfl, hS.tk (tk_of s4), hok, h4, nd3, fun p hp => (hin3 p hp).2, fun pr pt pa al A H5 s5 hpr hpa hal hsol => ?_⟩
      refine ⟨pr, _, rfl, hpr, rfl, _, _, rfl, _, _, rfl, rfl, ?_⟩
      have s05 := s4.trans s5
      refine ⟨_, rfl, _, rfl, t, pa, S, al, A, rfl, hS.tk (tk_of s05), hok, hpa, hal, fun lk H6 n6 => ?_⟩
      have hday : dayOf os i = o.1 := dayOf_at hoi
      have keys6 : (S.parts.map fun p => (p.1, p.2 - A p.1)).map (·.1) = S.parts.map (·.1) := by rw [List.map_map]; rfl
      have s06 := s05.trans n6.same
      have hb6 := s06 _ _ hb
      refine ⟨_, rfl, b, rfl, ⟨_, hb6⟩, fun _ => forT (fun j σ H'' => ∃ x10 x11 x12 ll, σ = [some (.ref t), some (.ref a), some (.ref b), some (.ref fa), some (.ref tp2), some (.int o.1), some (.ref r5), some (.ref pt), some (.ref pa), some (.ref lk), x10, x11, x12] ∧ Same H5 H'' ∧ H'' lk = some (.dK (encK ll)) ∧ ll.map (·.1) = S.parts.map (·.1) ∧
          ∀ x, x ∈ S.parts.map (·.1) → asOf ll x = cnt S.parts x - A x + come (ls.take j) o.1 x)
        ⟨_, _, _, _, rfl, n6.same, n6.at_, keys6, fun x hx => ?_⟩ (fun j σ H'' _ ⟨_, _, _, _, _, s7, _⟩ => s7 _ _ (s05 _ _ hb)) (fun j x σ H'' hx7 ⟨x10, x11, x12, ll, e, s7, h7, k7, hA7⟩ => ?_) (fun σ H'' ⟨x10, x11, x12, ll, e, s7, h7, k7, hA7⟩ => ?_)⟩
      · obtain ⟨p, hp, rfl⟩ := List.mem_map.mp hx
        have h1 : getL (S.parts.map fun p => (p.1, p.2 - A p.1)) p.1 = some (p.2 - A p.1) := getL_of_mem (by rw [keys6]; exact hok.ndp) (List.mem_map_of_mem (f := fun p : Str × Int => (p.1, p.2 - A p.1)) hp)
        have h2 : cnt S.parts p.1 = p.2 := by rw [← getL_cnt _ _ hok.ndp, getL_of_mem (v := p.2) hok.ndp hp]; rfl
        unfold asOf
        rw [h1, h2]
        show p.2 - A p.1 = p.2 - A p.1 + 0
        omega
      · subst e
        obtain ⟨g, hg, t8, rfl, ht8⟩ := pget hlx hx7
        have hgp := (hl.each g (List.mem_of_getElem? hg)).2.1
        have hgk : g.2.1 ∈ ll.map (·.1) := by rw [k7]; exact hgp
        obtain ⟨N, hN⟩ : ∃ N, N = if g.1 ≤ o.1 then g.2.2 else 0 := ⟨_, rfl⟩
        obtain ⟨H8, dp, m8⟩ := dputL g.2.1 (asOf ll g.2.1 + N) h7 (by rw [k7]; exact hok.ndp) (small1000 (by have : ll.length = S.parts.length := by rw [← List.length_map (f := (·.1)), k7, List.length_map]
                                                                                                             omega))
        refine ⟨t8, _, rfl, (s05.trans s7) _ _ ht8, rfl, _, _, rfl, _, _, rfl, _, _, rfl, rfl, ?_⟩
        refine ⟨_, rfl, _, rfl, lk, _, rfl, dgetL h7 (asOf_get rfl hgk), _, rfl, _, rfl, _, _, rfl, rfl, ?_⟩
        have fin : ∃ x10 x11 x12 ll, [some (.ref t), some (.ref a), some (.ref b), some (.ref fa), some (.ref tp2), some (.int o.1), some (.ref r5), some (.ref pt), some (.ref pa), some (.ref lk), some (.int g.1), some (.str g.2.1), some (.int g.2.2)] = [some (V.ref t), some (.ref a), some (.ref b), some (.ref fa), some (.ref tp2), some (.int o.1), some (.ref r5), some (.ref pt), some (.ref pa), some (.ref lk), x10, x11, x12] ∧ Same H5 H8 ∧ H8 lk = some (.dK (encK ll)) ∧ ll.map (·.1) = S.parts.map (·.1) ∧
            ∀ x, x ∈ S.parts.map (·.1) → asOf ll x = cnt S.parts x - A x + come (ls.take (j + 1)) o.1 x := by
          refine ⟨_, _, _, _, rfl, m8.same s7 n6.none_, m8.at_, putL_keep k7 _ hgp, fun x hx => ?_⟩
          rw [asOf_put, come_next _ _ hg]
          by_cases e : x = g.2.1
          · rw [if_pos e, e, hA7 _ hgp, hN]
            by_cases e2 : g.1 ≤ o.1
            · rw [if_pos e2, if_pos ⟨e2, rfl⟩]; omega
            · rw [if_neg e2, if_neg fun z => e2 z.1]; omega
          · rw [if_neg e, hA7 _ hx, if_neg fun z => e z.2.symm]; omega
        by_cases c : g.1 ≤ o.1
        · refine ⟨true, congrArg V.bl (decide_eq_true c), ?_⟩
          refine iteT ?_
          rw [if_pos c] at hN
          refine ⟨_, rfl, _, _, rfl, rfl, _, rfl, _, rfl, lk, H8, rfl, ?_, fin⟩
          rw [hN] at dp
          exact dp
        · refine ⟨false, congrArg V.bl (decide_eq_false c), ?_⟩
          refine iteF (A := _) ?_
          rw [if_neg c] at hN
          refine ⟨_, _, rfl, rfl, _, rfl, _, rfl, lk, H8, rfl, ?_, fin⟩
          rw [hN] at dp
          exact dp
      · subst e
        rw [hll, List.take_length] at hA7
        have hleft : ∀ x, x ∈ S.parts.map (·.1) → asOf ll x = leftOf S os ls i A x := fun x hx => by
          rw [hA7 x hx]
          unfold leftOf
          rw [hday]
        have hfa7 : H'' fa = some (.lst xs) := s7 _ _ (s5 _ _ (n4.same _ _ (s3 _ _ hfa)))
        have s17 : Same H' H'' := s3.trans (n4.same.trans (s5.trans s7))
        have nlf : lk ≠ fa := fun e => by
          have := s5 _ _ (n4.same _ _ (s3 _ _ hfa))
          rw [← e, n6.none_] at this
          cases this
        have hlen7 : ll.length = S.parts.length := by rw [← List.length_map (f := (·.1)), k7, List.length_map]
        have ekeys : (lackOf S os ls i A).map (·.1) = S.parts.map (·.1) := by unfold lackOf; rw [List.map_map]; rfl
        refine ⟨_, rfl, .inl ⟨rfl, xs, SqL.of hfa7⟩, _, rfl, lk, _, h7, trivial, fun od => ?_⟩
        have hds : ∀ j : Nat, ll[j]?.map (·.1) = S.parts[j]?.map (·.1) := fun j => by rw [← List.getElem?_map, ← List.getElem?_map, k7]
        refine ⟨_, rfl, lk, od, rfl, .inl ⟨_, upd_same, dcKeysY (kvs0 := encK ll) upd_same (by rw [encK_len]; exact small1000 (by omega)) (fun j acc _ => acc = encK ((lackOf S os ls i A).take j)) (fun _ _ _ _ _ h => h) rfl (fun Ky j key v acc H8 hx8 s8 g ky => ?_) (fun D acc H8 hD8 s8 hA8 _ g => ?_)⟩⟩
        · obtain ⟨z, hz, rfl, rfl⟩ := enc_get hx8
          have hzk : z.1 ∈ ll.map (·.1) := List.mem_map_of_mem (List.mem_of_getElem? hz)
          have hpj : (lackOf S os ls i A)[j]? = some (z.1, max 0 (0 - leftOf S os ls i A z.1)) := by
            have e := hds j
            rw [hz] at e
            unfold lackOf
            rw [List.getElem?_map]
            cases hs : S.parts[j]? with
            | none => rw [hs] at e; cases e
            | some p =>
              rw [hs] at e
              have e : z.1 = p.1 := Option.some.inj e
              rw [Option.map_some, e]
          have hv : (if (0 - asOf ll z.1) > 0 then (0 - asOf ll z.1) else 0) = max 0 (0 - leftOf S os ls i A z.1) := by
            rw [hleft z.1 (by rw [← k7]; exact hzk)]
            split <;> omega
          refine ⟨rfl, _, rfl, _, rfl, _, rfl, lk, _, rfl, dgetF (s8 _ _ upd_same) (asOf_get rfl hzk), _, _, rfl, rfl, _, _, rfl, ?_⟩
          have hky := ky (Sum.inr z.1 : Key) (.int (max 0 (0 - leftOf S os ls i A z.1))) _ (Same.refl _) (by
            subst g
            exact enc_next (by rw [ekeys]; exact hok.ndp) hpj)
          rw [← hv] at hky
          exact hky
        · subst g
          rw [encK_len, hlen7, show (lackOf S os ls i A).take S.parts.length = lackOf S os ls i A from List.take_of_length_le (by unfold lackOf; rw [List.length_map]; exact Nat.le_refl _)] at hA8
          have n8 := new_lock h7 s8 hD8 hA8
          refine ⟨s8 _ _ upd_same, ?_⟩
          refine ⟨sz2, fun p9 H9 n9 => ?_⟩
          have s9 : Same H' H9 := s17.trans (n8.same.trans n9.same)
          have hfa9 := n9.same _ _ (n8.same _ _ hfa7)
          have hlx9 := plen hrs
          refine ⟨fa, xs, _, rfl, rfl, hfa9, small1000 (by omega), fun H10 m10 => ?_⟩
          have k10 : Kp fa H' H10 := (kp_of s9).trans m10.kp
          have hp9 : p9 ≠ fa := (n9.ne (n8.same _ _ hfa7)).symm
          have hD9 : D ≠ fa := (n8.ne hfa7).symm
          refine ⟨_, _, _, _, _, _, _, _, tp2, l2, xs ++ [.ref p9], rs ++ [(o.1, lackOf S os ls i A)], rfl, k.trans k10, m10.at_, papp (pimp (fun _ _ z => z.kp k10 hfa) hrs) (.cons ⟨p9, D, rfl, ?_, ?_⟩ .nil), by rw [List.length_append, hrl]; rfl, fun j r hj => ?_, RowF.kp (H := H9) m10.kp hfa9 ((hF3.sm (n4.same.trans (s5.trans s7))).sm (n8.same.trans n9.same)), nd3, hin3, hcm3⟩
          · rw [m10.else_ _ hp9]; exact n9.at_
          · rw [m10.else_ _ hD9]; exact n9.same _ _ n8.at_
          · rcases Nat.lt_or_ge j rs.length with y | y
            · rw [List.getElem?_append_left y] at hj
              exact hok2 j r hj
            · rw [List.getElem?_append_right y] at hj
              have ej : j = i := by
                rcases Nat.lt_or_ge 0 (j - rs.length) with y2 | y2
                · rw [List.getElem?_eq_none (by rw [List.length_singleton]; exact y2)] at hj; cases hj
                · omega
              subst ej
              rw [hrl, Nat.sub_self] at hj
              have hj := Option.some.inj hj
              subst hj
              exact ⟨A, fun x => by rw [hsol x, hcm3 x], hday.symm, rfl⟩
    · subst e
      refine ⟨_, rfl, ?_⟩
      exact q fa xs rs H' (k.same s02 hfa0) hfa hrs (by rw [hrl, hlo]) hok2
end K57
namespace K57
open PySem PySem.Spec PyProof.Rows L2
variable {P : Program} {w : World} {K : PySem.W.Frag} {mg : Str → Option Value} {base : Heap}
def lateR (r : Int × List (Str × Int)) : Bool := r.2.any fun p => decide (0 < p.2)
theorem first_of {α : Type} {f : α → Bool} : ∀ {l : List α}, (∃ (r : α) (t : List α) (k : Nat), l.filter f = r :: t ∧ l[k]? = some r ∧ f r = true ∧ ∀ j, j < k → ∀ s, l[j]? = some s → f s = false) ∨ (l.filter f = [] ∧ ∀ (j : Nat) (s : α), l[j]? = some s → f s = false)
  | [] => .inr ⟨rfl, fun j s e => by simp at e⟩
  | a :: l => by
    cases e : f a with
    | true => exact .inl ⟨a, l.filter f, 0, by rw [List.filter_cons, if_pos e], rfl, e, fun j hj => absurd hj (Nat.not_lt_zero j)⟩
    | false =>
      have e1 : (a :: l).filter f = l.filter f := by rw [List.filter_cons, if_neg (by rw [e]; decide)]
      rcases first_of (f := f) (l := l) with ⟨r, t, k, h1, h2, h3, h4⟩ | ⟨h1, h2⟩
      · refine .inl ⟨r, t, k + 1, by rw [e1]; exact h1, by simpa using h2, h3, fun j hj s hs => ?_⟩
        cases j with
        | zero =>
          have : a = s := by simpa using hs
          rw [← this]; exact e
        | succ j => exact h4 j (by omega) s (by simpa using hs)
      · refine .inr ⟨by rw [e1]; exact h1, fun j s hs => ?_⟩
        cases j with
        | zero =>
          have : a = s := by simpa using hs
          rw [← this]; exact e
        | succ j => exact h2 j s (by simpa using hs)
theorem late_of {S : Shop} {os : Ords} {ls : Lds} {i : Nat} {r : Int × List (Str × Int)} (h : DayOk S os ls i r) : (lateR r = true → Late S os ls i) ∧ (lateR r = false → Fine S os ls i) := by
  obtain ⟨A, h1, h2, h3⟩ := h
  constructor
  · intro e
    unfold lateR at e
    rw [h3] at e
    obtain ⟨p, hp, e⟩ := List.any_eq_true.mp e
    have e := of_decide_eq_true e
    unfold lackOf at hp
    obtain ⟨q, hq, rfl⟩ := List.mem_map.mp hp
    refine ⟨A, h1, q.1, List.mem_map_of_mem hq, ?_⟩
    have e : 0 < max 0 (0 - leftOf S os ls i A q.1) := e
    omega
  · intro e
    refine ⟨A, h1, fun x hx => ?_⟩
    obtain ⟨q, hq, rfl⟩ := List.mem_map.mp hx
    unfold lateR at e
    rw [h3] at e
    have e2 := List.any_eq_false.mp e (q.1, max 0 (0 - leftOf S os ls i A q.1)) (List.mem_map_of_mem (f := fun p : Str × Int => (p.1, max 0 (0 - leftOf S os ls i A p.1))) hq)
    have e2 : ¬ (0 < max 0 (0 - leftOf S os ls i A q.1)) := fun z => e2 (decide_eq_true z)
    omega
def LateAns (S : Shop) (os : Ords) (ls : Lds) (r : Option Int) : Prop := (r = none ∧ ∀ j, j < os.length → Fine S os ls j) ∨ ∃ k, k < os.length ∧ r = some (dayOf os k) ∧ Late S os ls k ∧ ∀ j, j < k → Fine S os ls j
def optV : Option Int → V
  | none => .non
  | some d => .int d
def sp_first_late : Sp := fun vs H Q _ => ∃ (t a b : Addr) (S : Shop) (os : Ords) (ls : Lds), vs = [.ref t, .ref a, .ref b] ∧ ShopAt H t S ∧ ShopOk S ∧ OrdersAt H a os ∧ OrdersOk S os ∧ LoadAt H b ls ∧ LoadOk S ls ∧
  ∀ r H', Same H H' → LateAns S os ls r → Q (optV r) H'
/-! ### first_late: 0 shop, 1 orders, 2 goods, 3 late, 4 day, 5 lacks, 6 part -/
abbrev N_first_late : List Str := ["shop", "orders", "goods", "late", "day", "lacks", "part"]
theorem sc_first_late : FnScope N_first_late ["shop", "orders", "goods"] (defScope s_first_late) := ⟨rfl, rfl, rfl, by decide +kernel, rfl, by decide +kernel, by decide +kernel⟩
theorem ok_first_late (T : Tx K mg) : OkF P w K mg base "first_late" 8 ["shop", "orders", "goods"] [] sp_first_late := by
  have O_want_schedule : OkF P w K mg base "want_schedule" 7 ["shop", "orders", "goods"] [] sp_want_schedule := ok_want_schedule T
  have O_lacks_by_days : OkF P w K mg base "lacks_by_days" 3 ["shop", "orders", "goods"] [] sp_lacks_by_days := ok_lacks_by_days T
  refine okF_mk d_first_late T (fn_mem 28 rfl) rfl rfl sc_first_late (fun _ _ _ _ _ _ us hl => match us, hl with | [_, _, _], _ => rfl) (fun vs H Q E h => ?_) (fun f cdv A outer s H vs Q E hr h => ?_)
  · first | (obtain ⟨_, rfl, _⟩ := h; rfl) | (obtain ⟨_, _, rfl, _⟩ := h; rfl) | (obtain ⟨_, _, _, rfl, _⟩ := h; rfl) | (obtain ⟨_, _, _, _, rfl, _⟩ := h; rfl) | (obtain ⟨_, _, _, _, _, rfl, _⟩ := h; rfl) | (obtain ⟨_, _, _, _, _, _, rfl, _⟩ := h; rfl) | (obtain ⟨_, _, _, _, _, _, _, rfl, _⟩ := h; rfl)
  · have hu := hu_of hr
    have hu65 := hu65_of hr
    refine ⟨_, (pss_cons (ps_expr (pe_callO O_want_schedule hr (pa_cons (pv 0) (pa_cons (pv 1) (pa_cons (pv 2) pa_nil)))))
      (pss_cons (ps_setLc (i := 3) (own := [("day", 4), ("lacks", 5)]) (g := (gTupN 2 (gCons (gName 4) (gCons (gName 5) gNil)))) rfl sc_first_late.nd rfl rfl (sw_true rfl rfl rfl (by decide +kernel)) (pi_lstN (pe_callO O_lacks_by_days hr (pa_cons (pv 0) (pa_cons (pv 1) (pa_cons (pv 2) pa_nil))))) (blkOk_by (N := N_first_late) (sc := (defScope s_first_late)) (own := [("day", 4), ("lacks", 5)]) (by decide +kernel)) (fun _ _ _ _ _ => (pg_tupN rfl (pgs_cons (pg_name (i := 4) sc_first_late.nd rfl (by first | exact Or.inl rfl | exact Or.inr rfl)) (pgs_cons (pg_name (i := 5) sc_first_late.nd rfl (by first | exact Or.inl rfl | exact Or.inr rfl)) pgs_nil)))) (fun _ _ _ _ _ => pts_one (pt_val (pe_callB (cr_anyN rfl) (by rfl) T.m_any b_any (pa_cons (pe_lock (pe_lc (own := [("part", 6)]) (g := (gName 6)) (tt := tYes) rfl sc_first_late.nd (pi_keys (pv 5)) (blkOk_by (N := N_first_late) (sc := (relS _ (defScope s_first_late))) (own := [("part", 6)]) (by decide +kernel)) (fun _ _ _ _ _ => (pg_name (i := 6) sc_first_late.nd rfl (by first | exact Or.inl rfl | exact Or.inr rfl))) (fun _ _ _ _ _ => pts_nil) (fun _ _ _ _ _ => (pe_cmpR op_gt (pe_dget hu (pv 5) (pv 6) (fun _ _ => rfl)) pe_int (by first | exact nomark _ | rfl))))) pa_nil)))) (fun _ _ _ _ _ => (pv 4)))
      (pss_one (ps_ret (pe_ifExp (pt_cmpR op_gt (pe_callB call_len_seqN (by rfl) T.m_len b_len (pa_cons (pv 3) pa_nil)) pe_int (by first | exact nomark _ | rfl)) (pe_ix ix_listN (pv 3) pe_int (fun _ _ => rfl)) pe_non))))), ?_⟩
    obtain ⟨t, a, b, S, os, ls, rfl, hS, hok, ha, ho, hb, hl, q⟩ := h
    have hfo := ho.few
    refine ⟨_, rfl, _, rfl, _, rfl, t, a, b, S, os, ls, rfl, hS, hok.few, ha, ho, hb, hl, fun H1 s1 => ?_⟩
    have k1 := tk_of s1
    refine ⟨_, rfl, _, rfl, _, rfl, t, a, b, S, os, ls, rfl, hS.tk k1, hok, ha.tk k1, ho, hb.tk k1, hl, fun p xs rs H2 s2 hp hrs hlr hday => ?_⟩
    have hlx := plen hrs
    refine ⟨p, rfl, ⟨_, hp⟩, fun _ => lcLst hp (small1000 (by omega)) (fun i acc _ => acc = ((rs.take i).filter lateR).map fun r => V.int r.1) (fun _ _ _ _ _ h => h) rfl (fun Ky Kn i x acc H3 hx s3 g ky kn => ?_) (fun D acc H3 hD3 s3 hA3 hl3 g => ?_)⟩
    · obtain ⟨r, hr2, u5, dk, rfl, hu5, hdk⟩ := pget hrs hx
      have hdk3 := s3 _ _ hdk
      have hsz : r.2.length < sizeLine := by
        obtain ⟨A, _, _, e⟩ := hday i r hr2
        rw [e]
        unfold lackOf
        rw [List.length_map]
        exact small1000 (by have := hok.np; omega)
      refine ⟨u5, _, rfl, s3 _ _ hu5, rfl, _, _, rfl, _, _, rfl, rfl, rfl, dk, _, hdk3, trivial, fun od => ?_⟩
      refine ⟨_, rfl, dk, od, rfl, .inl ⟨_, upd_same, lcKeysY (kvs0 := encK r.2) upd_same (by rw [encK_len]; exact hsz) (fun j acc _ => acc = (((r.2.take j).map fun p => decide (0 < (asOf r.2 p.1)))).map V.bl) (fun _ _ _ _ _ h => h) rfl (fun Ky2 j key v acc2 H4 hx4 s4 g4 ky2 => ?_) (fun D2 acc2 H4 hD4 s4 hA4 _ g4 => ?_)⟩⟩
      · obtain ⟨z, hz, rfl, rfl⟩ := enc_get hx4
        have hzk : z.1 ∈ r.2.map (·.1) := List.mem_map_of_mem (List.mem_of_getElem? hz)
        refine ⟨rfl, _, rfl, _, rfl, dk, _, rfl, dgetF (s4 _ _ upd_same) (asOf_get rfl hzk), _, _, rfl, rfl, ?_⟩
        refine ky2 _ _ (Same.refl _) ?_
        subst g4
        rw [take_next hz, List.map_append, List.map_append]; rfl
      · subst g4
        rw [encK_len, List.take_length] at hA4
        have n4 := new_lock hdk3 s4 hD4 hA4
        refine ⟨s4 _ _ upd_same, D2, _, rfl, n4.at_, ?_⟩
        have eb : ((r.2.map fun p => decide (0 < asOf r.2 p.1)).any id) = lateR r := by
          obtain ⟨A, _, _, e⟩ := hday i r hr2
          have nd : (r.2.map (·.1)).Nodup := by
            rw [e]
            unfold lackOf
            rw [List.map_map]
            exact hok.ndp
          unfold lateR
          rw [List.any_map]
          have : ∀ m : List (Str × Int), (∀ p ∈ m, p ∈ r.2) → (m.any (id ∘ fun p => decide (0 < asOf r.2 p.1))) = m.any fun p => decide (0 < p.2) := by
            intro m
            induction m with
            | nil => intro _; rfl
            | cons p m ih =>
              intro h
              rw [List.any_cons, List.any_cons, ih fun q hq => h q (List.mem_cons_of_mem _ hq)]
              have e2 : asOf r.2 p.1 = p.2 := by
                unfold asOf
                rw [getL_of_mem (v := p.2) nd (h p List.mem_cons_self)]; rfl
              show (decide (0 < asOf r.2 p.1) || _) = _
              rw [e2]
          exact this _ fun _ h => h
        refine ⟨lateR r, congrArg V.bl eb, ?_⟩
        cases hc : lateR r with
        | true =>
          refine iteT ?_
          refine ⟨_, rfl, ?_⟩
          refine ky _ _ n4.same ?_
          subst g
          rw [filt_next _ hr2, hc]
          simp
        | false =>
          refine iteF (A := _) ?_
          refine kn _ n4.same ?_
          subst g
          rw [filt_next _ hr2, hc]
          simp
    · subst g
      rw [hlx, List.take_length] at hA3
      have s13 := s1.trans (s2.trans s3)
      refine ⟨_, rfl, D, _, rfl, .inl hA3, _, _, rfl, rfl, ?_⟩
      rcases first_of (f := lateR) (l := rs) with ⟨r, tl, k, h1, h2, h3, h4⟩ | ⟨h1, h2⟩
      · refine ⟨true, congrArg V.bl (decide_eq_true ?_), ?_⟩
        · rw [h1]
          show (0 : Int) < ((tl.map fun r => V.int r.1).length + 1 : Nat)
          omega
        refine iteT ?_
        rw [h1] at hA3
        refine ⟨_, rfl, D, _, _, _, rfl, rfl, hA3, atI_nat (j := 0) rfl, ?_⟩
        have hk : k < os.length := by
          rcases Nat.lt_or_ge k rs.length with y | y
          · omega
          · rw [List.getElem?_eq_none y] at h2; cases h2
        obtain ⟨A, _, ed, _⟩ := hday k r h2
        have := q (some (dayOf os k)) H3 s13 (.inr ⟨k, hk, rfl, (late_of (hday k r h2)).1 h3, fun j hj => ?_⟩)
        · rw [← ed] at this
          exact this
        · obtain ⟨s, hs⟩ : ∃ s, rs[j]? = some s := ⟨_, List.getElem?_eq_getElem (by omega)⟩
          exact (late_of (hday j s hs)).2 (h4 j hj s hs)
      · refine ⟨false, congrArg V.bl (decide_eq_false ?_), ?_⟩
        · rw [h1]
          decide
        refine iteF (A := _) ?_
        refine q none H3 s13 (.inl ⟨rfl, fun j hj => ?_⟩)
        obtain ⟨s, hs⟩ : ∃ s, rs[j]? = some s := ⟨_, List.getElem?_eq_getElem (by omega)⟩
        exact (late_of (hday j s hs)).2 (h2 j s hs)
def sp_can_deliver : Sp := fun vs H Q _ => ∃ (t a b : Addr) (S : Shop) (os : Ords) (ls : Lds), vs = [.ref t, .ref a, .ref b] ∧ ShopAt H t S ∧ ShopOk S ∧ OrdersAt H a os ∧ OrdersOk S os ∧ LoadAt H b ls ∧ LoadOk S ls ∧
  ∀ r H', Same H H' → LateAns S os ls r → Q (.bl r.isNone) H'
/-! ### can_deliver: 0 shop, 1 orders, 2 goods -/
abbrev N_can_deliver : List Str := ["shop", "orders", "goods"]
theorem sc_can_deliver : FnScope N_can_deliver ["shop", "orders", "goods"] (defScope s_can_deliver) := ⟨rfl, rfl, rfl, by decide +kernel, rfl, by decide +kernel, by decide +kernel⟩
theorem ok_can_deliver (T : Tx K mg) : OkF P w K mg base "can_deliver" 9 ["shop", "orders", "goods"] [] sp_can_deliver := by
  have O_first_late : OkF P w K mg base "first_late" 8 ["shop", "orders", "goods"] [] sp_first_late := ok_first_late T
  refine okF_mk d_can_deliver T (fn_mem 29 rfl) rfl rfl sc_can_deliver (fun _ _ _ _ _ _ us hl => match us, hl with | [_, _, _], _ => rfl) (fun vs H Q E h => ?_) (fun f cdv A outer s H vs Q E hr h => ?_)
  · first | (obtain ⟨_, rfl, _⟩ := h; rfl) | (obtain ⟨_, _, rfl, _⟩ := h; rfl) | (obtain ⟨_, _, _, rfl, _⟩ := h; rfl) | (obtain ⟨_, _, _, _, rfl, _⟩ := h; rfl) | (obtain ⟨_, _, _, _, _, rfl, _⟩ := h; rfl) | (obtain ⟨_, _, _, _, _, _, rfl, _⟩ := h; rfl) | (obtain ⟨_, _, _, _, _, _, _, rfl, _⟩ := h; rfl)
  · have hu := hu_of hr
    have hu65 := hu65_of hr
    refine ⟨_, (pss_one (ps_ret (pe_cmpR op_isN (pe_callO O_first_late hr (pa_cons (pv 0) (pa_cons (pv 1) (pa_cons (pv 2) pa_nil)))) pe_non (by first | exact nomark _ | rfl)))), ?_⟩
    obtain ⟨t, a, b, S, os, ls, rfl, hS, hok, ha, ho, hb, hl, q⟩ := h
    refine ⟨_, rfl, _, rfl, _, rfl, t, a, b, S, os, ls, rfl, hS, hok, ha, ho, hb, hl, fun r H1 s1 hr => ?_⟩
    refine ⟨rfl, ?_⟩
    have := q r H1 s1 hr
    cases r <;> exact this
end K57
namespace K57
open PySem PySem.Spec PyProof.Rows L2
/-! ### the spring -/
abbrev kc : Key := Sum.inr "cells"
abbrev ka : Key := Sum.inr "at"
abbrev kl : Key := Sum.inr "left"
abbrev kn : Key := Sum.inr "count"
def sprK (c : Addr) (a l n : Int) : List (Key × V) := [(kc, .ref c), (ka, .int a), (kl, .int l), (kn, .int n)]
def Spr (H : Hp) (sp c : Addr) : Prop := ∃ (ns : List Int) (a l n : Int), H sp = some (.dK (sprK c a l n)) ∧ H c = some (.lst (ns.map V.int)) ∧ ns.length ≤ 60
theorem put_at (c : Addr) (a l n v : Int) : putK (sprK c a l n) ka (.int v) = sprK c v l n := by rfl
theorem put_left (c : Addr) (a l n v : Int) : putK (sprK c a l n) kl (.int v) = sprK c a v n := by rfl
theorem put_count (c : Addr) (a l n v : Int) : putK (sprK c a l n) kn (.int v) = sprK c a l v := by rfl
theorem val_c (c : Addr) (a l n : Int) : valV (sprK c a l n) kc = some (.ref c) := by rfl
theorem val_at (c : Addr) (a l n : Int) : valV (sprK c a l n) ka = some (.int a) := by rfl
theorem val_left (c : Addr) (a l n : Int) : valV (sprK c a l n) kl = some (.int l) := by rfl
theorem val_count (c : Addr) (a l n : Int) : valV (sprK c a l n) kn = some (.int n) := by rfl
theorem Spr.sm {H H' : Hp} {sp c : Addr} (s : Same H H') (h : Spr H sp c) : Spr H' sp c := let ⟨ns, a, l, n, h1, h2, h3⟩ := h; ⟨ns, a, l, n, s _ _ h1, s _ _ h2, h3⟩
theorem Spr.md {H H' : Hp} {sp c fa : Addr} {o : HO} (h : Spr H sp c) (m : Md H fa o H') (h1 : fa ≠ sp) (h2 : fa ≠ c) : Spr H' sp c :=
  let ⟨ns, a, l, n, e1, e2, e3⟩ := h
  ⟨ns, a, l, n, by rw [m.else_ _ h1.symm]; exact e1, by rw [m.else_ _ h2.symm]; exact e2, e3⟩
theorem Spr.ne {H : Hp} {sp c fa : Addr} (h : Spr H sp c) (e : H fa = none) : fa ≠ sp ∧ fa ≠ c :=
  let ⟨_, _, _, _, e1, e2, _⟩ := h
  ⟨fun z => (by rw [z, e1] at e; cases e), fun z => (by rw [z, e2] at e; cases e)⟩
theorem Spr.lst {H : Hp} {sp c b : Addr} {xs : List V} (h : Spr H sp c) (e : H b = some (.lst xs)) : b ≠ sp := let ⟨_, _, _, _, e1, _⟩ := h; fun z => by rw [z, e1] at e; cases e
theorem Spr.tup {H : Hp} {sp c b : Addr} {xs : List V} (h : Spr H sp c) (e : H b = some (.tup xs)) : b ≠ sp := let ⟨_, _, _, _, e1, _⟩ := h; fun z => by rw [z, e1] at e; cases e
/-- what stands at e is a dict: all tuples stay -/
theorem Kp.tk' {e : Addr} {H H' : Hp} (k : Kp e H H') {kvs : List (Key × V)} (h : H e = some (.dK kvs)) : Tk H H' := fun b xs hb => k b _ (fun z => by rw [z, h] at hb; cases hb) hb
theorem Spr.tk {sp c : Addr} {H H' : Hp} (h : Spr H sp c) (k : Kp sp H H') : Tk H H' := let ⟨_, _, _, _, h1, _⟩ := h; k.tk' h1
section
variable {H : Hp} {sp c : Addr} {a l n : Int}
theorem g_c (h : H sp = some (.dK (sprK c a l n))) : DGet H sp (.str "cells") (some (.ref c)) := DGet.k (k := kc) h
theorem g_at (h : H sp = some (.dK (sprK c a l n))) : DGet H sp (.str "at") (some (.int a)) := DGet.k (k := ka) h
theorem g_left (h : H sp = some (.dK (sprK c a l n))) : DGet H sp (.str "left") (some (.int l)) := DGet.k (k := kl) h
theorem g_count (h : H sp = some (.dK (sprK c a l n))) : DGet H sp (.str "count") (some (.int n)) := DGet.k (k := kn) h
theorem p_at (v : Int) (h : H sp = some (.dK (sprK c a l n))) : ∃ H4, DPut H sp (.str "at") (.int v) H4 ∧ Md H sp (.dK (sprK c v l n)) H4 := dput_of ka (v := .int v) h (show 4 < sizeLine by decide)
theorem p_left (v : Int) (h : H sp = some (.dK (sprK c a l n))) : ∃ H4, DPut H sp (.str "left") (.int v) H4 ∧ Md H sp (.dK (sprK c a v n)) H4 := dput_of kl (v := .int v) h (show 4 < sizeLine by decide)
theorem p_count (v : Int) (h : H sp = some (.dK (sprK c a l n))) : ∃ H4, DPut H sp (.str "count") (.int v) H4 ∧ Md H sp (.dK (sprK c a l v)) H4 := dput_of kn (v := .int v) h (show 4 < sizeLine by decide)
end
theorem ints_lay : ∀ ns : List Int, PyData.canLayAll0 (ns.map PyData.int) = true
  | [] => by simp [PyData.canLayAll0]
  | n :: ns => by
    rw [List.map_cons]
    simp only [PyData.canLayAll0, PyData.canLay0, Bool.true_and]
    exact ints_lay ns
theorem ints_depth : ∀ ns : List Int, PyData.depthAll (ns.map PyData.int) ≤ 1
  | [] => by simp [PyData.depthAll]
  | n :: ns => by
    rw [List.map_cons]
    simp only [PyData.depthAll, PyData.depth]
    have := ints_depth ns
    omega
theorem ints_shaped (ns : List Int) : SeqAt.shaped (.list (ns.map PyData.int)) = true := by
  unfold SeqAt.shaped
  rw [Bool.and_eq_true]
  refine ⟨by simp only [PyData.canLay0]; exact ints_lay ns, decide_eq_true ?_⟩
  have := ints_depth ns
  simp only [PyData.depth]
  omega
theorem ints_empty (ns : List Int) : PyData.eqv (.list (ns.map PyData.int)) (.list []) = decide (ns = []) := by
  cases ns with
  | nil => simp [PyData.eqv, PyData.eqvAll]
  | cons n ns => simp [PyData.eqv, PyData.eqvAll]
/-! ### list comprehensions over a range -/
section
variable {g : TG} {te : TE} {vs : List Nat} {σ : L2.St} {H1 : Hp}
theorem lcRngY {n : Nat} {Q : Addr → Hp → Prop} (hn : n < sizeLine) (G : Nat → List V → Hp → Prop) (hG : ∀ i acc H H', Tk H H' → G i acc H → G i acc H') (h0 : G 0 [] H1)
    (hs : ∀ (Ky : V → Hp → Prop) (i : Nat) (acc : List V) (H : Hp), i < n → Same H1 H → G i acc H → (∀ y H4, Same H H4 → G (i + 1) (acc ++ [y]) H4 → Ky y H4) → g (.int (i : Int)) (wipe σ vs) H fun σ2 H2 => wipe σ2 vs = wipe σ vs ∧ te σ2 H2 Ky)
    (hd : ∀ D acc H, H1 D = none → Same H1 H → H D = some (.lst acc) → acc.length ≤ n → G n acc H → Q D H) :
    ∀ D, H1 D = none → ∃ W : Nat → Nat → Hp → Prop, (∃ m, W 0 m (upd H1 D (.lst []))) ∧ ∀ i m H, W i m H →
      ((Itr 0 n).stop i H ∧ Q D H) ∨ ((Itr 0 n).go i H ∧ ∃ Nx : Hp → Prop, (∀ H', Nx H' → ∃ m', m' < m ∧ W (i + 1) m' H') ∧ ∀ x H', (Itr 0 n).yld i H x H' → g x (wipe σ vs) H' fun σ2 H2 => wipe σ2 vs = wipe σ vs ∧ tYes σ2 H2 fun b H3 =>
        if b = true then te σ2 H3 fun y H4 => ∃ acc, H4 D = some (.lst acc) ∧ acc.length < sizeLine ∧ Nx (upd H4 D (.lst (acc ++ [y]))) else Nx H3) := by
  refine lcS (J := Itr 0 n) (tt := tYes) (fun i x _ => x = .int (i : Int)) G (fun i H hi _ => hi) (fun H _ => Nat.le_refl _) (fun i H x H' hi s y => ⟨y.1 ▸ Same.refl H, by rw [y.2, Int.zero_add]⟩) hn hG h0 (fun Ky Kn i x acc H hi s y g1 a b => ?_) hd
  subst y
  exact hs Ky i acc H hi s g1 a
theorem lcRngK {n : Nat} {Q : Addr → Hp → Prop} (e : Addr) (he : H1 e ≠ none) (hn : n < sizeLine) (G : Nat → List V → Hp → Prop)
    (hG : ∀ i acc H H' D l, H1 D = none → Kp e H1 H → H D = some (.lst l) → (∀ b, b ≠ D → H' b = H b) → G i acc H → G i acc H') (hG2 : ∀ i acc H H', Kp e H1 H → Same H H' → G i acc H → G i acc H') (h0 : G 0 [] H1)
    (hs : ∀ (Ky : V → Hp → Prop) (i : Nat) (acc : List V) (H : Hp), i < n → Kp e H1 H → G i acc H → (∀ y H4, Kp e H H4 → G (i + 1) (acc ++ [y]) H4 → Ky y H4) → g (.int (i : Int)) (wipe σ vs) H fun σ2 H2 => wipe σ2 vs = wipe σ vs ∧ te σ2 H2 Ky)
    (hd : ∀ D acc H, H1 D = none → Kp e H1 H → H D = some (.lst acc) → acc.length ≤ n → G n acc H → Q D H) :
    ∀ D, H1 D = none → ∃ W : Nat → Nat → Hp → Prop, (∃ m, W 0 m (upd H1 D (.lst []))) ∧ ∀ i m H, W i m H →
      ((Itr 0 n).stop i H ∧ Q D H) ∨ ((Itr 0 n).go i H ∧ ∃ Nx : Hp → Prop, (∀ H', Nx H' → ∃ m', m' < m ∧ W (i + 1) m' H') ∧ ∀ x H', (Itr 0 n).yld i H x H' → g x (wipe σ vs) H' fun σ2 H2 => wipe σ2 vs = wipe σ vs ∧ tYes σ2 H2 fun b H3 =>
        if b = true then te σ2 H3 fun y H4 => ∃ acc, H4 D = some (.lst acc) ∧ acc.length < sizeLine ∧ Nx (upd H4 D (.lst (acc ++ [y]))) else Nx H3) := by
  refine lcK (J := Itr 0 n) (tt := tYes) e he (fun i x _ => x = .int (i : Int)) G (fun i H hi _ => hi) (fun H _ => Nat.le_refl _) (fun i H x H' hi s y => ⟨y.1 ▸ Same.refl H, by rw [y.2, Int.zero_add]⟩) hn hG hG2 h0 (fun Ky Kn i x acc H hi s y g1 a b => ?_) hd
  subst y
  exact hs Ky i acc H hi s g1 a
/-- over a list; what stands at e may change -/
theorem lcLstK {K : PySem.W.Frag} {a : Addr} {xs : List V} {Q : Addr → Hp → Prop} (e : Addr) (he : H1 e ≠ none) (hx : H1 a = some (.lst xs)) (hae : a ≠ e) (hn : xs.length < sizeLine) (G : Nat → List V → Hp → Prop)
    (hG : ∀ i acc H H' D l, H1 D = none → Kp e H1 H → H D = some (.lst l) → (∀ b, b ≠ D → H' b = H b) → G i acc H → G i acc H') (hG2 : ∀ i acc H H', Kp e H1 H → Same H H' → G i acc H → G i acc H') (h0 : G 0 [] H1)
    (hs : ∀ (Ky : V → Hp → Prop) (i : Nat) (x : V) (acc : List V) (H : Hp), xs[i]? = some x → Kp e H1 H → G i acc H → (∀ y H4, Kp e H H4 → G (i + 1) (acc ++ [y]) H4 → Ky y H4) → g x (wipe σ vs) H fun σ2 H2 => wipe σ2 vs = wipe σ vs ∧ te σ2 H2 Ky)
    (hd : ∀ D acc H, H1 D = none → Kp e H1 H → H D = some (.lst acc) → acc.length ≤ xs.length → G xs.length acc H → Q D H) :
    ∀ D, H1 D = none → ∃ W : Nat → Nat → Hp → Prop, (∃ m, W 0 m (upd H1 D (.lst []))) ∧ ∀ i m H, W i m H →
      ((Itl K a).stop i H ∧ Q D H) ∨ ((Itl K a).go i H ∧ ∃ Nx : Hp → Prop, (∀ H', Nx H' → ∃ m', m' < m ∧ W (i + 1) m' H') ∧ ∀ x H', (Itl K a).yld i H x H' → g x (wipe σ vs) H' fun σ2 H2 => wipe σ2 vs = wipe σ vs ∧ tYes σ2 H2 fun b H3 =>
        if b = true then te σ2 H3 fun y H4 => ∃ acc, H4 D = some (.lst acc) ∧ acc.length < sizeLine ∧ Nx (upd H4 D (.lst (acc ++ [y]))) else Nx H3) := by
  refine lcK (J := Itl K a) (tt := tYes) e he (fun i x _ => xs[i]? = some x) G (fun i H hi s => ⟨xs, xs[i], SqL.of (s _ _ hae hx), by simp [hi]⟩) (fun H s => ⟨xs, SqL.of (s _ _ hae hx), Nat.le_refl _⟩)
    (fun i H x H' hi s y => ⟨y.1 ▸ Same.refl H, y.2 xs (SqL.of (s _ _ hae hx))⟩) hn hG hG2 h0 (fun Ky Kn i x acc H hi s y g1 a b => ?_) hd
  exact hs Ky i x acc H y s g1 a
end
theorem yesT {σ : L2.St} {H : Hp} {Q : Bool → Hp → Prop} (h : Q true H) : tYes σ H Q := h
end K57
namespace K57
open PySem PySem.Spec PyProof.Rows L2
variable {P : Program} {w : World} {K : PySem.W.Frag} {mg : Str → Option Value} {base : Heap}
def sp_law_spring (K : PySem.W.Frag) : Sp := fun vs H Q _ => ∃ (a : Addr) (ns : List Int), vs = [.ref a] ∧ SqL K H a (ns.map V.int) ∧ ∀ p c H', H p = none → H c = none → Kp p H H' → Spr H' p c → Q (.ref p) H'
/-! ### law_spring: 0 _law_script -/
abbrev N_law_spring : List Str := ["_law_script"]
theorem sc_law_spring : FnScope N_law_spring ["_law_script"] (defScope s_law_spring) := ⟨rfl, rfl, rfl, by decide +kernel, rfl, by decide +kernel, by decide +kernel⟩
theorem ok_law_spring (T : Tx K mg) : OkF P w K mg base "_law_spring" 1 ["_law_script"] [] (sp_law_spring K) := by
  refine okF_mk d_law_spring T (fn_mem 30 rfl) rfl rfl sc_law_spring (fun _ _ _ _ _ _ us hl => match us, hl with | [_], _ => rfl) (fun vs H Q E h => ?_) (fun f cdv A outer s H vs Q E hr h => ?_)
  · first | (obtain ⟨_, rfl, _⟩ := h; rfl) | (obtain ⟨_, _, rfl, _⟩ := h; rfl) | (obtain ⟨_, _, _, rfl, _⟩ := h; rfl) | (obtain ⟨_, _, _, _, rfl, _⟩ := h; rfl) | (obtain ⟨_, _, _, _, _, rfl, _⟩ := h; rfl) | (obtain ⟨_, _, _, _, _, _, rfl, _⟩ := h; rfl) | (obtain ⟨_, _, _, _, _, _, _, rfl, _⟩ := h; rfl)
  · have hu := hu_of hr
    have hu65 := hu65_of hr
    refine ⟨_, (pss_one (ps_ret (pe_disp (pps_cons pe_str (pe_callTy call_list_ofN (by rfl) T.m_list b_list (pa_cons (pe_slice sl_list (pv 0) po_none (po_some pe_int)) pa_nil)) (pps_cons pe_str pe_int (pps_cons pe_str pe_int (pps_cons pe_str pe_int pps_nil)))) (by rfl) (by rfl) (fun z => by cases z) (by decide)))), ?_⟩
    obtain ⟨a, ns, rfl, ha, q⟩ := h
    intro p hp
    have s1 : Same H (upd H p (.dK [])) := same_upd hp
    refine ⟨_, rfl, 60, rfl, a, ns.map V.int, rfl, ha.elim (fun r => .inl (r.elim (fun h => .inl (s1 _ _ h)) fun ⟨o, h⟩ => .inr ⟨o, s1 _ _ h⟩)) .inr, fun c nc => ?_⟩
    refine ⟨c, _, rfl, .inl upd_same, fun c2 H2 n2 => ?_⟩
    have s2 : Same H H2 := s1.trans ((same_upd nc).trans n2.same)
    have hp2 : H2 p = some (.dK []) := n2.same _ _ (same_upd nc _ _ upd_same)
    have e60 : cutV (ns.map V.int) none (some 60) = (ns.take 60).map V.int := by rw [List.map_take]; exact cut_upto _ 60
    refine ⟨hp2, sprK c2 0 0 0, rfl, show 4 ≤ 15 by decide, ?_⟩
    have nc2 : c2 ≠ p := (n2.ne (same_upd nc _ _ upd_same)).symm
    refine q p c2 _ hp (none_same (s1.trans (same_upd nc)) n2.none_) (fun b o nb hb => by rw [upd_ne nb]; exact s2 _ _ hb) ⟨ns.take 60, 0, 0, 0, upd_same, ?_, by rw [List.length_take]; omega⟩
    rw [upd_ne nc2, ← e60]
    exact n2.at_
def sp_law_dip : Sp := fun vs H Q _ => ∃ (sp c : Addr) (m : Int), vs = [.ref sp, .int m] ∧ Spr H sp c ∧ 0 < m ∧ m < 1073741824 ∧ ∀ n H', 0 ≤ n → n < m → Kp sp H H' → Spr H' sp c → Q (.int n) H'
theorem iteB {b : Bool} {A B : Prop} (h1 : b = true → A) (h2 : b = false → B) : if b = true then A else B := by
  cases b with
  | true => rw [if_pos rfl]; exact h1 rfl
  | false => rw [if_neg (by decide)]; exact h2 rfl
theorem int_mod {i m : Int} (h : 0 < m) : 0 ≤ i % m ∧ i % m < m := ⟨Int.emod_nonneg _ (by omega), Int.emod_lt_of_pos _ h⟩
theorem mod_at {xs : List V} {i : Int} (h : 0 < xs.length) : ∃ v, atI xs (i % (xs.length : Int)) = some v ∧ v ∈ xs := by
  obtain ⟨h1, h2⟩ := int_mod (i := i) (m := (xs.length : Int)) (by omega)
  obtain ⟨k, hk⟩ : ∃ k : Nat, i % (xs.length : Int) = (k : Int) := ⟨(i % (xs.length : Int)).toNat, by omega⟩
  have hk2 : k < xs.length := by omega
  exact ⟨xs[k], by rw [hk]; exact atI_nat (List.getElem?_eq_getElem hk2), List.getElem_mem hk2⟩
/-! ### law_dip: 0 _law_spring_here, 1 _law_many, 2 _law_figure, 3 _law_spot, 4 _law_cell, 5 _law_mixed -/
abbrev N_law_dip : List Str := ["_law_spring_here", "_law_many", "_law_figure", "_law_spot", "_law_cell", "_law_mixed"]
theorem sc_law_dip : FnScope N_law_dip ["_law_spring_here", "_law_many"] (defScope s_law_dip) := ⟨rfl, rfl, rfl, by decide +kernel, rfl, by decide +kernel, by decide +kernel⟩
theorem ok_law_dip (T : Tx K mg) : OkF P w K mg base "_law_dip" 1 ["_law_spring_here", "_law_many"] [] sp_law_dip := by
  refine okF_mk d_law_dip T (fn_mem 31 rfl) rfl rfl sc_law_dip (fun _ _ _ _ _ _ us hl => match us, hl with | [_, _], _ => rfl) (fun vs H Q E h => ?_) (fun f cdv A outer s H vs Q E hr h => ?_)
  · first | (obtain ⟨_, rfl, _⟩ := h; rfl) | (obtain ⟨_, _, rfl, _⟩ := h; rfl) | (obtain ⟨_, _, _, rfl, _⟩ := h; rfl) | (obtain ⟨_, _, _, _, rfl, _⟩ := h; rfl) | (obtain ⟨_, _, _, _, _, rfl, _⟩ := h; rfl) | (obtain ⟨_, _, _, _, _, _, rfl, _⟩ := h; rfl) | (obtain ⟨_, _, _, _, _, _, _, rfl, _⟩ := h; rfl)
  · have hu := hu_of hr
    have hu65 := hu65_of hr
    refine ⟨_, (pss_cons (ps_dput hu (pv 0) pe_str (pe_op op_add (pe_dget hu (pv 0) pe_str (fun _ _ => rfl)) pe_int) rfl)
      (pss_cons (ps_if (pt_cmpR op_gt (pe_dget hu (pv 0) pe_str (fun _ _ => rfl)) pe_int (by first | exact nomark _ | rfl))
        (pss_cons (ps_set (i := 2) sc_law_dip.nd rfl (by first | exact Or.inl rfl | exact Or.inr rfl) (pe_op op_mod (pe_callTy call_int1 (by rfl) T.m_int b_int (pa_cons (pe_dget hu (pv 0) pe_str (fun _ _ => rfl)) pa_nil)) (pv 1)))
        (pss_cons (ps_dput hu (pv 0) pe_str (pe_op op_fdiv (pe_dget hu (pv 0) pe_str (fun _ _ => rfl)) (pv 1)) rfl)
        (pss_one (ps_ret (pv 2))))) pss_nil)
      (pss_cons (ps_set (i := 3) sc_law_dip.nd rfl (by first | exact Or.inl rfl | exact Or.inr rfl) (pe_dget hu (pv 0) pe_str (fun _ _ => rfl)))
      (pss_cons (ps_dput hu (pv 0) pe_str (pe_op op_add (pv 3) pe_int) rfl)
      (pss_cons (ps_set (i := 4) sc_law_dip.nd rfl (by first | exact Or.inl rfl | exact Or.inr rfl) (pe_ifExp (pt_cmpR (op_neN hu65) (pe_dget hu (pv 0) pe_str (fun _ _ => rfl)) (pe_lstN pa_nil) (by first | exact nomark _ | rfl)) (pe_ix ix_listN (pe_dget hu (pv 0) pe_str (fun _ _ => rfl)) (pe_op op_mod (pe_callTy call_int1 (by rfl) T.m_int b_int (pa_cons (pv 3) pa_nil)) (pe_callB call_len_seqN (by rfl) T.m_len b_len (pa_cons (pe_dget hu (pv 0) pe_str (fun _ _ => rfl)) pa_nil))) (fun _ _ => rfl)) pe_int))
      (pss_cons (ps_if (PW.pt (pw_and (pt_cmpR op_ge (pv 4) (pe_op op_pow pe_int pe_int) (by first | exact nomark _ | rfl)) (pw_and1 (pt_cmpR op_lt (pv 3) (pe_callB call_len_seqN (by rfl) T.m_len b_len (pa_cons (pe_dget hu (pv 0) pe_str (fun _ _ => rfl)) pa_nil)) (by first | exact nomark _ | rfl)))))
        (pss_cons (ps_dput hu (pv 0) pe_str (pe_op op_fdiv (pv 4) (pv 1)) rfl)
        (pss_one (ps_ret (pe_op op_mod (pe_callTy call_int1 (by rfl) T.m_int b_int (pa_cons (pv 4) pa_nil)) (pv 1))))) pss_nil)
      (pss_cons (ps_set (i := 5) sc_law_dip.nd rfl (by first | exact Or.inl rfl | exact Or.inr rfl) (pe_op op_mod (pe_callTy call_int1 (by rfl) T.m_int b_int (pa_cons (pe_op op_add (pe_op op_add (pe_op op_mod (pe_callTy call_int1 (by rfl) T.m_int b_int (pa_cons (pv 4) pa_nil)) pe_int) (pe_op op_mul pe_int (pe_dget hu (pv 0) pe_str (fun _ _ => rfl)))) pe_int) pa_nil)) pe_int))
      (pss_cons (ps_set (i := 5) sc_law_dip.nd rfl (by first | exact Or.inl rfl | exact Or.inr rfl) (pe_op op_mod (pe_callTy call_int1 (by rfl) T.m_int b_int (pa_cons (pe_op op_add (pe_op op_add (pe_op op_mul (pv 5) (pv 5)) (pe_op op_mul pe_int (pe_dget hu (pv 0) pe_str (fun _ _ => rfl)))) pe_int) pa_nil)) pe_int))
      (pss_one (ps_ret (pe_op op_mod (pe_callTy call_int1 (by rfl) T.m_int b_int (pa_cons (pe_op op_fdiv (pe_op op_mod (pe_callTy call_int1 (by rfl) T.m_int b_int (pa_cons (pe_op op_add (pe_op op_mul (pv 5) (pv 5)) (pe_op op_mul pe_int (pv 5))) pa_nil)) pe_int) pe_int) pa_nil)) (pv 1)))))))))))), ?_⟩
    obtain ⟨sp, c, m, rfl, ⟨ns, a, l, n, hs, hc, hlen⟩, hm0, hm1, q⟩ := h
    have hcs : c ≠ sp := fun e => by rw [e, hs] at hc; cases hc
    obtain ⟨H1, d1, m1⟩ := p_count (n + 1) hs
    refine ⟨_, rfl, sp, _, rfl, g_count hs, _, _, rfl, rfl, _, rfl, sp, H1, rfl, d1, ?_⟩
    have h1 := m1.at_
    have hc1 : H1 c = some (.lst (ns.map V.int)) := by rw [m1.else_ c hcs]; exact hc
    have hall : ∀ {H' : Hp} {a l n}, Kp sp H H' → H' sp = some (.dK (sprK c a l n)) → Spr H' sp c := fun k h => ⟨ns, _, _, _, h, k c _ hcs hc, hlen⟩
    refine ⟨_, rfl, sp, _, rfl, g_left h1, _, _, rfl, rfl, ?_⟩
    by_cases hl : l > 0
    · refine ⟨true, congrArg V.bl (decide_eq_true hl), ?_⟩
      refine iteT ?_
      refine ⟨_, rfl, sp, _, rfl, g_left h1, .inl ⟨_, rfl, _, rfl, _, _, rfl, rfl, hm0, ?_⟩⟩
      obtain ⟨H2, d2, m2⟩ := p_left (l / m) h1
      refine ⟨_, rfl, sp, _, rfl, g_left h1, _, rfl, _, _, rfl, rfl, ⟨hm0, hm1⟩, _, rfl, sp, H2, rfl, d2, ?_⟩
      have k2 : Kp sp H H2 := m1.kp.trans m2.kp
      exact ⟨_, rfl, q _ _ (int_mod hm0).1 (int_mod hm0).2 k2 (hall k2 m2.at_)⟩
    refine ⟨false, congrArg V.bl (decide_eq_false hl), ?_⟩
    refine iteF (A := _) ?_
    refine ⟨_, rfl, sp, _, rfl, g_at h1, ?_⟩
    obtain ⟨H2, d2, m2⟩ := p_at (a + 1) h1
    refine ⟨_, rfl, _, _, rfl, rfl, _, rfl, sp, H2, rfl, d2, ?_⟩
    have h2 := m2.at_
    have k2 : Kp sp H H2 := m1.kp.trans m2.kp
    have hc2 : H2 c = some (.lst (ns.map V.int)) := k2 c _ hcs hc
    refine ⟨_, rfl, sp, _, rfl, g_c h2, by decide, fun p3 H3 n3 => ?_⟩
    have h3 := n3.same _ _ h2
    have hc3 := n3.same _ _ hc2
    have k3 : Kp sp H H3 := k2.trans (kp_of n3.same)
    have end_ : ∀ x, Q (.int (x % m)) H3 := fun x => q _ _ (int_mod hm0).1 (int_mod hm0).2 k3 (hall k3 h3)
    refine ⟨.list (ns.map PyData.int), .list [], .lst hc3 (ints_dt ns), .lst n3.at_ .nil, ints_shaped ns, by decide, ?_⟩
    rw [ints_empty]
    by_cases hz : ns = []
    rw [decide_eq_true hz]
    refine ⟨false, rfl, ?_⟩
    refine iteF (A := _) ?_
    rotate_left
    rw [decide_eq_false hz]
    refine ⟨true, rfl, ?_⟩
    refine iteT ?_
    have hpos : 0 < (ns.map V.int).length := by rw [List.length_map]; exact List.length_pos_iff.mpr hz
    obtain ⟨v, hv, hvm⟩ := mod_at (xs := ns.map V.int) (i := a) hpos
    obtain ⟨cell, _, rfl⟩ := List.mem_map.mp hvm
    refine ⟨_, rfl, sp, _, rfl, g_c h3, _, rfl, .inl ⟨_, rfl, _, rfl, sp, _, rfl, g_c h3, c, _, rfl, .inl hc3, _, _, rfl, rfl, by omega, c, _, _, _, rfl, rfl, hc3, hv, ?_⟩⟩
    rotate_left
    all_goals
      refine ⟨_, rfl, _, _, rfl, rfl, ⟨by decide, by decide, by decide⟩, _, _, rfl, rfl, _, rfl, ?_⟩
      refine iteB (fun hb1 => ?_) (fun hb1 => ?_)
      refine ⟨_, rfl, _, rfl, sp, _, rfl, g_c h3, c, _, rfl, .inl hc3, _, _, rfl, rfl, _, rfl, ?_⟩
      refine iteB (fun hb2 => ?_) (fun hb2 => ?_)
      obtain ⟨H4, d4, m4⟩ := p_left (_ / m) h3
      refine ⟨_, rfl, _, rfl, _, _, rfl, rfl, ⟨hm0, hm1⟩, _, rfl, sp, H4, rfl, d4, ?_⟩
      exact ⟨_, rfl, .inl ⟨_, rfl, _, rfl, _, _, rfl, rfl, hm0, q _ _ (int_mod hm0).1 (int_mod hm0).2 (k3.trans m4.kp) (hall (k3.trans m4.kp) m4.at_)⟩⟩
    all_goals
      first | refine iteF (A := _) ?_ | skip
      refine ⟨_, rfl, .inl ⟨_, rfl, _, _, rfl, rfl, show (0 : Int) < 1000000427 by decide, _, rfl, sp, _, rfl, g_count h3, _, _, rfl, rfl, .inl (by decide), _, _, rfl, rfl, _, _, rfl, rfl, .inl ⟨_, rfl, _, _, rfl, rfl, show (0 : Int) < 2147483549 by decide, ?_⟩⟩⟩
      refine ⟨_, rfl, _, rfl, _, _, rfl, rfl, .inl ⟨by omega, by omega⟩, _, rfl, sp, _, rfl, g_count h3, _, _, rfl, rfl, .inl (by decide), _, _, rfl, rfl, _, _, rfl, rfl, .inl ⟨_, rfl, _, _, rfl, rfl, show (0 : Int) < 2147483477 by decide, ?_⟩⟩
      refine ⟨_, rfl, _, rfl, _, _, rfl, rfl, .inl ⟨by omega, by omega⟩, _, rfl, _, _, rfl, rfl, .inl (by decide), _, _, rfl, rfl, .inl ⟨_, rfl, _, _, rfl, rfl, show (0 : Int) < 2147483423 by decide, _, _, rfl, rfl, ⟨show (0 : Int) < 32 by decide, show (32 : Int) < 1073741824 by decide⟩, .inl ⟨_, rfl, _, rfl, _, _, rfl, rfl, hm0, ?_⟩⟩⟩
      exact end_ _
def sp_law_pick : Sp := fun vs H Q _ => ∃ (sp c a : Addr) (xs : List V), vs = [.ref sp, .ref a] ∧ Spr H sp c ∧ H a = some (.lst xs) ∧ 0 < xs.length ∧ xs.length ≤ 1000 ∧ ∀ v H', v ∈ xs → Kp sp H H' → Spr H' sp c → Q v H'
/-! ### law_pick: 0 _law_spring_here, 1 _law_some_here -/
abbrev N_law_pick : List Str := ["_law_spring_here", "_law_some_here"]
theorem sc_law_pick : FnScope N_law_pick ["_law_spring_here", "_law_some_here"] (defScope s_law_pick) := ⟨rfl, rfl, rfl, by decide +kernel, rfl, by decide +kernel, by decide +kernel⟩
theorem ok_law_pick (T : Tx K mg) : OkF P w K mg base "_law_pick" 2 ["_law_spring_here", "_law_some_here"] [] sp_law_pick := by
  have O_law_dip : OkF P w K mg base "_law_dip" 1 ["_law_spring_here", "_law_many"] [] sp_law_dip := ok_law_dip T
  refine okF_mk d_law_pick T (fn_mem 32 rfl) rfl rfl sc_law_pick (fun _ _ _ _ _ _ us hl => match us, hl with | [_, _], _ => rfl) (fun vs H Q E h => ?_) (fun f cdv A outer s H vs Q E hr h => ?_)
  · first | (obtain ⟨_, rfl, _⟩ := h; rfl) | (obtain ⟨_, _, rfl, _⟩ := h; rfl) | (obtain ⟨_, _, _, rfl, _⟩ := h; rfl) | (obtain ⟨_, _, _, _, rfl, _⟩ := h; rfl) | (obtain ⟨_, _, _, _, _, rfl, _⟩ := h; rfl) | (obtain ⟨_, _, _, _, _, _, rfl, _⟩ := h; rfl) | (obtain ⟨_, _, _, _, _, _, _, rfl, _⟩ := h; rfl)
  · have hu := hu_of hr
    have hu65 := hu65_of hr
    refine ⟨_, (pss_one (ps_ret (pe_ix ix_listN (pv 1) (pe_callO O_law_dip hr (pa_cons (pv 0) (pa_cons (pe_callB call_len_seqN (by rfl) T.m_len b_len (pa_cons (pv 1) pa_nil)) pa_nil))) (fun _ _ => rfl)))), ?_⟩
    obtain ⟨sp, c, a, xs, rfl, hs, ha, h0, h1, q⟩ := h
    refine ⟨_, rfl, _, rfl, _, rfl, a, xs, rfl, .inl ha, sp, c, _, rfl, hs, by omega, by omega, fun n H1 n0 n1 k1 s1 => ?_⟩
    obtain ⟨k, hk⟩ : ∃ k : Nat, n = (k : Int) := ⟨n.toNat, by omega⟩
    subst hk
    have hk : k < xs.length := by omega
    exact ⟨a, xs, _, _, rfl, rfl, k1 _ _ (hs.lst ha) ha, atI_nat (List.getElem?_eq_getElem hk), q _ _ (List.getElem_mem hk) k1 s1⟩
def pool1 : List Str := ["bulb", "candle", "lamp", "plug", "wire", "box", "trio", "set", "light", "amp", "case", "rack", "pair"]
def pool2 : List Str := ["a", "ab", "abc", "b", "ba", "c", "ca", "d", "z", "zz", "zzz", "zzzzzzzz", "y"]
def pool3 : List Str := ["part", "pack", "choice", "build", "apart", "sell", "held", "short", "alone", "there", "loose", "none", "fit"]
instance (z : Str) : Decidable (NameOk z) := by unfold NameOk; exact inferInstance
def PoolOk (l : List Str) : Prop := l.length = 13 ∧ l.Nodup ∧ ∀ z ∈ l, NameOk z
instance (l : List Str) : Decidable (PoolOk l) := by unfold PoolOk; exact inferInstance
theorem pool1_ok : PoolOk pool1 := by decide +kernel
theorem pool2_ok : PoolOk pool2 := by decide +kernel
theorem pool3_ok : PoolOk pool3 := by decide +kernel
theorem stride_all : ∀ f : Fin 13, ∀ s : Fin 12, ((List.range 13).map fun k => (f.val + k * (1 + s.val)) % 13).Nodup := by decide +kernel
theorem stride_ok {f s : Nat} (hf : f < 13) (h1 : 1 ≤ s) (h2 : s < 13) : ((List.range 13).map fun k => (f + k * s) % 13).Nodup := by
  have := stride_all ⟨f, hf⟩ ⟨s - 1, by omega⟩
  have e : 1 + (s - 1) = s := by omega
  rw [show (1 + (⟨s - 1, by omega⟩ : Fin 12).val) = s from e] at this
  exact this
theorem pick_nodup {l : List Str} (nd : l.Nodup) : ∀ {is : List Nat}, is.Nodup → (∀ i ∈ is, i < l.length) → (is.map fun i => l.getD i "").Nodup
  | [], _, _ => List.nodup_nil
  | i :: is, h, hb => by
    rw [List.nodup_cons] at h
    rw [List.map_cons, List.nodup_cons]
    refine ⟨fun hm => ?_, pick_nodup nd h.2 fun j hj => hb j (List.mem_cons_of_mem _ hj)⟩
    obtain ⟨j, hj, e⟩ := List.mem_map.mp hm
    have hi := hb i List.mem_cons_self
    have hj2 := hb j (List.mem_cons_of_mem _ hj)
    rw [List.getD_eq_getElem?_getD, List.getD_eq_getElem?_getD, List.getElem?_eq_getElem hi, List.getElem?_eq_getElem hj2, Option.getD_some, Option.getD_some] at e
    have := (List.getElem_inj (h₀ := hj2) (h₁ := hi) nd).mp e
    exact h.1 (this ▸ hj)
def sp_law_tags : Sp := fun vs H Q _ => ∃ (sp c : Addr), vs = [.ref sp] ∧ Spr H sp c ∧ ∀ (ts : List Str) p H', ts.length = 13 → ts.Nodup → (∀ z ∈ ts, NameOk z) → Kp sp H H' → Spr H' sp c → H' p = some (.lst (ts.map V.str)) → Q (.ref p) H'
/-! ### law_tags: 0 _law_spring_here, 1 _law_pools, 2 _law_pool, 3 _law_first, 4 _law_stride, 5 _law_k -/
abbrev N_law_tags : List Str := ["_law_spring_here", "_law_pools", "_law_pool", "_law_first", "_law_stride", "_law_k"]
theorem sc_law_tags : FnScope N_law_tags ["_law_spring_here"] (defScope s_law_tags) := ⟨rfl, rfl, rfl, by decide +kernel, rfl, by decide +kernel, by decide +kernel⟩
theorem ok_law_tags (T : Tx K mg) : OkF P w K mg base "_law_tags" 3 ["_law_spring_here"] [] sp_law_tags := by
  have O_law_pick : OkF P w K mg base "_law_pick" 2 ["_law_spring_here", "_law_some_here"] [] sp_law_pick := ok_law_pick T
  have O_law_dip : OkF P w K mg base "_law_dip" 1 ["_law_spring_here", "_law_many"] [] sp_law_dip := ok_law_dip T
  refine okF_mk d_law_tags T (fn_mem 34 rfl) rfl rfl sc_law_tags (fun _ _ _ _ _ _ us hl => match us, hl with | [_], _ => rfl) (fun vs H Q E h => ?_) (fun f cdv A outer s H vs Q E hr h => ?_)
  · first | (obtain ⟨_, rfl, _⟩ := h; rfl) | (obtain ⟨_, _, rfl, _⟩ := h; rfl) | (obtain ⟨_, _, _, rfl, _⟩ := h; rfl) | (obtain ⟨_, _, _, _, rfl, _⟩ := h; rfl) | (obtain ⟨_, _, _, _, _, rfl, _⟩ := h; rfl) | (obtain ⟨_, _, _, _, _, _, rfl, _⟩ := h; rfl) | (obtain ⟨_, _, _, _, _, _, _, rfl, _⟩ := h; rfl)
  · have hu := hu_of hr
    have hu65 := hu65_of hr
    refine ⟨_, (pss_cons (ps_set (i := 1) sc_law_tags.nd rfl (by first | exact Or.inl rfl | exact Or.inr rfl) (pe_lstN (pa_cons (pe_lstN (pa_cons pe_str (pa_cons pe_str (pa_cons pe_str (pa_cons pe_str (pa_cons pe_str (pa_cons pe_str (pa_cons pe_str (pa_cons pe_str (pa_cons pe_str (pa_cons pe_str (pa_cons pe_str (pa_cons pe_str (pa_cons pe_str pa_nil)))))))))))))) pa_nil)))
      (pss_cons (ps_set (i := 1) sc_law_tags.nd rfl (by first | exact Or.inl rfl | exact Or.inr rfl) (pe_op op_catN (pv 1) (pe_lstN (pa_cons (pe_lstN (pa_cons pe_str (pa_cons pe_str (pa_cons pe_str (pa_cons pe_str (pa_cons pe_str (pa_cons pe_str (pa_cons pe_str (pa_cons pe_str (pa_cons pe_str (pa_cons pe_str (pa_cons pe_str (pa_cons pe_str (pa_cons pe_str pa_nil)))))))))))))) pa_nil))))
      (pss_cons (ps_set (i := 1) sc_law_tags.nd rfl (by first | exact Or.inl rfl | exact Or.inr rfl) (pe_op op_catN (pv 1) (pe_lstN (pa_cons (pe_lstN (pa_cons pe_str (pa_cons pe_str (pa_cons pe_str (pa_cons pe_str (pa_cons pe_str (pa_cons pe_str (pa_cons pe_str (pa_cons pe_str (pa_cons pe_str (pa_cons pe_str (pa_cons pe_str (pa_cons pe_str (pa_cons pe_str pa_nil)))))))))))))) pa_nil))))
      (pss_cons (ps_asg (pe_tupN (pa_cons (pe_callO O_law_pick hr (pa_cons (pv 0) (pa_cons (pv 1) pa_nil))) (pa_cons (pe_callO O_law_dip hr (pa_cons (pv 0) (pa_cons pe_int pa_nil))) (pa_cons (pe_op op_add pe_int (pe_callO O_law_dip hr (pa_cons (pv 0) (pa_cons pe_int pa_nil)))) pa_nil)))) (pg_tupN rfl (pgs_cons (pg_name (i := 2) sc_law_tags.nd rfl (by first | exact Or.inl rfl | exact Or.inr rfl)) (pgs_cons (pg_name (i := 3) sc_law_tags.nd rfl (by first | exact Or.inl rfl | exact Or.inr rfl)) (pgs_cons (pg_name (i := 4) sc_law_tags.nd rfl (by first | exact Or.inl rfl | exact Or.inr rfl)) pgs_nil)))))
      (pss_one (ps_ret (pe_lc (own := [("_law_k", 5)]) (g := (gName 5)) (tt := tYes) rfl sc_law_tags.nd (pi_range1 (by rfl) T.m_range (pa_cons pe_int pa_nil)) (blkOk_by (N := N_law_tags) (sc := (defScope s_law_tags)) (own := [("_law_k", 5)]) (by decide +kernel)) (fun _ _ _ _ _ => (pg_name (i := 5) sc_law_tags.nd rfl (by first | exact Or.inl rfl | exact Or.inr rfl))) (fun _ _ _ _ _ => pts_nil) (fun _ _ _ _ _ => (pe_ix ix_listN (pv 2) (pe_op op_mod (pe_callTy call_int1 (by rfl) T.m_int b_int (pa_cons (pe_op op_add (pv 3) (pe_op op_mul (pv 5) (pv 4))) pa_nil)) pe_int) (fun _ _ => rfl)))))))))), ?_⟩
    obtain ⟨sp, c, rfl, hs, q⟩ := h
    refine ⟨show 13 ≤ sizeLine by decide, fun a1 H1 n1 => ?_⟩
    refine ⟨show 1 ≤ sizeLine by decide, fun a2 H2 n2 => ?_⟩
    refine ⟨_, rfl, show 13 ≤ sizeLine by decide, fun a3 H3 n3 => ?_⟩
    refine ⟨show 1 ≤ sizeLine by decide, fun a4 H4 n4 => ?_⟩
    refine ⟨a2, a4, _, _, rfl, rfl, n4.same _ _ (n3.same _ _ n2.at_), n4.at_, show 2 ≤ sizeLine by decide, fun a5 H5 n5 => ?_⟩
    refine ⟨_, rfl, show 13 ≤ sizeLine by decide, fun a6 H6 n6 => ?_⟩
    refine ⟨show 1 ≤ sizeLine by decide, fun a7 H7 n7 => ?_⟩
    refine ⟨a5, a7, _, _, rfl, rfl, n7.same _ _ (n6.same _ _ n5.at_), n7.at_, show 3 ≤ sizeLine by decide, fun a8 H8 n8 => ?_⟩
    have s8 : Same H H8 := n1.same.trans (n2.same.trans (n3.same.trans (n4.same.trans (n5.same.trans (n6.same.trans (n7.same.trans n8.same))))))
    have hs8 := hs.sm s8
    have hp1 : H8 a1 = some (.lst (pool1.map V.str)) := n8.same _ _ (n7.same _ _ (n6.same _ _ (n5.same _ _ (n4.same _ _ (n3.same _ _ (n2.same _ _ n1.at_))))))
    have hp2 : H8 a3 = some (.lst (pool2.map V.str)) := n8.same _ _ (n7.same _ _ (n6.same _ _ (n5.same _ _ (n4.same _ _ n3.at_))))
    have hp3 : H8 a6 = some (.lst (pool3.map V.str)) := n8.same _ _ (n7.same _ _ n6.at_)
    refine ⟨_, rfl, _, rfl, sp, c, a8, _, rfl, hs8, n8.at_, show 0 < 3 by decide, show 3 ≤ 1000 by decide, fun v H9 hv k9 hs9 => ?_⟩
    obtain ⟨a, pool, rfl, hpo, ha⟩ : ∃ (a : Addr) (pool : List Str), v = .ref a ∧ PoolOk pool ∧ H8 a = some (.lst (pool.map V.str)) := by
      have hv : v = .ref a1 ∨ v = .ref a3 ∨ v = .ref a6 := by simpa using hv
      rcases hv with e | e | e
      · exact ⟨a1, pool1, e, pool1_ok, hp1⟩
      · exact ⟨a3, pool2, e, pool2_ok, hp2⟩
      · exact ⟨a6, pool3, e, pool3_ok, hp3⟩
    refine ⟨_, rfl, sp, c, _, rfl, hs9, by decide, by decide, fun f H10 f0 f1 k10 hs10 => ?_⟩
    refine ⟨_, rfl, sp, c, _, rfl, hs10, by decide, by decide, fun d H11 d0 d1 k11 hs11 => ?_⟩
    refine ⟨_, _, rfl, rfl, sz3, fun t12 H12 n12 => ?_⟩
    refine ⟨t12, _, rfl, n12.at_, rfl, _, _, rfl, _, _, rfl, _, _, rfl, rfl, ?_⟩
    have ha12 : H12 a = some (.lst (pool.map V.str)) := n12.same _ _ (k11 _ _ (hs10.lst (k10 _ _ (hs9.lst (k9 _ _ (hs8.lst ha) ha)) (k9 _ _ (hs8.lst ha) ha))) (k10 _ _ (hs9.lst (k9 _ _ (hs8.lst ha) ha)) (k9 _ _ (hs8.lst ha) ha)))
    obtain ⟨fn, hfn⟩ : ∃ k : Nat, f = (k : Int) := ⟨f.toNat, by omega⟩
    obtain ⟨sn, hsn⟩ : ∃ k : Nat, 1 + d = (k : Int) := ⟨(1 + d).toNat, by omega⟩
    have kall : Kp sp H H12 := ((kp_of s8).trans (k9.trans (k10.trans k11))).trans (kp_of n12.same)
    refine ⟨13, rfl, by decide, by decide, lcRngY (n := 13) (by decide) (fun i acc _ => acc = (((List.range i).map fun k => (fn + k * sn) % 13).map fun i => pool.getD i "").map V.str) (fun _ _ _ _ _ h => h) rfl (fun Ky i acc H hi s13 g ky => ?_) (fun D acc H hD s13 hA _ g => ?_)⟩
    · refine ⟨rfl, ?_⟩
      have hidx : (fn + i * sn) % 13 < (pool.map V.str).length := by
        rw [List.length_map, hpo.1]; exact Nat.mod_lt _ (by decide)
      have e : (f + (i : Int) * (1 + d)) % 13 = (((fn + i * sn) % 13 : Nat) : Int) := by
        rw [hfn, hsn]; omega
      refine ⟨_, rfl, _, rfl, _, rfl, _, rfl, _, _, rfl, rfl, .inl ⟨by omega, by omega⟩, _, _, rfl, rfl, .inl ⟨_, rfl, _, _, rfl, rfl, show (0 : Int) < 13 by decide, a, _, _, .str (pool.getD ((fn + i * sn) % 13) ""), rfl, rfl, s13 _ _ ha12, ?_, ?_⟩⟩
      · rw [e]
        refine atI_nat ?_
        rw [List.getElem?_map, List.getD_eq_getElem?_getD, List.getElem?_eq_getElem (by rw [List.length_map] at hidx; exact hidx)]; rfl
      · refine ky _ _ (Same.refl _) ?_
        subst g
        rw [List.range_succ, List.map_append, List.map_append, List.map_append]; rfl
    · subst g
      have nd := stride_ok (f := fn) (s := sn) (by omega) (by omega) (by omega)
      refine q _ D H (by rw [List.length_map, List.length_map, List.length_range]) (pick_nodup hpo.2.1 nd fun i hi => ?_) (fun z hz => ?_) (kall.trans (kp_of s13)) ((hs11.sm n12.same).sm s13) hA
      · obtain ⟨k, _, rfl⟩ := List.mem_map.mp hi
        rw [hpo.1]; exact Nat.mod_lt _ (by decide)
      · obtain ⟨i, hi, rfl⟩ := List.mem_map.mp hz
        obtain ⟨k, _, rfl⟩ := List.mem_map.mp hi
        have hidx : (fn + k * sn) % 13 < pool.length := by rw [hpo.1]; exact Nat.mod_lt _ (by decide)
        rw [List.getD_eq_getElem?_getD, List.getElem?_eq_getElem hidx]
        exact hpo.2.2 _ (List.getElem_mem hidx)
end K57
namespace K57
open PySem PySem.Spec PyProof.Rows L2
variable {P : Program} {w : World} {K : PySem.W.Frag} {mg : Str → Option Value} {base : Heap}
theorem none_kp {e p : Addr} {H H' : Hp} (k : Kp e H H') (h : H' p = none) (n : p ≠ e) : H p = none := by
  cases z : H p with
  | none => rfl
  | some o => rw [k p o n z] at h; cases h
theorem Kp2.kp {a b : Addr} {H H1 H2 : Hp} (k : Kp2 a b H1 H2) (s : Kp a H H1) (hb : H b = none) : Kp a H H2 := fun c o n h => k c o n (ne_of_none h hb) (s c o n h)
theorem Kp2.kp1 {a b : Addr} {H H1 H2 : Hp} (k : Kp2 a b H H1) (s : Kp a H1 H2) : Kp2 a b H H2 := fun c o n1 n2 h => s c o n1 (k c o n1 n2 h)
def sp_law_some : Sp := fun vs H Q _ => ∃ (sp c a : Addr) (ns : List Str) (least : Int), vs = [.ref sp, .ref a, .int least] ∧ Spr H sp c ∧ H a = some (.lst (ns.map V.str)) ∧ 0 < ns.length ∧ ns.length ≤ 1000 ∧
  ∀ (ms : List Str) p H', (∀ x ∈ ms, x ∈ ns) → ms.length ≤ ns.length → Kp sp H H' → Spr H' sp c → H' p = some (.lst (ms.map V.str)) → Q (.ref p) H'
/-! ### law_some: 0 _law_spring_here, 1 _law_names, 2 _law_least, 3 _law_turn, 4 _law_found, 5 _law_one -/
abbrev N_law_some : List Str := ["_law_spring_here", "_law_names", "_law_least", "_law_turn", "_law_found", "_law_one"]
theorem sc_law_some : FnScope N_law_some ["_law_spring_here", "_law_names", "_law_least"] (defScope s_law_some) := ⟨rfl, rfl, rfl, by decide +kernel, rfl, by decide +kernel, by decide +kernel⟩
theorem ok_law_some (T : Tx K mg) : OkF P w K mg base "_law_some" 2 ["_law_spring_here", "_law_names", "_law_least"] [] sp_law_some := by
  have O_law_dip : OkF P w K mg base "_law_dip" 1 ["_law_spring_here", "_law_many"] [] sp_law_dip := ok_law_dip T
  refine okF_mk d_law_some T (fn_mem 35 rfl) rfl rfl sc_law_some (fun _ _ _ _ _ _ us hl => match us, hl with | [_, _, _], _ => rfl) (fun vs H Q E h => ?_) (fun f cdv A outer s H vs Q E hr h => ?_)
  · first | (obtain ⟨_, rfl, _⟩ := h; rfl) | (obtain ⟨_, _, rfl, _⟩ := h; rfl) | (obtain ⟨_, _, _, rfl, _⟩ := h; rfl) | (obtain ⟨_, _, _, _, rfl, _⟩ := h; rfl) | (obtain ⟨_, _, _, _, _, rfl, _⟩ := h; rfl) | (obtain ⟨_, _, _, _, _, _, rfl, _⟩ := h; rfl) | (obtain ⟨_, _, _, _, _, _, _, rfl, _⟩ := h; rfl)
  · have hu := hu_of hr
    have hu65 := hu65_of hr
    refine ⟨_, (pss_cons (ps_par (i := 3) (j := 4) rfl sc_law_some.nd rfl rfl (by decide) rfl rfl (pa_cons (pe_callO O_law_dip hr (pa_cons (pv 0) (pa_cons (pe_callB call_len_seqN (by rfl) T.m_len b_len (pa_cons (pv 1) pa_nil)) pa_nil))) (pa_cons (pe_lstN pa_nil) pa_nil)) (by rfl))
      (pss_cons (ps_for PassesOwn.never rfl (pi_lstN (pe_op op_catN (pe_slice sl_listN (pv 1) (po_some (pv 3)) po_none) (pe_slice sl_listN (pv 1) po_none (po_some (pv 3))))) (pg_name (i := 5) sc_law_some.nd rfl (by first | exact Or.inl rfl | exact Or.inr rfl))
        (pss_one (ps_if (PW.pt (pw_or (pt_cmpR op_lt (pe_callB call_len_seqN (by rfl) T.m_len b_len (pa_cons (pv 4) pa_nil)) (pv 2) (by first | exact nomark _ | rfl)) (pw_or1 (pt_cmpR op_eq (pe_callO O_law_dip hr (pa_cons (pv 0) (pa_cons pe_int pa_nil))) pe_int (by first | exact nomark _ | rfl)))))
          (pss_one (ps_expr (pe_bm PySem.F.plainAttrs_list PySem.F.slot_list_append PySem.F.type_list_append mt_appendN (pv 4) (pa_cons (pv 5) pa_nil)))) pss_nil)))
      (pss_one (ps_ret (pv 4))))), ?_⟩
    obtain ⟨sp, c, a, ns, least, rfl, hs, ha, h0, h1, q⟩ := h
    refine ⟨_, rfl, _, rfl, a, _, rfl, .inl ha, sp, c, _, rfl, hs, by rw [List.length_map]; omega, by rw [List.length_map]; omega, fun turn H1 t0 t1 k1 hs1 => ?_⟩
    refine ⟨by decide, fun fa H2 n2 => ?_⟩
    refine ⟨_, _, rfl, ?_⟩
    have ha2 := n2.same _ _ (k1 _ _ (hs.lst ha) ha)
    have hs2 := hs1.sm n2.same
    obtain ⟨k, rfl⟩ : ∃ k : Nat, turn = (k : Int) := ⟨turn.toNat, by omega⟩
    refine ⟨_, rfl, _, rfl, _, rfl, a, _, rfl, ha2, fun p3 H3 n3 => ?_⟩
    refine ⟨_, rfl, _, rfl, _, rfl, a, _, rfl, n3.same _ _ ha2, fun p4 H4 n4 => ?_⟩
    have e3 := n4.same _ _ n3.at_
    have e4 := n4.at_
    rw [cut_from, ← List.map_drop] at e3
    rw [cut_upto, ← List.map_take] at e4
    refine ⟨p3, p4, _, _, rfl, rfl, e3, e4, ?_, fun p5 H5 n5 => ?_⟩
    · rw [List.length_map, List.length_map, List.length_drop, List.length_take]
      exact Nat.le_of_lt (small1000 (by omega))
    have h5 := n5.at_
    rw [← List.map_append] at h5
    have hl5 : (ns.drop k ++ ns.take k).length = ns.length := by rw [List.length_append, List.length_drop, List.length_take]; omega
    have hm5 : ∀ x ∈ ns.drop k ++ ns.take k, x ∈ ns := fun x hx => (List.mem_append.mp hx).elim (fun h => List.mem_of_mem_drop h) fun h => List.mem_of_mem_take h
    revert h5 hl5 hm5
    generalize ns.drop k ++ ns.take k = ls
    intro h5 hl5 hm5
    have hs5 := hs2.sm (n3.same.trans (n4.same.trans n5.same))
    have s25 := n3.same.trans (n4.same.trans n5.same)
    have hfa1 := hs1.ne n2.none_
    have hfa0 : H fa = none := none_kp k1 n2.none_ hfa1.1
    have k5 : Kp sp H H5 := (k1.trans (kp_of n2.same)).trans (kp_of s25)
    have n5f : p5 ≠ fa := (n5.ne (n4.same _ _ (n3.same _ _ n2.at_))).symm
    have n5s : p5 ≠ sp := hs5.lst n5.at_
    refine ⟨p5, rfl, ⟨_, h5⟩, fun _ => forL (fun i σ H' => ∃ (x5 : Option V) (ms : List Str), σ = [some (.ref sp), some (.ref a), some (.int least), some (.int (k : Int)), some (.ref fa), x5] ∧ Kp2 sp fa H5 H' ∧ Spr H' sp c ∧ H' fa = some (.lst (ms.map V.str)) ∧ (∀ x ∈ ms, x ∈ ns) ∧ ms.length ≤ i)
      ⟨none, [], rfl, Kp2.refl _ _ _, hs5, s25 _ _ n2.at_, (fun x hx => nomatch hx), Nat.le_refl _⟩ (fun i σ H' _ ⟨_, _, _, k, _⟩ => k _ _ n5s n5f h5) (fun i x σ H' hx ⟨x5, ms, e, k6, hs6, hf6, hm6, hl6⟩ => ?_) (fun σ H' ⟨x5, ms, e, k6, hs6, hf6, hm6, hl6⟩ => ?_)⟩
    · subst e
      rw [List.getElem?_map] at hx
      obtain ⟨z, hz, rfl⟩ := Option.map_eq_some_iff.mp hx
      have hzn := hm5 z (List.mem_of_getElem? hz)
      have hi : i < ls.length := by
        rcases Nat.lt_or_ge i ls.length with y | y
        · exact y
        · rw [List.getElem?_eq_none y] at hz; cases hz
      have add : ∀ H7, Kp2 sp fa H5 H7 → Spr H7 sp c → H7 fa = some (.lst (ms.map V.str)) → ∀ H8, Md H7 fa (.lst (ms.map V.str ++ [.str z])) H8 →
          ∃ (x5 : Option V) (ms : List Str), [some (V.ref sp), some (.ref a), some (.int least), some (.int (k : Int)), some (.ref fa), some (.str z)] = [some (.ref sp), some (.ref a), some (.int least), some (.int (k : Int)), some (.ref fa), x5] ∧ Kp2 sp fa H5 H8 ∧ Spr H8 sp c ∧ H8 fa = some (.lst (ms.map V.str)) ∧ (∀ x ∈ ms, x ∈ ns) ∧ ms.length ≤ i + 1 := fun H7 k7 hs7 hf7 H8 m8 =>
        ⟨_, ms ++ [z], rfl, k7.md2 m8, hs7.md m8 hfa1.1 hfa1.2, by rw [m8.at_, List.map_append]; rfl, fun x hx => (List.mem_append.mp hx).elim (hm6 x) fun h => by rw [List.mem_singleton.mp h]; exact hzn, by rw [List.length_append, List.length_singleton]; omega⟩
      refine ⟨_, rfl, fa, _, rfl, .inl hf6, _, rfl, _, _, rfl, rfl, _, rfl, ?_⟩
      refine iteB (fun hb => ?_) (fun hb => ?_)
      · refine iteT ?_
        refine ⟨_, rfl, .inl ⟨rfl, _, SqL.of hf6⟩, _, rfl, fa, _, _, rfl, rfl, hf6, by rw [List.length_map]; exact small1000 (by omega), fun H8 m8 => ?_⟩
        exact add H' k6 hs6 hf6 H8 m8
      · refine ⟨_, rfl, sp, c, _, rfl, hs6, by decide, by decide, fun n H7 _ _ k7 hs7 => ?_⟩
        have k67 := k6.kp1 k7
        have hf7 := k7 _ _ hfa1.1 hf6
        refine ⟨rfl, _, rfl, ?_⟩
        refine iteB (fun hb => ?_) (fun hb => ?_)
        · refine ⟨_, rfl, .inl ⟨rfl, _, SqL.of hf7⟩, _, rfl, fa, _, _, rfl, rfl, hf7, by rw [List.length_map]; exact small1000 (by omega), fun H8 m8 => ?_⟩
          exact add H7 k67 hs7 hf7 H8 m8
        · exact ⟨_, ms, rfl, k67, hs7, hf7, hm6, by omega⟩
    · subst e
      rw [List.length_map] at hl6
      exact ⟨_, rfl, q ms fa H' hm6 (by omega) (k6.kp k5 hfa0) hs6 hf6⟩
def pD (p : Str × Int) : PyData := .tuple [.str p.1, .int p.2]
theorem IsP.dt {H : Hp} {v : V} {p : Str × Int} (h : IsP H v p) : Dt H v (pD p) := by
  obtain ⟨t, rfl, h⟩ := h
  exact .tup h (.cons (.str _) (.cons (.int _) .nil))
theorem pairs_alike (l : List (Str × Int)) : PySem.W.AllAlike (l.map pD) := by
  intro d hd e he
  obtain ⟨x, _, rfl⟩ := List.mem_map.mp hd
  obtain ⟨y, _, rfl⟩ := List.mem_map.mp he
  simp [pD, PySem.W.alike, PySem.W.alikeAll]
theorem pairs_sortable (l : List (Str × Int)) : PySem.W.Sortable (l.map pD) := by
  refine .inl fun d hd => ?_
  obtain ⟨x, _, rfl⟩ := List.mem_map.mp hd
  exact ⟨_, _, rfl⟩
theorem pairs_depth (l : List (Str × Int)) : ∀ d ∈ l.map pD, d.depth ≤ 20 := by
  intro d hd
  obtain ⟨x, _, rfl⟩ := List.mem_map.mp hd
  simp [pD, PyData.depth, PyData.depthAll]
theorem else_tk {H H' : Hp} {D : Addr} {l : List V} (h : H D = some (.lst l)) (e : ∀ b, b ≠ D → H' b = H b) : Tk H H' := fun b xs hb => by
  rw [e b fun z => by rw [z, h] at hb; cases hb]; exact hb
theorem Spr.else_ {H H' : Hp} {sp c D : Addr} (h : Spr H sp c) (n : D ≠ sp ∧ D ≠ c) (e : ∀ b, b ≠ D → H' b = H b) : Spr H' sp c :=
  let ⟨ns, a, l, k, e1, e2, e3⟩ := h
  ⟨ns, a, l, k, by rw [e _ n.1.symm]; exact e1, by rw [e _ n.2.symm]; exact e2, e3⟩
theorem Spr.is {H : Hp} {sp c : Addr} (h : Spr H sp c) : H sp ≠ none := let ⟨_, _, _, _, e1, _⟩ := h; fun z => by rw [z] at e1; cases e1
def sp_law_sheet : Sp := fun vs H Q _ => ∃ (sp c a : Addr) (ns : List Str), vs = [.ref sp, .ref a] ∧ Spr H sp c ∧ H a = some (.lst (ns.map V.str)) ∧ 0 < ns.length ∧ ns.length ≤ 1000 ∧
  ∀ (l : List (Str × Int)) p H', RowAt H' p l → (∀ q ∈ l, q.1 ∈ ns ∧ 1 ≤ q.2 ∧ q.2 ≤ 4) → l.length ≤ 5 → Kp sp H H' → Spr H' sp c → Q (.ref p) H'
/-! ### law_sheet: 0 _law_spring_here, 1 _law_names, 2 _law_found, 3 _law_one -/
abbrev N_law_sheet : List Str := ["_law_spring_here", "_law_names", "_law_found", "_law_one"]
theorem sc_law_sheet : FnScope N_law_sheet ["_law_spring_here", "_law_names"] (defScope s_law_sheet) := ⟨rfl, rfl, rfl, by decide +kernel, rfl, by decide +kernel, by decide +kernel⟩
theorem ok_law_sheet (T : Tx K mg) : OkF P w K mg base "_law_sheet" 3 ["_law_spring_here", "_law_names"] [] sp_law_sheet := by
  have O_law_some : OkF P w K mg base "_law_some" 2 ["_law_spring_here", "_law_names", "_law_least"] [] sp_law_some := ok_law_some T
  have O_law_dip : OkF P w K mg base "_law_dip" 1 ["_law_spring_here", "_law_many"] [] sp_law_dip := ok_law_dip T
  have O_law_pick : OkF P w K mg base "_law_pick" 2 ["_law_spring_here", "_law_some_here"] [] sp_law_pick := ok_law_pick T
  refine okF_mk d_law_sheet T (fn_mem 36 rfl) rfl rfl sc_law_sheet (fun _ _ _ _ _ _ us hl => match us, hl with | [_, _], _ => rfl) (fun vs H Q E h => ?_) (fun f cdv A outer s H vs Q E hr h => ?_)
  · first | (obtain ⟨_, rfl, _⟩ := h; rfl) | (obtain ⟨_, _, rfl, _⟩ := h; rfl) | (obtain ⟨_, _, _, rfl, _⟩ := h; rfl) | (obtain ⟨_, _, _, _, rfl, _⟩ := h; rfl) | (obtain ⟨_, _, _, _, _, rfl, _⟩ := h; rfl) | (obtain ⟨_, _, _, _, _, _, rfl, _⟩ := h; rfl) | (obtain ⟨_, _, _, _, _, _, _, rfl, _⟩ := h; rfl)
  · have hu := hu_of hr
    have hu65 := hu65_of hr
    refine ⟨_, (pss_cons (ps_set (i := 2) sc_law_sheet.nd rfl (by first | exact Or.inl rfl | exact Or.inr rfl) (pe_slice sl_listN (pe_callO O_law_some hr (pa_cons (pv 0) (pa_cons (pv 1) (pa_cons (pe_op op_add pe_int (pe_callO O_law_dip hr (pa_cons (pv 0) (pa_cons (pe_callB (call_min2 rfl) (by rfl) T.m_min b_min (pa_cons (pe_callTy call_int1 (by rfl) T.m_int b_int (pa_cons (pe_callB call_len_seqN (by rfl) T.m_len b_len (pa_cons (pv 1) pa_nil)) pa_nil)) (pa_cons pe_int pa_nil))) pa_nil)))) pa_nil)))) po_none (po_some pe_int)))
      (pss_cons (ps_if (PW.pt (pw_and (pt_cmpR op_notInN (pe_ix ix_listN (pv 1) (pe_un un_neg pe_int) (fun _ _ => rfl)) (pv 2) (by first | exact nomark _ | rfl)) (pw_and (pt_cmpR op_lt (pe_callB call_len_seqN (by rfl) T.m_len b_len (pa_cons (pv 2) pa_nil)) pe_int (by first | exact nomark _ | rfl)) (pw_and1 (pt_cmpR op_eq (pe_callO O_law_dip hr (pa_cons (pv 0) (pa_cons pe_int pa_nil))) pe_int (by first | exact nomark _ | rfl))))))
        (pss_one (ps_expr (pe_bm PySem.F.plainAttrs_list PySem.F.slot_list_append PySem.F.type_list_append mt_appendN (pv 2) (pa_cons (pe_ix ix_listN (pv 1) (pe_un un_neg pe_int) (fun _ _ => rfl)) pa_nil)))) pss_nil)
      (pss_one (ps_ret (pe_callTy call_tuple_ofN (by rfl) T.m_tuple b_tuple (pa_cons (pe_callB (cr_sortN hu65) (by rfl) T.m_sorted b_sorted (pa_cons (pe_lc (own := [("_law_one", 3)]) (g := (gName 3)) (tt := tYes) rfl sc_law_sheet.nd (pi_lstN (pv 2)) (blkOk_by (N := N_law_sheet) (sc := (defScope s_law_sheet)) (own := [("_law_one", 3)]) (by decide +kernel)) (fun _ _ _ _ _ => (pg_name (i := 3) sc_law_sheet.nd rfl (by first | exact Or.inl rfl | exact Or.inr rfl))) (fun _ _ _ _ _ => pts_nil) (fun _ _ _ _ _ => (pe_tupN (pa_cons (pv 3) (pa_cons (pe_callO O_law_pick hr (pa_cons (pv 0) (pa_cons (pe_lstN (pa_cons pe_int (pa_cons pe_int (pa_cons pe_int (pa_cons pe_int (pa_cons pe_int (pa_cons pe_int (pa_cons pe_int pa_nil)))))))) pa_nil))) pa_nil))))) pa_nil)) pa_nil)))))), ?_⟩
    obtain ⟨sp, c, a, ns, rfl, hs, ha, h0, h1, q⟩ := h
    refine ⟨_, rfl, _, rfl, _, rfl, _, rfl, a, _, rfl, .inl ha, .inl ⟨_, rfl, ?_⟩⟩
    have hmin : ∀ m : Int, 1 ≤ m → 0 < (if 2 < m then (2 : Int) else m) ∧ (if 2 < m then (2 : Int) else m) < 1073741824 := fun m hm => by split <;> omega
    obtain ⟨mp, mq⟩ := hmin ((ns.map V.str).length : Int) (by rw [List.length_map]; omega)
    refine ⟨_, _, rfl, sp, c, _, rfl, hs, mp, mq, fun d H1 d0 d1 k1 hs1 => ?_⟩
    have ha1 := k1 _ _ (hs.lst ha) ha
    refine ⟨_, _, rfl, rfl, sp, c, a, ns, _, rfl, hs1, ha1, h0, h1, fun ms0 p2 H2 hm0 hl0 k2 hs2 hp2 => ?_⟩
    refine ⟨4, rfl, p2, _, rfl, hp2, fun fa H3 n3 => ?_⟩
    have hf3 := n3.at_
    rw [show cutV (ms0.map V.str) none (some 4) = (ms0.map V.str).take 4 from cut_upto _ 4, ← List.map_take] at hf3
    have hm3 : ∀ x ∈ ms0.take 4, x ∈ ns := fun x hx => hm0 x (List.mem_of_mem_take hx)
    have hl3 : (ms0.take 4).length ≤ 4 := by rw [List.length_take]; omega
    revert hf3 hm3 hl3
    generalize ms0.take 4 = ms1
    intro hf3 hm3 hl3
    have hs3 := hs2.sm n3.same
    have k3 : Kp sp H H3 := (k1.trans k2).trans (kp_of n3.same)
    have hfa := hs2.ne n3.none_
    have hfa0 : H fa = none := none_kp (k1.trans k2) n3.none_ hfa.1
    have ha3 := k3 _ _ (hs.lst ha) ha
    obtain ⟨ini, la, hla⟩ : ∃ ini la, ns = ini ++ [la] := ⟨ns.dropLast, ns.getLast (fun e => by rw [e] at h0; cases h0), (List.dropLast_concat_getLast _).symm⟩
    have hatl : atI (ns.map V.str) (-1) = some (.str la) := by rw [hla, List.map_append]; exact atI_last _ _
    have hlan : la ∈ ns := by rw [hla]; exact List.mem_append_right _ List.mem_cons_self
    -- what is left to do, from any list
    have rest : ∀ (ms : List Str) (H4 : Hp) (Q2 : L2.St → Hp → Prop), (∀ x ∈ ms, x ∈ ns) → ms.length ≤ 5 → Kp sp H H4 → Spr H4 sp c → H4 fa = some (.lst (ms.map V.str)) → True := fun _ _ _ _ _ _ _ _ => trivial
    clear rest
    refine ⟨_, rfl, _, rfl, a, _, _, _, rfl, rfl, ha3, hatl, _, rfl, la, fa, ms1, rfl, rfl, hf3, ?_⟩
    refine ⟨_, rfl, ?_⟩
    refine iteB (fun hb => ?_) (fun hb => ?_)
    refine ⟨_, rfl, fa, _, rfl, .inl hf3, _, _, rfl, rfl, _, rfl, ?_⟩
    refine iteB (fun hb => ?_) (fun hb => ?_)
    refine ⟨_, rfl, sp, c, _, rfl, hs3, by decide, by decide, fun n H4 _ _ k4 hs4 => ?_⟩
    have hf4 := k4 _ _ hfa.1 hf3
    have ha4 := k4 _ _ (hs3.lst ha3) ha3
    refine ⟨rfl, _, rfl, ?_⟩
    refine iteB (fun hb => ?_) (fun hb => ?_)
    refine ⟨_, rfl, .inl ⟨rfl, _, SqL.of hf4⟩, _, rfl, _, rfl, a, _, _, _, rfl, rfl, ha4, hatl, fa, _, _, rfl, rfl, hf4, by rw [List.length_map]; exact small1000 (by omega), fun H5 m5 => ?_⟩
    have key : ∃ (ms : List Str) (H6 : Hp), (∀ x ∈ ms, x ∈ ns) ∧ ms.length ≤ 5 ∧ Kp sp H H6 ∧ Spr H6 sp c ∧ H6 fa = some (.lst (ms.map V.str)) ∧ H6 = H5 := ⟨ms1 ++ [la], H5, fun x hx => (List.mem_append.mp hx).elim (hm3 x) fun h => by rw [List.mem_singleton.mp h]; exact hlan, by rw [List.length_append, List.length_singleton]; omega,
      fun b o nb hb => by rw [m5.else_ b (ne_of_none hb hfa0)]; exact (k3.trans k4) b o nb hb, hs4.md m5 hfa.1 hfa.2, by rw [m5.at_, List.map_append]; rfl, rfl⟩
    rotate_left
    have key : ∃ (ms : List Str) (H6 : Hp), (∀ x ∈ ms, x ∈ ns) ∧ ms.length ≤ 5 ∧ Kp sp H H6 ∧ Spr H6 sp c ∧ H6 fa = some (.lst (ms.map V.str)) ∧ H6 = H4 := ⟨ms1, H4, hm3, by omega, k3.trans k4, hs4, hf4, rfl⟩
    rotate_left
    have key : ∃ (ms : List Str) (H6 : Hp), (∀ x ∈ ms, x ∈ ns) ∧ ms.length ≤ 5 ∧ Kp sp H H6 ∧ Spr H6 sp c ∧ H6 fa = some (.lst (ms.map V.str)) ∧ H6 = H3 := ⟨ms1, H3, hm3, by omega, k3, hs3, hf3, rfl⟩
    refine iteF (A := _) ?_
    rotate_left
    have key : ∃ (ms : List Str) (H6 : Hp), (∀ x ∈ ms, x ∈ ns) ∧ ms.length ≤ 5 ∧ Kp sp H H6 ∧ Spr H6 sp c ∧ H6 fa = some (.lst (ms.map V.str)) ∧ H6 = H3 := ⟨ms1, H3, hm3, by omega, k3, hs3, hf3, rfl⟩
    refine iteF (A := _) ?_
    rotate_left
    all_goals
      obtain ⟨ms, H6, hm6, hl6, k6, hs6, hf6, e6⟩ := key
      rw [← e6]
      refine ⟨_, rfl, fa, rfl, ⟨_, hf6⟩, fun _ => lcLstK (xs := ms.map V.str) sp hs6.is hf6 hfa.1 (by rw [List.length_map]; exact small1000 (by omega)) (fun i acc H => ∃ l : List (Str × Int), Paired (IsP H) acc l ∧ (∀ q ∈ l, q.1 ∈ ns ∧ 1 ≤ q.2 ∧ q.2 ≤ 4) ∧ l.length ≤ i ∧ Spr H sp c)
        (fun i acc H H' D l0 hD k hDl el ⟨l, p1, p2, p3, p4⟩ => ⟨l, pimp (fun _ _ z => z.tk (else_tk hDl el)) p1, p2, p3, p4.else_ (hs6.ne hD) el⟩) (fun i acc H H' k s ⟨l, p1, p2, p3, p4⟩ => ⟨l, pimp (fun _ _ z => z.tk (tk_of s)) p1, p2, p3, p4.sm s⟩) ⟨[], .nil, (fun q hq => nomatch hq), Nat.le_refl _, hs6⟩
        (fun Ky i x acc H7 hx k7 ⟨l, p1, p2, p3, p4⟩ ky => ?_) (fun D acc H7 hD k7 hA hlA ⟨l, p1, p2, p3, p4⟩ => ?_)⟩
      · rw [List.getElem?_map] at hx
        obtain ⟨z, hz, rfl⟩ := Option.map_eq_some_iff.mp hx
        have hzn := hm6 z (List.mem_of_getElem? hz)
        refine ⟨rfl, _, rfl, _, rfl, show 7 ≤ sizeLine by decide, fun p8 H8 n8 => ?_⟩
        refine ⟨sp, c, p8, _, rfl, p4.sm n8.same, n8.at_, show 0 < 7 by decide, show 7 ≤ 1000 by decide, fun v H9 hv k9 hs9 => ?_⟩
        obtain ⟨n, rfl, n1, n4⟩ : ∃ n : Int, v = .int n ∧ 1 ≤ n ∧ n ≤ 4 := by
          have hv : v = .int 1 ∨ v = .int 2 ∨ v = .int 3 ∨ v = .int 4 := by simpa using hv
          rcases hv with e | e | e | e
          · exact ⟨1, e, by decide, by decide⟩
          · exact ⟨2, e, by decide, by decide⟩
          · exact ⟨3, e, by decide, by decide⟩
          · exact ⟨4, e, by decide, by decide⟩
        refine ⟨sz2, fun p10 H10 n10 => ?_⟩
        have k78 : Kp sp H7 H10 := ((kp_of n8.same).trans k9).trans (kp_of n10.same)
        refine ky _ _ k78 ⟨l ++ [(z, n)], papp (pimp (fun _ _ y => y.tk (p4.tk k78)) p1) (.cons ⟨p10, rfl, n10.at_⟩ .nil), fun q hq => (List.mem_append.mp hq).elim (p2 q) fun h => by rw [List.mem_singleton.mp h]; exact ⟨hzn, n1, n4⟩, by rw [List.length_append, List.length_singleton]; omega, hs9.sm n10.same⟩
      · refine ⟨D, _, l.map pD, rfl, hA, pmap pD (fun _ _ y => y.dt) p1, pairs_alike l, pairs_sortable l, pairs_depth l, fun zs p8 H8 z1 z2 n8 => ?_⟩
        obtain ⟨ws, w1, w2, _⟩ := sorted_of (d := pD) p1 z1 z2
        refine ⟨p8, _, rfl, n8.at_, fun p9 H9 n9 => ?_⟩
        have s79 := n8.same.trans n9.same
        rw [List.length_map] at p3
        exact q ws p9 H9 ⟨_, n9.at_, pimp (fun _ _ y => y.tk (tk_of s79)) w2⟩ (fun q hq => p2 q (w1.mem_iff.mp hq)) (by rw [w1.length_eq]; omega) ((k6.trans k7).trans (kp_of s79)) (p4.sm s79)
end K57
namespace K57
open PySem PySem.Spec PyProof.Rows L2
variable {P : Program} {w : World} {K : PySem.W.Frag} {mg : Str → Option Value} {base : Heap}
def bareP (p : Pk Str) : Pk Str := { p with made := 0 }
def bare (S : Shop) : Shop := ⟨S.parts, S.packs.map bareP⟩
def sp_law_bare : Sp := fun vs H Q _ => ∃ (t : Addr) (S : Shop), vs = [.ref t] ∧ ShopAt H t S ∧ S.packs.length ≤ 1000 ∧ ∀ p H', Same H H' → ShopAt H' p (bare S) → Q (.ref p) H'
/-! ### law_bare: 0 _law_store, 1 _law_one -/
abbrev N_law_bare : List Str := ["_law_store", "_law_one"]
theorem sc_law_bare : FnScope N_law_bare ["_law_store"] (defScope s_law_bare) := ⟨rfl, rfl, rfl, by decide +kernel, rfl, by decide +kernel, by decide +kernel⟩
theorem ok_law_bare (T : Tx K mg) : OkF P w K mg base "_law_bare" 1 ["_law_store"] [] sp_law_bare := by
  refine okF_mk d_law_bare T (fn_mem 38 rfl) rfl rfl sc_law_bare (fun _ _ _ _ _ _ us hl => match us, hl with | [_], _ => rfl) (fun vs H Q E h => ?_) (fun f cdv A outer s H vs Q E hr h => ?_)
  · first | (obtain ⟨_, rfl, _⟩ := h; rfl) | (obtain ⟨_, _, rfl, _⟩ := h; rfl) | (obtain ⟨_, _, _, rfl, _⟩ := h; rfl) | (obtain ⟨_, _, _, _, rfl, _⟩ := h; rfl) | (obtain ⟨_, _, _, _, _, rfl, _⟩ := h; rfl) | (obtain ⟨_, _, _, _, _, _, rfl, _⟩ := h; rfl) | (obtain ⟨_, _, _, _, _, _, _, rfl, _⟩ := h; rfl)
  · have hu := hu_of hr
    have hu65 := hu65_of hr
    refine ⟨_, (pss_one (ps_ret (pe_tupN (pa_cons (pe_ix ix_tupN (pv 0) pe_int (fun _ _ => rfl)) (pa_cons (pe_ix ix_tupN (pv 0) pe_int (fun _ _ => rfl)) (pa_cons (pe_callTy call_tuple_ofN (by rfl) T.m_tuple b_tuple (pa_cons (pe_lc (own := [("_law_one", 1)]) (g := (gName 1)) (tt := tYes) rfl sc_law_bare.nd (pi_tupN (pe_ix ix_tupN (pv 0) pe_int (fun _ _ => rfl))) (blkOk_by (N := N_law_bare) (sc := (defScope s_law_bare)) (own := [("_law_one", 1)]) (by decide +kernel)) (fun _ _ _ _ _ => (pg_name (i := 1) sc_law_bare.nd rfl (by first | exact Or.inl rfl | exact Or.inr rfl))) (fun _ _ _ _ _ => pts_nil) (fun _ _ _ _ _ => (pe_op op_catTN (pe_tupN (pa_cons (pe_ix ix_tupN (pv 1) pe_int (fun _ _ => rfl)) (pa_cons pe_int pa_nil))) (pe_slice sl_tupN (pv 1) (po_some pe_int) po_none)))) pa_nil)) pa_nil)))))), ?_⟩
    obtain ⟨t, S, rfl, hS, hf, q⟩ := h
    obtain ⟨pa, pb, pc, xs, ys, k1, k2, k3, k4, k5, k6⟩ := hS.ex
    have hlen := plen k6
    refine ⟨_, rfl, t, _, _, _, rfl, rfl, k1, atI_nat (j := 0) rfl, ?_⟩
    refine ⟨_, rfl, t, _, _, _, rfl, rfl, k1, atI_nat (j := 1) rfl, ?_⟩
    refine ⟨_, rfl, t, _, _, _, rfl, rfl, k1, atI_nat (j := 2) rfl, pc, rfl, ⟨ys, k5⟩, fun _ => lcTupY k5 (small1000 (by omega)) (fun i acc H => Paired (IsPk H) acc ((S.packs.map bareP).take i)) (fun _ _ _ _ k h => pimp (fun _ _ z => z.tk k) h) .nil (fun Ky i x acc H1 hx s1 g ky => ?_) (fun D acc H1 hD s1 hA hlA g => ?_)⟩
    · obtain ⟨p, hp, t2, u, zs, rfl, ht2, hu2, hz2⟩ := pget k6 hx
      refine ⟨rfl, _, rfl, t2, _, _, _, rfl, rfl, s1 _ _ ht2, atI_nat (j := 0) rfl, sz2, fun p3 H3 n3 => ?_⟩
      refine ⟨_, rfl, 2, rfl, t2, _, rfl, n3.same _ _ (s1 _ _ ht2), fun p4 H4 s4 h4 => ?_⟩
      rw [show cutV [V.str p.name, .int p.made, .bl p.apart, .ref u] (some 2) none = [.bl p.apart, .ref u] from cut_from _ 2] at h4
      refine ⟨p3, p4, _, _, rfl, rfl, s4 _ _ n3.at_, h4, by simp, by simp, sz4, fun p5 H5 n5 => ?_⟩
      have s5 : Same H1 H5 := n3.same.trans (s4.trans n5.same)
      refine ky _ _ s5 ?_
      rw [take_next (show (S.packs.map bareP)[i]? = some (bareP p) by rw [List.getElem?_map, hp]; rfl)]
      exact papp (pimp (fun _ _ z => z.tk (tk_of s5)) g) (.cons ⟨p5, u, zs, rfl, n5.at_, s5 _ _ (s1 _ _ hu2), pimp (fun _ _ z => z.tk (tk_of (s1.trans s5))) hz2⟩ .nil)
    · refine ⟨D, _, rfl, hA, fun p5 H5 n5 => ?_⟩
      refine ⟨sz3, fun p6 H6 n6 => ?_⟩
      have s6 : Same H1 H6 := n5.same.trans n6.same
      have s06 := s1.trans s6
      rw [List.take_of_length_le (by rw [List.length_map]; omega)] at g
      exact q p6 H6 s06 ⟨pa, pb, p5, xs, acc, n6.at_, s06 _ _ k2, pimp (fun _ _ z => z.tk (tk_of s06)) k3, s06 _ _ k4, n6.same _ _ n5.at_, pimp (fun _ _ z => z.tk (tk_of s6)) g⟩
def pkD (p : Pk Str) : PyData := .tuple [.str p.name, .int p.made, .bool p.apart, .tuple (p.sheet.map pD)]
theorem IsPk.dt {H : Hp} {v : V} {p : Pk Str} (h : IsPk H v p) : Dt H v (pkD p) := by
  obtain ⟨t, u, zs, rfl, h1, h2, h3⟩ := h
  exact .tup h1 (.cons (.str _) (.cons (.int _) (.cons (.bl _) (.cons (.tup h2 (pmap pD (fun _ _ z => z.dt) h3)) .nil))))
theorem name_ok {z : Str} (h : NameOk z) : PyData.strOk z = true := by
  unfold PyData.strOk
  rw [Array.all_eq_true']
  intro c hc
  have h1 := h.2.2 c (Array.mem_toList_iff.mpr hc)
  have h2 : ∀ c ∈ LETT.cps.toList, c < 0x110000 := by decide +kernel
  exact decide_eq_true (h2 c h1)
theorem pairs_lay : ∀ {l : List (Str × Int)}, (∀ q ∈ l, NameOk q.1) → PyData.canLayAll0 (l.map pD) = true
  | [], _ => by simp [PyData.canLayAll0]
  | p :: l, h => by
    rw [List.map_cons]
    simp only [PyData.canLayAll0, pD, PyData.canLay0, name_ok (h p List.mem_cons_self), Bool.true_and]
    exact pairs_lay fun q hq => h q (List.mem_cons_of_mem _ hq)
theorem pairs_depthAll : ∀ l : List (Str × Int), PyData.depthAll (l.map pD) ≤ 2
  | [] => by simp [PyData.depthAll]
  | p :: l => by
    rw [List.map_cons]
    have := pairs_depthAll l
    simp only [PyData.depthAll, pD, PyData.depth]
    omega
theorem pairs_shaped {l : List (Str × Int)} (h : ∀ q ∈ l, NameOk q.1) : SeqAt.shaped (.list (l.map pD)) = true := by
  unfold SeqAt.shaped
  rw [Bool.and_eq_true]
  refine ⟨by simp only [PyData.canLay0]; exact pairs_lay h, decide_eq_true ?_⟩
  have := pairs_depthAll l
  simp only [PyData.depth]
  omega
theorem pk_lay {p : Pk Str} (h : NameOk p.name) (hs : ∀ q ∈ p.sheet, NameOk q.1) : PyData.canLay0 (pkD p) = true := by
  unfold pkD
  simp only [PyData.canLay0, PyData.canLayAll0, name_ok h, Bool.true_and, Bool.and_true]
  exact pairs_lay hs
theorem pk_depth (p : Pk Str) : (pkD p).depth ≤ 4 := by
  have := pairs_depthAll p.sheet
  unfold pkD
  simp only [PyData.depth, PyData.depthAll]
  omega
theorem pk_shaped {p : Pk Str} (h : NameOk p.name) (hs : ∀ q ∈ p.sheet, NameOk q.1) : SeqAt.shaped (pkD p) = true := by
  unfold SeqAt.shaped
  rw [Bool.and_eq_true]
  exact ⟨pk_lay h hs, decide_eq_true (by have := pk_depth p; omega)⟩
theorem pks_lay : ∀ {l : List (Pk Str)}, (∀ p ∈ l, NameOk p.name ∧ ∀ q ∈ p.sheet, NameOk q.1) → PyData.canLayAll0 (l.map pkD) = true
  | [], _ => by simp [PyData.canLayAll0]
  | p :: l, h => by
    rw [List.map_cons]
    obtain ⟨h1, h2⟩ := h p List.mem_cons_self
    simp only [PyData.canLayAll0, pk_lay h1 h2, Bool.true_and]
    exact pks_lay fun q hq => h q (List.mem_cons_of_mem _ hq)
theorem pks_depth : ∀ l : List (Pk Str), PyData.depthAll (l.map pkD) ≤ 4
  | [] => by simp [PyData.depthAll]
  | p :: l => by
    rw [List.map_cons]
    have h1 := pks_depth l
    have h2 := pk_depth p
    simp only [PyData.depthAll]
    omega
theorem pks_shaped {l : List (Pk Str)} (h : ∀ p ∈ l, NameOk p.name ∧ ∀ q ∈ p.sheet, NameOk q.1) : SeqAt.shaped (.list (l.map pkD)) = true := by
  unfold SeqAt.shaped
  rw [Bool.and_eq_true]
  refine ⟨by simp only [PyData.canLay0]; exact pks_lay h, decide_eq_true ?_⟩
  have := pks_depth l
  simp only [PyData.depth]
  omega
theorem pk_eqv {p q : Pk Str} (h : PyData.eqv (pkD p) (pkD q) = true) : p.name = q.name := by
  unfold pkD at h
  simp only [PyData.eqv, PyData.eqvAll, Bool.and_eq_true] at h
  exact eq_of_beq h.1
theorem pairs_empty (l : List (Str × Int)) : PyData.eqv (.list (l.map pD)) (.list []) = decide (l = []) := by
  cases l with
  | nil => simp [PyData.eqv, PyData.eqvAll]
  | cons n ns => simp [PyData.eqv, PyData.eqvAll]
theorem ShopOk.pk {S : Shop} (h : ShopOk S) : ∀ p ∈ S.packs, NameOk p.name ∧ ∀ q ∈ p.sheet, NameOk q.1 := fun p hp => ⟨h.ok _ (List.mem_append_right _ (List.mem_map_of_mem hp)), fun q hq => h.ok _ (h.sheet p hp q hq)⟩
def sp_law_inner : Sp := fun vs H Q _ => ∃ (t : Addr) (S : Shop), vs = [.ref t] ∧ ShopAt H t S ∧ ShopOk S ∧ ∀ p xs (fs : List (Pk Str)) H', Same H H' → H' p = some (.lst xs) → Paired (IsPk H') xs fs → (∀ f ∈ fs, f ∈ S.packs) → (∀ p ∈ S.packs, p.name ∈ fs.map (·.name)) → fs.length ≤ 25 → Q (.ref p) H'
/-! ### law_inner: 0 _law_store, 1 _law_names, 2 _law_found, 3 _law_one, 4 _law_lap, 5 _law_seen, 6 _law_other, 7 _law_lacking, 8 _law_pair -/
abbrev N_law_inner : List Str := ["_law_store", "_law_names", "_law_found", "_law_one", "_law_lap", "_law_seen", "_law_other", "_law_lacking", "_law_pair"]
theorem sc_law_inner : FnScope N_law_inner ["_law_store"] (defScope s_law_inner) := ⟨rfl, rfl, rfl, by decide +kernel, rfl, by decide +kernel, by decide +kernel⟩
theorem ok_law_inner (T : Tx K mg) : OkF P w K mg base "_law_inner" 1 ["_law_store"] [] sp_law_inner := by
  refine okF_mk d_law_inner T (fn_mem 39 rfl) rfl rfl sc_law_inner (fun _ _ _ _ _ _ us hl => match us, hl with | [_], _ => rfl) (fun vs H Q E h => ?_) (fun f cdv A outer s H vs Q E hr h => ?_)
  · first | (obtain ⟨_, rfl, _⟩ := h; rfl) | (obtain ⟨_, _, rfl, _⟩ := h; rfl) | (obtain ⟨_, _, _, rfl, _⟩ := h; rfl) | (obtain ⟨_, _, _, _, rfl, _⟩ := h; rfl) | (obtain ⟨_, _, _, _, _, rfl, _⟩ := h; rfl) | (obtain ⟨_, _, _, _, _, _, rfl, _⟩ := h; rfl) | (obtain ⟨_, _, _, _, _, _, _, rfl, _⟩ := h; rfl)
  · have hu := hu_of hr
    have hu65 := hu65_of hr
    refine ⟨_, (pss_cons (ps_asg (pe_tupN (pa_cons (pe_lc (own := [("_law_one", 3)]) (g := (gName 3)) (tt := tYes) rfl sc_law_inner.nd (pi_tupN (pe_ix ix_tupN (pv 0) pe_int (fun _ _ => rfl))) (blkOk_by (N := N_law_inner) (sc := (defScope s_law_inner)) (own := [("_law_one", 3)]) (by decide +kernel)) (fun _ _ _ _ _ => (pg_name (i := 3) sc_law_inner.nd rfl (by first | exact Or.inl rfl | exact Or.inr rfl))) (fun _ _ _ _ _ => pts_nil) (fun _ _ _ _ _ => (pe_ix ix_tupN (pv 3) pe_int (fun _ _ => rfl)))) (pa_cons (pe_lstN pa_nil) pa_nil))) (pg_tupN rfl (pgs_cons (pg_name (i := 1) sc_law_inner.nd rfl (by first | exact Or.inl rfl | exact Or.inr rfl)) (pgs_cons (pg_name (i := 2) sc_law_inner.nd rfl (by first | exact Or.inl rfl | exact Or.inr rfl)) pgs_nil))))
      (pss_cons (ps_for PassesOwn.never rfl (pi_range1 (by rfl) T.m_range (pa_cons (pe_callB call_len_seqN (by rfl) T.m_len b_len (pa_cons (pe_ix ix_tupN (pv 0) pe_int (fun _ _ => rfl)) pa_nil)) pa_nil)) (pg_name (i := 4) sc_law_inner.nd rfl (by first | exact Or.inl rfl | exact Or.inr rfl))
        (pss_one (ps_for PassesOwn.never rfl (pi_tupN (pe_ix ix_tupN (pv 0) pe_int (fun _ _ => rfl))) (pg_name (i := 3) sc_law_inner.nd rfl (by first | exact Or.inl rfl | exact Or.inr rfl))
          (pss_cons (ps_set (i := 5) sc_law_inner.nd rfl (by first | exact Or.inl rfl | exact Or.inr rfl) (pe_lc (own := [("_law_other", 6)]) (g := (gName 6)) (tt := tYes) rfl sc_law_inner.nd (pi_lstN (pv 2)) (blkOk_by (N := N_law_inner) (sc := (defScope s_law_inner)) (own := [("_law_other", 6)]) (by decide +kernel)) (fun _ _ _ _ _ => (pg_name (i := 6) sc_law_inner.nd rfl (by first | exact Or.inl rfl | exact Or.inr rfl))) (fun _ _ _ _ _ => pts_nil) (fun _ _ _ _ _ => (pe_ix ix_tupN (pv 6) pe_int (fun _ _ => rfl)))))
          (pss_cons (ps_setLc (i := 7) (own := [("_law_pair", 8)]) (g := (gName 8)) rfl sc_law_inner.nd rfl rfl (sw_true rfl rfl rfl (by decide +kernel)) (pi_tupN (pe_ix ix_tupN (pv 3) pe_int (fun _ _ => rfl))) (blkOk_by (N := N_law_inner) (sc := (defScope s_law_inner)) (own := [("_law_pair", 8)]) (by decide +kernel)) (fun _ _ _ _ _ => (pg_name (i := 8) sc_law_inner.nd rfl (by first | exact Or.inl rfl | exact Or.inr rfl))) (fun _ _ _ _ _ => pts_one (PW.pt (pw_and (pt_cmpR op_inN (pe_ix ix_tupN (pv 8) pe_int (fun _ _ => rfl)) (pv 1) (by first | exact nomark _ | rfl)) (pw_and1 (pt_cmpR op_notInN (pe_ix ix_tupN (pv 8) pe_int (fun _ _ => rfl)) (pv 5) (by first | exact nomark _ | rfl)))))) (fun _ _ _ _ _ => (pv 8)))
          (pss_one (ps_if (PW.pt (pw_and (pt_cmpR (op_notInDN hu65) (pv 3) (pv 2) (by first | exact nomark _ | rfl)) (pw_and1 (pt_cmpR (op_eqN hu65) (pv 7) (pe_lstN pa_nil) (by first | exact nomark _ | rfl)))))
            (pss_one (ps_expr (pe_bm PySem.F.plainAttrs_list PySem.F.slot_list_append PySem.F.type_list_append mt_appendN (pv 2) (pa_cons (pv 3) pa_nil)))) pss_nil)))))))
      (pss_one (ps_ret (pv 2))))), ?_⟩
    obtain ⟨t, S, rfl, hS, hok, q⟩ := h
    obtain ⟨pa, pb, pc, xs, ys, k1, k2, k3, k4, k5, k6⟩ := hS.ex
    have hlen := plen k6
    have hnk := hok.nk
    obtain ⟨rk, W, hrk⟩ := hok.rk
    refine ⟨_, rfl, t, _, _, _, rfl, rfl, k1, atI_nat (j := 2) rfl, pc, rfl, ⟨ys, k5⟩, fun _ => lcTupY k5 (small1000 (by omega)) (fun i acc _ => acc = ((S.packs.map (·.name)).take i).map V.str) (fun _ _ _ _ _ h => h) rfl (fun Ky i x acc H1 hx s1 g ky => ?_) (fun na acc H1 hD s1 hA hlA g => ?_)⟩
    · obtain ⟨p, hp, t2, u, zs, rfl, ht2, hu2, hz2⟩ := pget k6 hx
      refine ⟨rfl, _, rfl, t2, _, _, _, rfl, rfl, s1 _ _ ht2, atI_nat (j := 0) rfl, ?_⟩
      refine ky _ _ (Same.refl _) ?_
      subst g
      rw [take_next (show (S.packs.map (·.name))[i]? = some p.name by rw [List.getElem?_map, hp]; rfl), List.map_append]; rfl
    rw [List.take_of_length_le (by rw [List.length_map]; omega)] at g
    subst g
    refine ⟨by decide, fun fa H2 n2 => ?_⟩
    refine ⟨sz2, fun t3 H3 n3 => ?_⟩
    refine ⟨t3, _, rfl, n3.at_, rfl, _, _, rfl, _, _, rfl, rfl, ?_⟩
    have s13 := n2.same.trans n3.same
    have s3 : Same H H3 := s1.trans s13
    have hna3 : H3 na = some (.lst ((S.packs.map (·.name)).map V.str)) := s13 _ _ hA
    have hfa0 : H fa = none := none_same s1 n2.none_
    have nnf : na ≠ fa := n2.ne hA
    refine ⟨_, rfl, t, _, _, _, rfl, rfl, s3 _ _ k1, atI_nat (j := 2) rfl, pc, _, rfl, .inr (s3 _ _ k5), _, rfl, by omega, by omega, for_range (n := ys.length) (fun k σ H' => ∃ x3 x4 x5 x6 x7 x8 xs fs, σ = [some (.ref t), some (.ref na), some (.ref fa), x3, x4, x5, x6, x7, x8] ∧ Kp fa H3 H' ∧ H' fa = some (.lst xs) ∧ Paired (IsPk H') xs fs ∧ (∀ f ∈ fs, f ∈ S.packs) ∧ fs.length ≤ k * 5 ∧ ∀ p ∈ S.packs, rk p.name ≤ k → p.name ∈ fs.map (·.name))
      ⟨none, none, none, none, none, none, [], [], rfl, Kp.refl _ _, n3.same _ _ n2.at_, .nil, (fun f hf => nomatch hf), Nat.le_refl _, fun p hp h0 => ?_⟩
      (fun k σ H' hk ⟨x3, x4, x5, x6, x7, x8, xs5, fs, e, k5', hfa5, hfp5, hfm5, hfl5, hfr5⟩ => ?_) (fun σ H' ⟨x3, x4, x5, x6, x7, x8, xs5, fs, e, k5', hfa5, hfp5, hfm5, hfl5, hfr5⟩ => ?_)⟩
    · have := (hrk p hp).1
      omega
    · subst e
      have sH : Same H H' := k5'.same s3 hfa0
      refine ⟨_, rfl, t, _, _, _, rfl, rfl, sH _ _ k1, atI_nat (j := 2) rfl, pc, rfl, ⟨_, sH _ _ k5⟩, fun _ => forT (fun j σ H' => ∃ x3 x5 x6 x7 x8 xs fs, σ = [some (.ref t), some (.ref na), some (.ref fa), x3, some (.int ((0 : Int) + (k : Int))), x5, x6, x7, x8] ∧ Kp fa H3 H' ∧ H' fa = some (.lst xs) ∧ Paired (IsPk H') xs fs ∧ (∀ f ∈ fs, f ∈ S.packs) ∧ fs.length ≤ k * 5 + j ∧ (∀ p ∈ S.packs, rk p.name ≤ k → p.name ∈ fs.map (·.name)) ∧ ∀ p ∈ S.packs.take j, rk p.name ≤ k + 1 → p.name ∈ fs.map (·.name))
        ⟨_, _, _, _, _, xs5, fs, rfl, k5', hfa5, hfp5, hfm5, hfl5, hfr5, (fun p hp => nomatch hp)⟩ (fun j σ H' _ ⟨_, _, _, _, _, _, _, _, kk, _⟩ => kk.same s3 hfa0 _ _ k5) (fun j x σ H' hx ⟨x3, x5, x6, x7, x8, xs6, fs, e, k6', hfa6, hfp6, hfm6, hfl6, hfr6, hfj6⟩ => ?_) (fun σ H' ⟨x3, x5, x6, x7, x8, xs6, fs, e, k6', hfa6, hfp6, hfm6, hfl6, hfr6, hfj6⟩ => ?_)⟩
      · subst e
        have sH6 : Same H H' := k6'.same s3 hfa0
        obtain ⟨p, hp, ip⟩ := pget k6 hx
        have hpm := List.mem_of_getElem? hp
        obtain ⟨t2, u, zs, rfl, ht2, hu2, hz2⟩ := id ip
        have hlz := plen hz2
        have hsz := hok.ns p hpm
        have hlf := plen hfp6
        have hjl : j < S.packs.length := by
          rcases Nat.lt_or_ge j S.packs.length with y | y
          · exact y
          · rw [List.getElem?_eq_none y] at hp; cases hp
        -- seen
        refine ⟨_, rfl, fa, rfl, ⟨_, hfa6⟩, fun _ => lcLstY hfa6 (small1000 (by omega)) (fun i acc _ => acc = ((fs.map (·.name)).take i).map V.str) (fun _ _ _ _ _ h => h) rfl (fun Ky i x acc H7 hx7 s7 g ky => ?_) (fun sa acc H7 hD7 s7 hA7 hl7 g => ?_)⟩
        · obtain ⟨f, hf, t7, u7, zs7, rfl, ht7, _⟩ := pget hfp6 hx7
          refine ⟨rfl, _, rfl, t7, _, _, _, rfl, rfl, s7 _ _ ht7, atI_nat (j := 0) rfl, ?_⟩
          refine ky _ _ (Same.refl _) ?_
          subst g
          rw [take_next (show (fs.map (·.name))[i]? = some f.name by rw [List.getElem?_map, hf]; rfl), List.map_append]; rfl
        rw [List.take_of_length_le (by rw [List.length_map]; omega)] at g
        subst g
        -- lacking
        have s07 := sH6.trans s7
        refine ⟨_, rfl, t2, _, _, _, rfl, rfl, s07 _ _ ht2, atI_nat (j := 3) rfl, u, rfl, ⟨_, s07 _ _ hu2⟩, fun _ => lcTup (s07 _ _ hu2) (small1000 (by omega)) (fun i acc H => Paired (IsP H) acc ((p.sheet.take i).filter fun z => decide (z.1 ∈ S.packs.map (·.name)) && !decide (z.1 ∈ fs.map (·.name)))) (fun _ _ _ _ k h => pimp (fun _ _ z => z.tk k) h) .nil (fun Ky Kn i x acc H8 hx8 s8 g ky kn => ?_) (fun la acc H8 hD8 s8 hA8 hl8 g => ?_)⟩
        · obtain ⟨z, hz, iz⟩ := pget hz2 hx8
          obtain ⟨t8, rfl, ht8⟩ := id iz
          have hna8 : H8 na = some (.lst ((S.packs.map (·.name)).map V.str)) := s8 _ _ (s7 _ _ (k6' _ _ nnf hna3))
          refine ⟨rfl, _, rfl, t8, _, _, _, rfl, rfl, s8 _ _ (s07 _ _ ht8), atI_nat (j := 0) rfl, _, rfl, z.1, na, _, rfl, rfl, hna8, _, rfl, ?_⟩
          refine iteB (fun hb => ?_) (fun hb => ?_)
          · refine ⟨_, rfl, t8, _, _, _, rfl, rfl, s8 _ _ (s07 _ _ ht8), atI_nat (j := 0) rfl, _, rfl, z.1, sa, _, rfl, rfl, s8 _ _ hA7, _, rfl, ?_⟩
            refine iteB (fun hb2 => ?_) (fun hb2 => ?_)
            · refine ⟨_, rfl, ?_⟩
              refine ky _ _ (Same.refl _) ?_
              rw [filt_next _ hz, if_pos (by rw [Bool.and_eq_true]; exact ⟨hb, hb2⟩)]
              exact papp g (.cons (iz.tk (tk_of (s07.trans s8))) .nil)
            · refine kn _ (Same.refl _) ?_
              rw [filt_next _ hz, if_neg (by rw [Bool.and_eq_true]; rintro ⟨_, z2⟩; exact absurd z2 (by rw [show (!decide (z.1 ∈ fs.map (·.name))) = false from hb2]; decide)), List.append_nil]
              exact g
          · refine iteF (A := _) ?_
            refine kn _ (Same.refl _) ?_
            rw [filt_next _ hz, if_neg (by rw [Bool.and_eq_true]; rintro ⟨z2, _⟩; exact absurd z2 (by rw [show decide (z.1 ∈ S.packs.map (·.name)) = false from hb]; decide)), List.append_nil]
            exact g
        rw [hlz, List.take_length] at g
        have s08 := s07.trans s8
        have s68 := s7.trans s8
        obtain ⟨lk, hlk⟩ : ∃ lk, lk = p.sheet.filter fun z => decide (z.1 ∈ S.packs.map (·.name)) && !decide (z.1 ∈ fs.map (·.name)) := ⟨_, rfl⟩
        rw [← hlk] at g
        have hpk := hok.pk
        have hlkm : ∀ z ∈ lk, z ∈ p.sheet := fun z hz => by rw [hlk] at hz; exact (List.mem_filter.mp hz).1
        have hlk0 : rk p.name ≤ k + 1 → lk = [] := fun h => by
          rw [hlk, List.filter_eq_nil_iff]
          intro z hz hb
          rw [Bool.and_eq_true] at hb
          obtain ⟨f, hf, e⟩ := List.mem_map.mp (of_decide_eq_true hb.1)
          have h1 := W.rank p hpm z hz
          rw [← e] at h1
          have h2 := hfr6 f hf (by omega)
          rw [e] at h2
          rw [decide_eq_true h2] at hb
          exact absurd hb.2 (by decide)
        have hfp8 : Paired (IsPk H8) xs6 fs := pimp (fun _ _ z => z.tk (tk_of s68)) hfp6
        have hfa8 := s68 _ _ hfa6
        have k8 : Kp fa H3 H8 := k6'.trans (kp_of s68)
        refine ⟨_, rfl, _, rfl, pkD p, fs.map pkD, (ip.tk (tk_of s08)).dt, .lst hfa8 (pmap pkD (fun _ _ z => z.dt) hfp8), pk_shaped (hpk p hpm).1 (hpk p hpm).2, pks_shaped fun f hf => hpk f (hfm6 f hf), _, rfl, ?_⟩
        have stay : ∀ H9, Same H8 H9 → p.name ∈ fs.map (·.name) ∨ ¬ rk p.name ≤ k + 1 → ∃ y3 y5 y6 y7 y8 xs fs, [some (V.ref t), some (.ref na), some (.ref fa), some (.ref t2), some (.int ((0 : Int) + (k : Int))), some (.ref sa), x6, some (.ref la), x8] = [some (.ref t), some (.ref na), some (.ref fa), y3, some (.int ((0 : Int) + (k : Int))), y5, y6, y7, y8] ∧ Kp fa H3 H9 ∧ H9 fa = some (.lst xs) ∧ Paired (IsPk H9) xs fs ∧ (∀ f ∈ fs, f ∈ S.packs) ∧ fs.length ≤ k * 5 + (j + 1) ∧ (∀ p ∈ S.packs, rk p.name ≤ k → p.name ∈ fs.map (·.name)) ∧ ∀ p ∈ S.packs.take (j + 1), rk p.name ≤ k + 1 → p.name ∈ fs.map (·.name) := fun H9 s9 hor =>
          ⟨_, _, _, _, _, xs6, fs, rfl, k8.trans (kp_of s9), s9 _ _ hfa8, pimp (fun _ _ z => z.tk (tk_of s9)) hfp8, hfm6, by omega, hfr6, fun p' hp' hr => by
            rw [take_next hp] at hp'
            rcases List.mem_append.mp hp' with h | h
            · exact hfj6 p' h hr
            · rw [List.mem_singleton.mp h] at hr ⊢
              exact hor.elim id fun n => absurd hr n⟩
        refine iteB (fun hb => ?_) (fun hb => ?_)
        · refine ⟨_, rfl, by decide, fun p9 H9 n9 => ?_⟩
          refine ⟨.list (lk.map pD), .list [], .lst (n9.same _ _ hA8) (pmap pD (fun _ _ z => (z.tk (tk_of n9.same)).dt) g), .lst n9.at_ .nil, pairs_shaped fun z hz => (hpk p hpm).2 z (hlkm z hz), by decide, _, rfl, ?_⟩
          rw [pairs_empty]
          refine iteB (fun hb2 => ?_) (fun hb2 => ?_)
          · have hfa9 := n9.same _ _ hfa8
            refine ⟨_, rfl, .inl ⟨rfl, _, SqL.of hfa9⟩, _, rfl, fa, _, _, rfl, rfl, hfa9, small1000 (by omega), fun H10 m10 => ?_⟩
            have tk9 : Tk H9 H10 := m10.tk hfa9 fun _ z => by cases z
            refine ⟨_, _, _, _, _, xs6 ++ [.ref t2], fs ++ [p], rfl, (k8.trans (kp_of n9.same)).trans m10.kp, m10.at_, papp (pimp (fun _ _ z => (z.tk (tk_of n9.same)).tk tk9) hfp8) (.cons (((ip.tk (tk_of s08)).tk (tk_of n9.same)).tk tk9) .nil), fun f hf => (List.mem_append.mp hf).elim (hfm6 f) fun h => by rw [List.mem_singleton.mp h]; exact hpm, by rw [List.length_append, List.length_singleton]; omega, fun p' h1 h2 => by
              rw [List.map_append]; exact List.mem_append_left _ (hfr6 p' h1 h2), fun p' hp' hr => ?_⟩
            rw [List.map_append]
            rw [take_next hp] at hp'
            rcases List.mem_append.mp hp' with h | h
            · exact List.mem_append_left _ (hfj6 p' h hr)
            · rw [List.mem_singleton.mp h]
              exact List.mem_append_right _ List.mem_cons_self
          · exact stay H9 n9.same (.inr fun h => absurd (hlk0 h) (of_decide_eq_false hb2))
        · refine iteF (A := _) ?_
          refine stay H8 (Same.refl _) (.inl ?_)
          have hb : (fs.map pkD).any (fun z => PyData.eqv z (pkD p)) = true := by
            cases hx : (fs.map pkD).any (fun z => PyData.eqv z (pkD p)) with
            | true => rfl
            | false => rw [hx] at hb; exact absurd hb (by decide)
          obtain ⟨z, hz, e⟩ := List.any_eq_true.mp hb
          obtain ⟨f, hf, rfl⟩ := List.mem_map.mp hz
          rw [← pk_eqv e]
          exact List.mem_map_of_mem hf
      · subst e
        refine ⟨_, _, _, _, _, _, xs6, fs, rfl, k6', hfa6, hfp6, hfm6, by rw [Nat.add_mul]; omega, fun p hp hr => hfj6 p (by rw [hlen, List.take_length]; exact hp) hr⟩
    · subst e
      refine ⟨_, rfl, ?_⟩
      have hy : ((ys.length : Int)).toNat = S.packs.length := by omega
      exact q fa xs5 fs H' (k5'.same s3 hfa0) hfa5 hfp5 hfm5 (fun p hp => hfr5 p hp (by have := (hrk p hp).2; omega)) (by omega)
end K57
namespace K57
open PySem PySem.Spec PyProof.Rows L2
variable {P : Program} {w : World} {K : PySem.W.Frag} {mg : Str → Option Value} {base : Heap}
def FlatD (S : Shop) (H : Hp) (kvs : List (Key × V)) : Prop := ∀ (x : Str) v, valV kvs (Sum.inr x : Key) = some v → ∃ a l, v = .ref a ∧ RowAt H a l ∧ (∀ q ∈ l, q.1 ∈ arts S) ∧ (l.map (·.1)).Nodup
theorem FlatD.tk {S : Shop} {H H' : Hp} {kvs : List (Key × V)} (k : Tk H H') (h : FlatD S H kvs) : FlatD S H' kvs := fun x v e => let ⟨a, l, e1, e2, e3, e4⟩ := h x v e; ⟨a, l, e1, e2.tk k, e3, e4⟩
theorem arts_few {S : Shop} (hok : ShopOk S) {l : List (Str × Int)} (h : ∀ q ∈ l, q.1 ∈ arts S) (nd : (l.map (·.1)).Nodup) : l.length ≤ 10 := by
  have h1 := len_sub nd (m := arts S) fun x hx => by
    obtain ⟨p, hp, rfl⟩ := List.mem_map.mp hx
    exact h p hp
  unfold arts at h1
  rw [List.length_append, List.length_map, List.length_map, List.length_map] at h1
  have := hok.np
  have := hok.nk
  omega
theorem putL_in {S : Shop} {l : List (Str × Int)} {x : Str} {v : Int} (h : ∀ q ∈ l, q.1 ∈ arts S) (hx : x ∈ arts S) : ∀ q ∈ putL l x v, q.1 ∈ arts S := fun q hq => by
  rcases (putL_mem l x v q.1).mp (List.mem_map_of_mem hq) with e | e
  · rw [e]; exact hx
  · obtain ⟨p, hp, e⟩ := List.mem_map.mp e
    rw [← e]; exact h p hp
def sp_law_flat_sheets : Sp := fun vs H Q _ => ∃ (t : Addr) (S : Shop), vs = [.ref t] ∧ ShopAt H t S ∧ ShopOk S ∧ ∀ p H' kvs, Same H H' → H' p = some (.dK kvs) → FlatD S H' kvs → (∀ f ∈ S.packs, ∃ v, valV kvs (Sum.inr f.name : Key) = some v) → Q (.ref p) H'
/-! ### law_flat_sheets: 0 _law_store, 1 _law_flat, 2 _law_one, 3 _law_sums, 4 _law_tag, 5 _law_count, 6 _law_far, 7 _law_many -/
abbrev N_law_flat_sheets : List Str := ["_law_store", "_law_flat", "_law_one", "_law_sums", "_law_tag", "_law_count", "_law_far", "_law_many"]
theorem sc_law_flat_sheets : FnScope N_law_flat_sheets ["_law_store"] (defScope s_law_flat_sheets) := ⟨rfl, rfl, rfl, by decide +kernel, rfl, by decide +kernel, by decide +kernel⟩
theorem ok_law_flat_sheets (T : Tx K mg) : OkF P w K mg base "_law_flat_sheets" 2 ["_law_store"] [] sp_law_flat_sheets := by
  have O_law_inner : OkF P w K mg base "_law_inner" 1 ["_law_store"] [] sp_law_inner := ok_law_inner T
  refine okF_mk d_law_flat_sheets T (fn_mem 40 rfl) rfl rfl sc_law_flat_sheets (fun _ _ _ _ _ _ us hl => match us, hl with | [_], _ => rfl) (fun vs H Q E h => ?_) (fun f cdv A outer s H vs Q E hr h => ?_)
  · first | (obtain ⟨_, rfl, _⟩ := h; rfl) | (obtain ⟨_, _, rfl, _⟩ := h; rfl) | (obtain ⟨_, _, _, rfl, _⟩ := h; rfl) | (obtain ⟨_, _, _, _, rfl, _⟩ := h; rfl) | (obtain ⟨_, _, _, _, _, rfl, _⟩ := h; rfl) | (obtain ⟨_, _, _, _, _, _, rfl, _⟩ := h; rfl) | (obtain ⟨_, _, _, _, _, _, _, rfl, _⟩ := h; rfl)
  · have hu := hu_of hr
    have hu65 := hu65_of hr
    refine ⟨_, (pss_cons (ps_set (i := 1) sc_law_flat_sheets.nd rfl (by first | exact Or.inl rfl | exact Or.inr rfl) pe_dnewN)
      (pss_cons (ps_for PassesOwn.never rfl (pi_lstN (pe_callO O_law_inner hr (pa_cons (pv 0) pa_nil))) (pg_name (i := 2) sc_law_flat_sheets.nd rfl (by first | exact Or.inl rfl | exact Or.inr rfl))
        (pss_cons (ps_set (i := 3) sc_law_flat_sheets.nd rfl (by first | exact Or.inl rfl | exact Or.inr rfl) pe_dnewN)
        (pss_cons (ps_for PassesOwn.never rfl (pi_tupN (pe_ix ix_tupN (pv 2) pe_int (fun _ _ => rfl))) (pg_tupN rfl (pgs_cons (pg_name (i := 4) sc_law_flat_sheets.nd rfl (by first | exact Or.inl rfl | exact Or.inr rfl)) (pgs_cons (pg_name (i := 5) sc_law_flat_sheets.nd rfl (by first | exact Or.inl rfl | exact Or.inr rfl)) pgs_nil)))
          (pss_one (ps_for PassesOwn.never rfl (pi_tupN (pe_ifExp (pt_cmp (pc_din hu (pv 4) (pv 1))) (pe_dget hu (pv 1) (pv 4) (fun _ _ => rfl)) (pe_tupN (pa_cons (pe_tupN (pa_cons (pv 4) (pa_cons pe_int pa_nil))) pa_nil)))) (pg_tupN rfl (pgs_cons (pg_name (i := 6) sc_law_flat_sheets.nd rfl (by first | exact Or.inl rfl | exact Or.inr rfl)) (pgs_cons (pg_name (i := 7) sc_law_flat_sheets.nd rfl (by first | exact Or.inl rfl | exact Or.inr rfl)) pgs_nil)))
            (pss_one (ps_dput hu (pv 3) (pv 6) (pe_op op_add (pe_ifExp (pt_cmp (pc_din hu (pv 6) (pv 3))) (pe_dget hu (pv 3) (pv 6) (fun _ _ => rfl)) pe_int) (pe_op op_mul (pv 5) (pv 7))) rfl)))))
        (pss_one (ps_dput hu (pv 1) (pe_ix ix_tupN (pv 2) pe_int (fun _ _ => rfl)) (pe_callTy call_tuple_ofN (by rfl) T.m_tuple b_tuple (pa_cons (pe_callB (cr_sortN hu65) (by rfl) T.m_sorted b_sorted (pa_cons (pe_lock (pe_lc (own := [("_law_far", 6)]) (g := (gName 6)) (tt := tYes) rfl sc_law_flat_sheets.nd (pi_keys (pv 3)) (blkOk_by (N := N_law_flat_sheets) (sc := (defScope s_law_flat_sheets)) (own := [("_law_far", 6)]) (by decide +kernel)) (fun _ _ _ _ _ => (pg_name (i := 6) sc_law_flat_sheets.nd rfl (by first | exact Or.inl rfl | exact Or.inr rfl))) (fun _ _ _ _ _ => pts_nil) (fun _ _ _ _ _ => (pe_tupN (pa_cons (pv 6) (pa_cons (pe_dget hu (pv 3) (pv 6) (fun _ _ => rfl)) pa_nil)))))) pa_nil)) pa_nil)) rfl)))))
      (pss_one (ps_ret (pv 1))))), ?_⟩
    obtain ⟨t, S, rfl, hS, hok, q⟩ := h
    obtain ⟨rk, W, hrk⟩ := hok.rk
    intro fd H1 n1
    refine ⟨_, rfl, t, S, rfl, hS.tk (tk_of n1.same), hok, fun po xs fs H2 s2 hpo hfs hfm hfc hfl => ?_⟩
    have hlen := plen hfs
    have hfd0 : H fd = none := n1.none_
    have s12 := n1.same.trans s2
    have hfd2 := s2 _ _ n1.at_
    have nof : po ≠ fd := fun e => by rw [e, hfd2] at hpo; cases hpo
    refine ⟨po, rfl, ⟨_, hpo⟩, fun _ => forL (fun i σ H' => ∃ x2 x3 x4 x5 x6 x7 kvs, σ = [some (.ref t), some (.ref fd), x2, x3, x4, x5, x6, x7] ∧ Kp fd H2 H' ∧ H' fd = some (.dK kvs) ∧ FlatD S H' kvs ∧ kvs.length ≤ i ∧ ∀ f ∈ fs.take i, ∃ v, valV kvs (Sum.inr f.name : Key) = some v)
      ⟨none, none, none, none, none, none, [], rfl, Kp.refl _ _, hfd2, (fun x v e => nomatch e), Nat.le_refl _, (fun f hf => nomatch hf)⟩ (fun i σ H' _ ⟨_, _, _, _, _, _, _, _, k, _⟩ => k _ _ nof hpo)
      (fun i x σ H' hx ⟨x2, x3, x4, x5, x6, x7, kvs, e, k3, hf3, hd3, hl3, hc3⟩ => ?_) (fun σ H' ⟨x2, x3, x4, x5, x6, x7, kvs, e, k3, hf3, hd3, hl3, hc3⟩ => ?_)⟩
    · subst e
      obtain ⟨p, hp, ip⟩ := pget hfs hx
      have hpm := hfm p (List.mem_of_getElem? hp)
      have tk3 : Tk H2 H' := k3.tk' hfd2
      have hil : i < fs.length := by
        rcases Nat.lt_or_ge i fs.length with y | y
        · exact y
        · rw [List.getElem?_eq_none y] at hp; cases hp
      obtain ⟨t2, u, zs, rfl, ht2, hu2, hz2⟩ := ip.tk tk3
      have hlz := plen hz2
      intro sd H4 n4
      have nsf : sd ≠ fd := (n4.ne hf3).symm
      refine ⟨_, rfl, t2, _, _, _, rfl, rfl, n4.same _ _ ht2, atI_nat (j := 3) rfl, u, rfl, ⟨_, n4.same _ _ hu2⟩, fun _ => forT (fun j σ H'' => ∃ y4 y5 y6 y7 sl, σ = [some (.ref t), some (.ref fd), some (.ref t2), some (.ref sd), y4, y5, y6, y7] ∧ Same H' H'' ∧ H'' sd = some (.dK (encK sl)) ∧ (sl.map (·.1)).Nodup ∧ ∀ q ∈ sl, q.1 ∈ arts S)
        ⟨_, _, _, _, [], rfl, n4.same, n4.at_, List.nodup_nil, (fun q hq => nomatch hq)⟩ (fun j σ H'' _ ⟨_, _, _, _, _, _, s, _⟩ => s _ _ hu2) (fun j x σ H'' hx5 ⟨y4, y5, y6, y7, sl, e, s5, hs5, nd5, in5⟩ => ?_) (fun σ H'' ⟨y4, y5, y6, y7, sl, e, s5, hs5, nd5, in5⟩ => ?_)⟩
      · subst e
        obtain ⟨z, hz, t5, rfl, ht5⟩ := pget hz2 hx5
        have hzm := List.mem_of_getElem? hz
        have z1 := W.pos p hpm z hzm
        have z4 := hok.cb p hpm z hzm
        have hzin := hok.sheet p hpm z hzm
        have hf5 := s5 _ _ hf3
        have hd5 : FlatD S H'' kvs := hd3.tk (tk_of s5)
        have hdg := DGet.k (k := (Sum.inr z.1 : Key)) hf5
        refine ⟨t5, _, rfl, s5 _ _ ht5, rfl, _, _, rfl, _, _, rfl, rfl, ?_⟩
        refine ⟨_, rfl, _, rfl, fd, _, rfl, hdg, _, rfl, ?_⟩
        cases hv : valV kvs (Sum.inr z.1 : Key)
        refine iteF (A := _) ?_
        refine ⟨_, rfl, sz2, fun p9 H9 n9 => ?_⟩
        refine ⟨show 1 ≤ sizeLine by decide, fun p10 H10 n10 => ?_⟩
        have hrow : RowAt H10 p10 [(z.1, 1)] := ⟨_, n10.at_, .cons ⟨p9, rfl, n10.same _ _ n9.at_⟩ .nil⟩
        have s10 : Same H'' H10 := n9.same.trans n10.same
        have hin : ∀ q ∈ [(z.1, (1 : Int))], q.1 ∈ arts S := fun q hq => by rw [List.mem_singleton.mp hq]; exact hzin
        rotate_left
        rename_i vv
        refine iteT ?_
        obtain ⟨a2, l2, rfl, hrow, hin, _⟩ := hd5 z.1 _ hv
        rw [hv] at hdg
        refine ⟨_, rfl, _, rfl, fd, _, rfl, hdg, ?_⟩
        have s10 : Same H'' H'' := Same.refl _
        rotate_left
        all_goals
          obtain ⟨ws, hws, hwp⟩ := hrow
          refine ⟨_, rfl, ⟨_, hws⟩, fun _ => forT (fun m σ H3 => ∃ y6 y7 sl, σ = [some (.ref t), some (.ref fd), some (.ref t2), some (.ref sd), some (.str z.1), some (.int z.2), y6, y7] ∧ Same H' H3 ∧ Tk _ H3 ∧ H3 sd = some (.dK (encK sl)) ∧ (sl.map (·.1)).Nodup ∧ ∀ q ∈ sl, q.1 ∈ arts S)
            ⟨_, _, sl, rfl, s5.trans s10, Tk.refl _, s10 _ _ hs5, nd5, in5⟩ (fun m σ H3 _ ⟨_, _, _, _, _, k, _⟩ => k _ _ hws) (fun m x σ H3 hx6 ⟨y6, y7, sl, e, s6, tk6, hs6, nd6, in6⟩ => ?_) (fun σ H3 ⟨y6, y7, sl, e, s6, tk6, hs6, nd6, in6⟩ => ?_)⟩
          · subst e
            obtain ⟨w, hw, t6, rfl, ht6⟩ := pget hwp hx6
            have hwin := hin w (List.mem_of_getElem? hw)
            have hfew := arts_few hok in6 nd6
            refine ⟨t6, _, rfl, tk6 _ _ ht6, rfl, _, _, rfl, _, _, rfl, rfl, ?_⟩
            refine ⟨_, rfl, _, rfl, sd, _, rfl, dgetLo hs6, _, rfl, ?_⟩
            have put : ∀ N : Int, ∃ H7, DPut H3 sd (.str w.1) (.int (N + z.2 * w.2)) H7 ∧ ∃ y6 y7 sl, [some (V.ref t), some (.ref fd), some (.ref t2), some (.ref sd), some (.str z.1), some (.int z.2), some (.str w.1), some (.int w.2)] = [some (.ref t), some (.ref fd), some (.ref t2), some (.ref sd), some (.str z.1), some (.int z.2), y6, y7] ∧ Same H' H7 ∧ Tk _ H7 ∧ H7 sd = some (.dK (encK sl)) ∧ (sl.map (·.1)).Nodup ∧ ∀ q ∈ sl, q.1 ∈ arts S := fun N => by
              obtain ⟨H7, dp, m7⟩ := dputL w.1 (N + z.2 * w.2) hs6 nd6 (small1000 (by omega))
              exact ⟨H7, dp, _, _, _, rfl, m7.same s6 n4.none_, tk6.trans (m7.tk hs6 fun _ z => by cases z), m7.at_, putL_nodup _ _ _ nd6, putL_in in6 hwin⟩
            cases hg : getL sl w.1 with
            | none =>
              refine iteF (A := _) ?_
              obtain ⟨H7, dp, fin⟩ := put 0
              exact ⟨_, rfl, _, rfl, _, _, rfl, rfl, .inl ⟨by omega, by omega⟩, _, _, rfl, rfl, _, rfl, _, rfl, sd, H7, rfl, dp, fin⟩
            | some v =>
              refine iteT ?_
              obtain ⟨H7, dp, fin⟩ := put v
              exact ⟨_, rfl, _, rfl, sd, _, rfl, dgetL hs6 hg, _, rfl, _, rfl, _, _, rfl, rfl, .inl ⟨by omega, by omega⟩, _, _, rfl, rfl, _, rfl, _, rfl, sd, H7, rfl, dp, fin⟩
          · subst e
            exact ⟨_, _, _, _, sl, rfl, s6, hs6, nd6, in6⟩
      · subst e
        have hfew := arts_few hok in5 nd5
        refine ⟨sd, _, hs5, trivial, fun od => ?_⟩
        refine ⟨_, rfl, sd, od, rfl, .inl ⟨_, upd_same, lcKeysY (kvs0 := encK sl) upd_same (by rw [encK_len]; exact small1000 (by omega)) (fun j acc H => Paired (IsP H) acc (sl.take j)) (fun _ _ _ _ k h => pimp (fun _ _ z => z.tk k) h) .nil (fun Ky j key v acc H7 hx7 s7 g ky => ?_) (fun D acc H7 hD7 s7 hA7 _ g => ?_)⟩⟩
        · obtain ⟨z, hz, rfl, rfl⟩ := enc_get hx7
          refine ⟨rfl, _, rfl, _, rfl, _, rfl, sd, _, rfl, dgetF (s7 _ _ upd_same) (getL_of_mem nd5 (List.mem_of_getElem? hz)), sz2, fun p8 H8 n8 => ?_⟩
          refine ky _ _ n8.same ?_
          rw [take_next hz]
          exact papp (pimp (fun _ _ z => z.tk (tk_of n8.same)) g) (.cons ⟨p8, rfl, n8.at_⟩ .nil)
        · rw [encK_len, List.take_length] at g
          have n8 := new_lock hs5 s7 hD7 hA7
          have g8 : Paired (IsP (upd H7 sd (.dK (encK sl)))) acc sl := pimp (fun _ _ z => z.tk fun b xs hb => by rw [upd_ne (fun e => by rw [e, s7 _ _ upd_same] at hb; cases hb)]; exact hb) g
          refine ⟨s7 _ _ upd_same, D, _, sl.map pD, rfl, n8.at_, pmap pD (fun _ _ y => y.dt) g8, pairs_alike sl, pairs_sortable sl, pairs_depth sl, fun zs p9 H9 z1 z2 n9 => ?_⟩
          obtain ⟨ws, w1, w2, _⟩ := sorted_of (d := pD) g8 z1 z2
          refine ⟨p9, _, rfl, n9.at_, fun p10 H10 n10 => ?_⟩
          have s59 := s5.trans (n8.same.trans (n9.same.trans n10.same))
          have hf10 := s59 _ _ hf3
          obtain ⟨H11, d11, m11⟩ := dput_of (Sum.inr p.name : Key) (v := .ref p10) hf10 (small1000 (by omega))
          refine ⟨_, rfl, _, rfl, t2, _, _, _, rfl, rfl, s59 _ _ ht2, atI_nat (j := 0) rfl, fd, H11, rfl, d11, ?_⟩
          have tk11 : Tk H10 H11 := m11.tk hf10 fun _ z => by cases z
          refine ⟨_, _, _, _, _, _, _, rfl, (k3.trans (kp_of s59)).trans m11.kp, m11.at_, fun x v e => ?_, by have := length_putK kvs (Sum.inr p.name : Key) (.ref p10); omega, fun f hf => ?_⟩
          · rw [valV_put] at e
            by_cases hx : (Sum.inr x : Key) = Sum.inr p.name
            · rw [if_pos hx] at e
              have e := Option.some.inj e
              subst e
              exact ⟨p10, ws, rfl, ⟨_, tk11 _ _ n10.at_, pimp (fun _ _ y => (y.tk (tk_of (n9.same.trans n10.same))).tk tk11) w2⟩, fun q hq => in5 q (w1.mem_iff.mp hq), (w1.map _).nodup_iff.mpr nd5⟩
            · rw [if_neg hx] at e
              exact (hd3.tk (tk_of s59)).tk tk11 x v e
          · rw [valV_put]
            by_cases hx : (Sum.inr f.name : Key) = Sum.inr p.name
            · rw [if_pos hx]; exact ⟨_, rfl⟩
            · rw [if_neg hx]
              rw [take_next hp] at hf
              rcases List.mem_append.mp hf with h | h
              · exact hc3 f h
              · exact absurd (by rw [List.mem_singleton.mp h]) hx
    · subst e
      refine ⟨_, rfl, ?_⟩
      rw [hlen, List.take_length] at hc3
      refine q fd H' kvs (k3.same s12 hfd0) hf3 hd3 fun f hf => ?_
      obtain ⟨g, hg, e⟩ := List.mem_map.mp (hfc f hf)
      have := hc3 g hg
      rw [e] at this
      exact this
end K57
namespace K57
open PySem PySem.Spec PyProof.Rows L2
variable {P : Program} {w : World} {K : PySem.W.Frag} {mg : Str → Option Value} {base : Heap}
theorem ints_snoc (ns : List Int) (n : Int) : ns.map V.int ++ [.int n] = (ns ++ [n]).map V.int := by rw [List.map_append]; rfl
def sp_law_worth : Sp := fun vs H Q _ => ∃ (t : Addr) (S : Shop), vs = [.ref t] ∧ ShopAt H t S ∧ ShopOk S ∧ ∀ n H', Same H H' → Q (.int n) H'
/-! ### law_worth: 0 _law_store, 1 _law_flat, 2 _law_inside, 3 _law_pair, 4 _law_one, 5 _law_many -/
abbrev N_law_worth : List Str := ["_law_store", "_law_flat", "_law_inside", "_law_pair", "_law_one", "_law_many"]
theorem sc_law_worth : FnScope N_law_worth ["_law_store"] (defScope s_law_worth) := ⟨rfl, rfl, rfl, by decide +kernel, rfl, by decide +kernel, by decide +kernel⟩
theorem ok_law_worth (T : Tx K mg) : OkF P w K mg base "_law_worth" 3 ["_law_store"] [] sp_law_worth := by
  have O_law_flat_sheets : OkF P w K mg base "_law_flat_sheets" 2 ["_law_store"] [] sp_law_flat_sheets := ok_law_flat_sheets T
  refine okF_mk d_law_worth T (fn_mem 41 rfl) rfl rfl sc_law_worth (fun _ _ _ _ _ _ us hl => match us, hl with | [_], _ => rfl) (fun vs H Q E h => ?_) (fun f cdv A outer s H vs Q E hr h => ?_)
  · first | (obtain ⟨_, rfl, _⟩ := h; rfl) | (obtain ⟨_, _, rfl, _⟩ := h; rfl) | (obtain ⟨_, _, _, rfl, _⟩ := h; rfl) | (obtain ⟨_, _, _, _, rfl, _⟩ := h; rfl) | (obtain ⟨_, _, _, _, _, rfl, _⟩ := h; rfl) | (obtain ⟨_, _, _, _, _, _, rfl, _⟩ := h; rfl) | (obtain ⟨_, _, _, _, _, _, _, rfl, _⟩ := h; rfl)
  · have hu := hu_of hr
    have hu65 := hu65_of hr
    refine ⟨_, (pss_cons (ps_set (i := 1) sc_law_worth.nd rfl (by first | exact Or.inl rfl | exact Or.inr rfl) (pe_callO O_law_flat_sheets hr (pa_cons (pv 0) pa_nil)))
      (pss_cons (ps_setLc (i := 2) (own := [("_law_one", 4)]) (g := (gName 4)) (tt := tYes) rfl sc_law_worth.nd rfl rfl (sw_true rfl rfl rfl (by decide +kernel)) (pi_tupN (pe_ix ix_tupN (pv 0) pe_int (fun _ _ => rfl))) (blkOk_by (N := N_law_worth) (sc := (defScope s_law_worth)) (own := [("_law_one", 4)]) (by decide +kernel)) (fun _ _ _ _ _ => (pg_name (i := 4) sc_law_worth.nd rfl (by first | exact Or.inl rfl | exact Or.inr rfl))) (fun _ _ _ _ _ => pts_nil) (fun _ _ _ _ _ => (pe_op op_mul (pe_ix ix_tupN (pv 4) pe_int (fun _ _ => rfl)) (pe_callB (cr_sumN rfl) (by rfl) T.m_sum b_sum (pa_cons (pe_lc (own := [("_law_pair", 3)]) (g := (gName 3)) (tt := tYes) rfl sc_law_worth.nd (pi_tupN (pe_dget hu (pv 1) (pe_ix ix_tupN (pv 4) pe_int (fun _ _ => rfl)) (fun _ _ => rfl))) (blkOk_by (N := N_law_worth) (sc := (relS _ (defScope s_law_worth))) (own := [("_law_pair", 3)]) (by decide +kernel)) (fun _ _ _ _ _ => (pg_name (i := 3) sc_law_worth.nd rfl (by first | exact Or.inl rfl | exact Or.inr rfl))) (fun _ _ _ _ _ => pts_nil) (fun _ _ _ _ _ => (pe_callTy call_int1 (by rfl) T.m_int b_int (pa_cons (pe_ix ix_tupN (pv 3) pe_int (fun _ _ => rfl)) pa_nil)))) pa_nil)))))
      (pss_one (ps_ret (pe_op op_add (pe_callB (cr_sumN rfl) (by rfl) T.m_sum b_sum (pa_cons (pe_lc (own := [("_law_one", 4)]) (g := (gName 4)) (tt := tYes) rfl sc_law_worth.nd (pi_tupN (pe_ix ix_tupN (pv 0) pe_int (fun _ _ => rfl))) (blkOk_by (N := N_law_worth) (sc := (defScope s_law_worth)) (own := [("_law_one", 4)]) (by decide +kernel)) (fun _ _ _ _ _ => (pg_name (i := 4) sc_law_worth.nd rfl (by first | exact Or.inl rfl | exact Or.inr rfl))) (fun _ _ _ _ _ => pts_nil) (fun _ _ _ _ _ => (pe_callTy call_int1 (by rfl) T.m_int b_int (pa_cons (pe_ix ix_tupN (pv 4) pe_int (fun _ _ => rfl)) pa_nil)))) pa_nil)) (pe_callB (cr_sumN rfl) (by rfl) T.m_sum b_sum (pa_cons (pe_lc (own := [("_law_many", 5)]) (g := (gName 5)) (tt := tYes) rfl sc_law_worth.nd (pi_lstN (pv 2)) (blkOk_by (N := N_law_worth) (sc := (defScope s_law_worth)) (own := [("_law_many", 5)]) (by decide +kernel)) (fun _ _ _ _ _ => (pg_name (i := 5) sc_law_worth.nd rfl (by first | exact Or.inl rfl | exact Or.inr rfl))) (fun _ _ _ _ _ => pts_nil) (fun _ _ _ _ _ => (pe_callTy call_int1 (by rfl) T.m_int b_int (pa_cons (pv 5) pa_nil)))) pa_nil))))))), ?_⟩
    obtain ⟨t, S, rfl, hS, hok, q⟩ := h
    have hnk := hok.nk
    have hnp := hok.np
    refine ⟨_, rfl, t, S, rfl, hS, hok, fun fd H1 kvs s1 hf hd hc => ?_⟩
    obtain ⟨pa, pb, pc, xs, ys, k1, k2, k3, k4, k5, k6⟩ := (hS.tk (tk_of s1)).ex
    have hlx := plen k3
    have hly := plen k6
    refine ⟨_, rfl, t, _, _, _, rfl, rfl, k1, atI_nat (j := 2) rfl, pc, rfl, ⟨ys, k5⟩, fun _ => lcTupY k5 (small1000 (by omega)) (fun i acc _ => ∃ ns : List Int, acc = ns.map V.int) (fun _ _ _ _ _ h => h) ⟨[], rfl⟩ (fun Ky i x acc H2 hx s2 g ky => ?_) (fun D acc H2 hD s2 hA hlA g => ?_)⟩
    · obtain ⟨p, hp, t2, u, zs, rfl, ht2, hu2, hz2⟩ := pget k6 hx
      have hpm := List.mem_of_getElem? hp
      obtain ⟨v, hv⟩ := hc p hpm
      obtain ⟨a, l, rfl, ⟨ws, hws, hwp⟩, hin, hnd⟩ := hd p.name v hv
      have hfew := arts_few hok hin hnd
      have hlw := plen hwp
      have hdg := DGet.k (k := (Sum.inr p.name : Key)) (s2 _ _ hf)
      rw [hv] at hdg
      obtain ⟨ns, rfl⟩ := g
      refine ⟨rfl, _, rfl, t2, _, _, _, rfl, rfl, s2 _ _ ht2, atI_nat (j := 1) rfl, _, rfl, _, rfl, t2, _, _, _, rfl, rfl, s2 _ _ ht2, atI_nat (j := 0) rfl, fd, _, rfl, hdg, a, rfl, ⟨_, s2 _ _ hws⟩, fun _ => lcTupY (s2 _ _ hws) (small1000 (by omega)) (fun i acc _ => ∃ ns : List Int, acc = ns.map V.int) (fun _ _ _ _ _ h => h) ⟨[], rfl⟩ (fun Ky2 j y acc2 H3 hy s3 g3 ky2 => ?_) (fun D2 acc2 H3 hD3 s3 hA3 _ g3 => ?_)⟩
      · obtain ⟨z, hz, t3, rfl, ht3⟩ := pget hwp hy
        obtain ⟨ms, rfl⟩ := g3
        refine ⟨rfl, _, rfl, t3, _, _, _, rfl, rfl, s3 _ _ (s2 _ _ ht3), atI_nat (j := 1) rfl, .inl ⟨_, rfl, ?_⟩⟩
        exact ky2 _ _ (Same.refl _) ⟨ms ++ [z.2], ints_snoc ms z.2⟩
      · obtain ⟨ms, rfl⟩ := g3
        have h0 := hok.made p hpm
        have h3 := hok.mb p hpm
        refine ⟨D2, ms, rfl, hA3, _, _, rfl, rfl, .inl ⟨by omega, by omega⟩, ?_⟩
        exact ky _ _ s3 ⟨ns ++ [_], ints_snoc ns _⟩
    · obtain ⟨ns, rfl⟩ := g
      rw [List.length_map] at hlA
      refine ⟨_, rfl, t, _, _, _, rfl, rfl, s2 _ _ k1, atI_nat (j := 0) rfl, pa, rfl, ⟨_, s2 _ _ k2⟩, fun _ => lcTupY (s2 _ _ k2) (small1000 (by omega)) (fun i acc _ => ∃ ns : List Int, acc = ns.map V.int) (fun _ _ _ _ _ h => h) ⟨[], rfl⟩ (fun Ky2 j y acc2 H3 hy s3 g3 ky2 => ?_) (fun D2 acc2 H3 hD3 s3 hA3 _ g3 => ?_)⟩
      · obtain ⟨z, hz, t3, rfl, ht3⟩ := pget k3 hy
        obtain ⟨ms, rfl⟩ := g3
        refine ⟨rfl, _, rfl, t3, _, _, _, rfl, rfl, s3 _ _ (s2 _ _ ht3), atI_nat (j := 1) rfl, .inl ⟨_, rfl, ?_⟩⟩
        exact ky2 _ _ (Same.refl _) ⟨ms ++ [z.2], ints_snoc ms z.2⟩
      · obtain ⟨ms, rfl⟩ := g3
        refine ⟨D2, ms, rfl, hA3, _, rfl, D, rfl, ⟨_, s3 _ _ hA⟩, fun _ => lcLstY (s3 _ _ hA) (by rw [List.length_map]; exact small1000 (by omega)) (fun i acc _ => ∃ ns : List Int, acc = ns.map V.int) (fun _ _ _ _ _ h => h) ⟨[], rfl⟩ (fun Ky2 j y acc2 H4 hy s4 g4 ky2 => ?_) (fun D4 acc2 H4 hD4 s4 hA4 _ g4 => ?_)⟩
        · rw [List.getElem?_map] at hy
          obtain ⟨z, hz, rfl⟩ := Option.map_eq_some_iff.mp hy
          obtain ⟨ms, rfl⟩ := g4
          refine ⟨rfl, _, rfl, .inl ⟨_, rfl, ?_⟩⟩
          exact ky2 _ _ (Same.refl _) ⟨ms ++ [z], ints_snoc ms z⟩
        · obtain ⟨ms4, rfl⟩ := g4
          refine ⟨D4, ms4, rfl, hA4, _, _, rfl, rfl, ?_⟩
          exact q _ _ (s1.trans (s2.trans (s3.trans s4)))
end K57
namespace K57
open PySem PySem.Spec PyProof.Rows L2
theorem Wf.perm {ps qs : List (Pk Str)} {rk : Str → Nat} (W : Wf ps rk) (h : qs.Perm ps) : Wf qs rk :=
  ⟨(h.map _).nodup_iff.mpr W.nd, fun p hp => W.rank p (h.mem_iff.mp hp), fun p hp => W.pos p (h.mem_iff.mp hp)⟩
theorem arts_perm {S T : Shop} (h1 : T.parts.Perm S.parts) (h2 : T.packs.Perm S.packs) : (arts T).Perm (arts S) := (h1.map _).append (h2.map _)
theorem ShopOk.perm {S T : Shop} (h : ShopOk S) (h1 : T.parts.Perm S.parts) (h2 : T.packs.Perm S.packs) : ShopOk T := by
  obtain ⟨rk, W, hr⟩ := h.rk
  have ha := arts_perm h1 h2
  refine ⟨⟨rk, W.perm h2, fun p hp => by rw [h2.length_eq]; exact hr p (h2.mem_iff.mp hp)⟩, ha.nodup_iff.mpr h.nd, fun z hz => h.ok z (ha.mem_iff.mp hz), fun p hp q hq => ha.mem_iff.mpr (h.sheet p (h2.mem_iff.mp hp) q hq), fun p hp => h.made p (h2.mem_iff.mp hp), fun p hp => h.stock p (h1.mem_iff.mp hp),
    by rw [h1.length_eq]; exact h.np, by rw [h2.length_eq]; exact h.nk, fun p hp => h.ns p (h2.mem_iff.mp hp), fun p hp => h.cb p (h2.mem_iff.mp hp), fun p hp => h.mb p (h2.mem_iff.mp hp)⟩
theorem bare_names (S : Shop) : (bare S).packs.map (·.name) = S.packs.map (·.name) := by unfold bare; rw [List.map_map]; rfl
theorem bare_arts (S : Shop) : arts (bare S) = arts S := by unfold arts; rw [bare_names]; rfl
theorem ShopOk.bare {S : Shop} (h : ShopOk S) : ShopOk (bare S) := by
  obtain ⟨rk, W, hr⟩ := h.rk
  have hb : ∀ p ∈ (K57.bare S).packs, ∃ q ∈ S.packs, p = bareP q := fun p hp => by
    obtain ⟨q, hq, e⟩ := List.mem_map.mp hp
    exact ⟨q, hq, e.symm⟩
  refine ⟨⟨rk, ⟨by rw [bare_names]; exact W.nd, fun p hp => ?_, fun p hp => ?_⟩, fun p hp => ?_⟩, by rw [bare_arts]; exact h.nd, by rw [bare_arts]; exact h.ok, fun p hp => ?_, fun p hp => ?_, h.stock, h.np, by unfold K57.bare; rw [List.length_map]; exact h.nk, fun p hp => ?_, fun p hp => ?_, fun p hp => ?_⟩
  all_goals
    obtain ⟨q, hq, rfl⟩ := hb p hp
  · exact W.rank q hq
  · exact W.pos q hq
  · unfold K57.bare; rw [List.length_map]; exact hr q hq
  · rw [bare_arts]; exact h.sheet q hq
  · exact Int.le_refl 0
  · exact h.ns q hq
  · exact h.cb q hq
  · show (0 : Int) ≤ 3
    decide
/-- the packs as they are drawn -/
structure Drawn (pn : List Str) (tn : List Str) (ks : List (Pk Str)) : Prop where
  names : ks.map (·.name) = tn.take ks.length
  each : ∀ j p, ks[j]? = some p → (∀ q ∈ p.sheet, (q.1 ∈ pn ∨ q.1 ∈ tn.take j) ∧ 1 ≤ q.2 ∧ q.2 ≤ 4) ∧ p.sheet.length ≤ 5 ∧ 0 ≤ p.made ∧ p.made ≤ 3
theorem Drawn.nil (pn tn : List Str) : Drawn pn tn [] := ⟨rfl, fun j p h => by simp at h⟩
theorem Drawn.snoc {pn tn : List Str} {ks : List (Pk Str)} {p : Pk Str} (h : Drawn pn tn ks) (hn : tn[ks.length]? = some p.name) (h1 : ∀ q ∈ p.sheet, (q.1 ∈ pn ∨ q.1 ∈ tn.take ks.length) ∧ 1 ≤ q.2 ∧ q.2 ≤ 4) (h2 : p.sheet.length ≤ 5) (h3 : 0 ≤ p.made) (h4 : p.made ≤ 3) : Drawn pn tn (ks ++ [p]) := by
  refine ⟨?_, fun j q hq => ?_⟩
  · rw [List.map_append, List.length_append, List.length_singleton, take_next hn, h.names]; rfl
  · rcases Nat.lt_or_ge j ks.length with y | y
    · rw [List.getElem?_append_left y] at hq
      exact h.each j q hq
    · rw [List.getElem?_append_right y] at hq
      have ej : j = ks.length := by
        rcases Nat.lt_or_ge 0 (j - ks.length) with y2 | y2
        · rw [List.getElem?_eq_none (by rw [List.length_singleton]; exact y2)] at hq; cases hq
        · omega
      subst ej
      rw [Nat.sub_self] at hq
      have := Option.some.inj hq
      subst this
      exact ⟨h1, h2, h3, h4⟩
theorem idx_take {tn : List Str} {j : Nat} {x : Str} (h : x ∈ tn.take j) : tn.idxOf x < j := by
  have e : tn.idxOf x = (tn.take j ++ tn.drop j).idxOf x := by rw [List.take_append_drop]
  rw [e, List.idxOf_append, if_pos h]
  have := List.idxOf_lt_length_of_mem h
  rw [List.length_take] at this
  omega
theorem idx_at {tn : List Str} {j : Nat} {x : Str} (nd : tn.Nodup) (h : tn[j]? = some x) : tn.idxOf x = j := by
  have hj : j < tn.length := by
    rcases Nat.lt_or_ge j tn.length with y | y
    · exact y
    · rw [List.getElem?_eq_none y] at h; cases h
  rw [List.getElem?_eq_getElem hj] at h
  have hx : x ∈ tn := by rw [← Option.some.inj h]; exact List.getElem_mem hj
  have h2 := List.idxOf_lt_length_of_mem hx
  have e : tn[tn.idxOf x] = x := List.getElem_idxOf h2
  exact (List.getElem_inj (h₀ := h2) (h₁ := hj) nd).mp (e.trans (Option.some.inj h).symm)
theorem drawn_ok {l : List (Str × Int)} {tn : List Str} {ks : List (Pk Str)} (h : Drawn (l.map (·.1)) tn ks) (nd : (l.map (·.1) ++ tn).Nodup) (ok : ∀ z ∈ l.map (·.1) ++ tn, NameOk z) (hs : ∀ p ∈ l, 0 ≤ p.2) (hl : 1 ≤ l.length ∧ l.length ≤ 5) (hk : ks.length ≤ 5) : ShopOk ⟨l, ks⟩ := by
  rw [List.nodup_append] at nd
  obtain ⟨nd1, nd2, nd3⟩ := nd
  have hsub : ∀ x, x ∈ tn.take ks.length → x ∈ tn := fun x hx => List.mem_of_mem_take hx
  have hks : ∀ p ∈ ks, ∃ j, ks[j]? = some p ∧ tn[j]? = some p.name ∧ j < ks.length := fun p hp => by
    obtain ⟨j, hj⟩ := List.getElem?_of_mem hp
    have hjl : j < ks.length := by
      rcases Nat.lt_or_ge j ks.length with y | y
      · exact y
      · rw [List.getElem?_eq_none y] at hj; cases hj
    refine ⟨j, hj, ?_, hjl⟩
    have e : (ks.map (·.name))[j]? = some p.name := by rw [List.getElem?_map, hj]; rfl
    rw [h.names, List.getElem?_take, if_pos hjl] at e
    exact e
  have hnd : (ks.map (·.name)).Nodup := by rw [h.names]; exact nd2.sublist (List.take_sublist _ _)
  refine ⟨⟨fun x => if x ∈ tn then tn.idxOf x + 1 else 0, ⟨hnd, fun p hp q hq => ?_, fun p hp q hq => ?_⟩, fun p hp => ?_⟩, ?_, fun z hz => ?_, fun p hp q hq => ?_, fun p hp => ?_, hs, hl, hk, fun p hp => ?_, fun p hp q hq => ?_, fun p hp => ?_⟩
  · obtain ⟨j, h1, h2, h3⟩ := hks p hp
    have ht : p.name ∈ tn := List.mem_of_getElem? h2
    show (if q.1 ∈ tn then tn.idxOf q.1 + 1 else 0) < if p.name ∈ tn then tn.idxOf p.name + 1 else 0
    rw [if_pos ht, idx_at nd2 h2]
    rcases ((h.each j p h1).1 q hq).1 with z | z
    · rw [if_neg fun m => nd3 _ z _ m rfl]
      omega
    · rw [if_pos (List.mem_of_mem_take z)]
      have := idx_take z
      omega
  · obtain ⟨j, h1, _⟩ := hks p hp
    exact ((h.each j p h1).1 q hq).2.1
  · obtain ⟨j, h1, h2, h3⟩ := hks p hp
    have ht : p.name ∈ tn := List.mem_of_getElem? h2
    show 1 ≤ (if p.name ∈ tn then tn.idxOf p.name + 1 else 0) ∧ (if p.name ∈ tn then tn.idxOf p.name + 1 else 0) ≤ ks.length
    rw [if_pos ht, idx_at nd2 h2]
    omega
  · unfold arts
    rw [List.nodup_append]
    refine ⟨nd1, hnd, fun a ha b hb => nd3 a ha b (hsub b (by rw [← h.names]; exact hb))⟩
  · refine ok z ((List.mem_append.mp hz).elim (fun z => List.mem_append_left _ z) fun z => List.mem_append_right _ (hsub _ (by rw [← h.names]; exact z)))
  · obtain ⟨j, h1, h2, h3⟩ := hks p hp
    rcases ((h.each j p h1).1 q hq).1 with z | z
    · exact List.mem_append_left _ z
    · refine List.mem_append_right _ ?_
      show q.1 ∈ ks.map (·.name)
      rw [h.names]
      exact (List.take_sublist_take_left (by omega)).subset z
  · obtain ⟨j, h1, _⟩ := hks p hp
    exact (h.each j p h1).2.2.1
  · obtain ⟨j, h1, _⟩ := hks p hp
    exact (h.each j p h1).2.1
  · obtain ⟨j, h1, _⟩ := hks p hp
    exact ((h.each j p h1).1 q hq).2.2
  · obtain ⟨j, h1, _⟩ := hks p hp
    exact (h.each j p h1).2.2.2
theorem pks_alike (l : List (Pk Str)) : PySem.W.AllAlike (l.map pkD) := by
  have hp : ∀ x y : List (Str × Int), PySem.W.alikeAll (x.map pD) (y.map pD) = true := by
    intro x
    induction x with
    | nil => intro y; simp [PySem.W.alikeAll]
    | cons a x ih =>
      intro y
      cases y with
      | nil => simp [PySem.W.alikeAll]
      | cons b y => simp [PySem.W.alikeAll, pD, PySem.W.alike, ih y]
  intro d hd e he
  obtain ⟨x, _, rfl⟩ := List.mem_map.mp hd
  obtain ⟨y, _, rfl⟩ := List.mem_map.mp he
  simp [pkD, PySem.W.alike, PySem.W.alikeAll, hp]
theorem pks_sortable (l : List (Pk Str)) : PySem.W.Sortable (l.map pkD) := by
  refine .inl fun d hd => ?_
  obtain ⟨x, _, rfl⟩ := List.mem_map.mp hd
  exact ⟨_, _, rfl⟩
theorem pks_depth20 (l : List (Pk Str)) : ∀ d ∈ l.map pkD, d.depth ≤ 20 := by
  intro d hd
  obtain ⟨x, _, rfl⟩ := List.mem_map.mp hd
  have := pk_depth x
  omega
theorem take_drop_nodup {ts : List Str} (nd : ts.Nodup) {k d : Nat} (hk : k ≤ 8) : (ts.take k ++ (ts.drop 8).take d).Nodup := by
  rw [List.nodup_append]
  refine ⟨nd.sublist (List.take_sublist _ _), (nd.sublist (List.drop_sublist _ _)).sublist (List.take_sublist _ _), fun a ha b hb e => ?_⟩
  subst e
  have h1 : a ∈ ts.take 8 := (List.take_sublist_take_left hk).subset ha
  have h2 : a ∈ ts.drop 8 := List.mem_of_mem_take hb
  rw [← List.take_append_drop 8 ts, List.nodup_append] at nd
  exact nd.2.2 a h1 a h2 rfl
end K57
namespace K57
open PySem PySem.Spec PyProof.Rows L2
variable {P : Program} {w : World} {K : PySem.W.Frag} {mg : Str → Option Value} {base : Heap}
def sp_law_shop : Sp := fun vs H Q _ => ∃ (sp c : Addr), vs = [.ref sp, .int 0] ∧ Spr H sp c ∧ ∀ (t : Addr) (S : Shop) H', Kp sp H H' → Spr H' sp c → ShopAt H' t S → ShopOk S → Q (.ref t) H'
theorem nil_perm {α : Type} {zs : List α} (h : zs.Perm []) : zs = [] := List.Perm.eq_nil h
/-! ### law_shop: 0 _law_spring_here, 1 _law_most, 2 _law_tags_here, 3 _law_stocks, 4 _law_parts, 5 _law_tag, 6 _law_beneath, 7 _law_choices, 8 _law_packs, 9 _law_one, 10 _law_sheet_here, 11 _law_has_choice, 12 _law_each, 13 _law_is_open, 14 _law_store -/
abbrev N_law_shop : List Str := ["_law_spring_here", "_law_most", "_law_tags_here", "_law_stocks", "_law_parts", "_law_tag", "_law_beneath", "_law_choices", "_law_packs", "_law_one", "_law_sheet_here", "_law_has_choice", "_law_each", "_law_is_open", "_law_store"]
theorem sc_law_shop : FnScope N_law_shop ["_law_spring_here", "_law_most"] (defScope s_law_shop) := ⟨rfl, rfl, rfl, by decide +kernel, rfl, by decide +kernel, by decide +kernel⟩
theorem ok_law_shop (T : Tx K mg) : OkF P w K mg base "_law_shop" 4 ["_law_spring_here", "_law_most"] [] sp_law_shop := by
  have O_law_tags : OkF P w K mg base "_law_tags" 3 ["_law_spring_here"] [] sp_law_tags := ok_law_tags T
  have O_law_pick : OkF P w K mg base "_law_pick" 2 ["_law_spring_here", "_law_some_here"] [] sp_law_pick := ok_law_pick T
  have O_law_sheet : OkF P w K mg base "_law_sheet" 3 ["_law_spring_here", "_law_names"] [] sp_law_sheet := ok_law_sheet T
  have O_law_bare : OkF P w K mg base "_law_bare" 1 ["_law_store"] [] sp_law_bare := ok_law_bare T
  have O_law_worth : OkF P w K mg base "_law_worth" 3 ["_law_store"] [] sp_law_worth := ok_law_worth T
  have O_law_dip : OkF P w K mg base "_law_dip" 1 ["_law_spring_here", "_law_many"] [] sp_law_dip := ok_law_dip T
  have O_law_some : OkF P w K mg base "_law_some" 2 ["_law_spring_here", "_law_names", "_law_least"] [] sp_law_some := ok_law_some T
  refine okF_mk d_law_shop T (fn_mem 37 rfl) rfl rfl sc_law_shop (fun _ _ _ _ _ _ us hl => match us, hl with | [_, _], _ => rfl) (fun vs H Q E h => ?_) (fun f cdv A outer s H vs Q E hr h => ?_)
  · first | (obtain ⟨_, rfl, _⟩ := h; rfl) | (obtain ⟨_, _, rfl, _⟩ := h; rfl) | (obtain ⟨_, _, _, rfl, _⟩ := h; rfl) | (obtain ⟨_, _, _, _, rfl, _⟩ := h; rfl) | (obtain ⟨_, _, _, _, _, rfl, _⟩ := h; rfl) | (obtain ⟨_, _, _, _, _, _, rfl, _⟩ := h; rfl) | (obtain ⟨_, _, _, _, _, _, _, rfl, _⟩ := h; rfl)
  · have hu := hu_of hr
    have hu65 := hu65_of hr
    refine ⟨_, (pss_cons (ps_asg (pe_tupN (pa_cons (pe_callO O_law_tags hr (pa_cons (pv 0) pa_nil)) (pa_cons (pe_callO O_law_pick hr (pa_cons (pv 0) (pa_cons (pe_lstN (pa_cons (pe_lstN (pa_cons pe_int (pa_cons pe_int (pa_cons pe_int pa_nil)))) (pa_cons (pe_lstN (pa_cons pe_int (pa_cons pe_int (pa_cons pe_int (pa_cons pe_int (pa_cons pe_int (pa_cons pe_int pa_nil))))))) (pa_cons (pe_lstN (pa_cons pe_int (pa_cons pe_int (pa_cons pe_int (pa_cons pe_int pa_nil))))) (pa_cons (pe_lstN (pa_cons pe_int (pa_cons pe_int (pa_cons pe_int pa_nil)))) pa_nil))))) pa_nil))) pa_nil))) (pg_tupN rfl (pgs_cons (pg_name (i := 2) sc_law_shop.nd rfl (by first | exact Or.inl rfl | exact Or.inr rfl)) (pgs_cons (pg_name (i := 3) sc_law_shop.nd rfl (by first | exact Or.inl rfl | exact Or.inr rfl)) pgs_nil))))
      (pss_cons (ps_setLc (i := 4) (own := [("_law_tag", 5)]) (g := (gName 5)) (tt := tYes) rfl sc_law_shop.nd rfl rfl (sw_true rfl rfl rfl (by decide +kernel)) (pi_lstN (pe_slice sl_listN (pv 2) po_none (po_some (pe_op op_add pe_int (pe_callO O_law_dip hr (pa_cons (pv 0) (pa_cons pe_int pa_nil))))))) (blkOk_by (N := N_law_shop) (sc := (defScope s_law_shop)) (own := [("_law_tag", 5)]) (by decide +kernel)) (fun _ _ _ _ _ => (pg_name (i := 5) sc_law_shop.nd rfl (by first | exact Or.inl rfl | exact Or.inr rfl))) (fun _ _ _ _ _ => pts_nil) (fun _ _ _ _ _ => (pe_tupN (pa_cons (pv 5) (pa_cons (pe_callO O_law_pick hr (pa_cons (pv 0) (pa_cons (pv 3) pa_nil))) pa_nil)))))
      (pss_cons (ps_asg (pe_tupN (pa_cons (pe_lc (own := [("_law_one", 9)]) (g := (gName 9)) (tt := tYes) rfl sc_law_shop.nd (pi_lstN (pv 4)) (blkOk_by (N := N_law_shop) (sc := (defScope s_law_shop)) (own := [("_law_one", 9)]) (by decide +kernel)) (fun _ _ _ _ _ => (pg_name (i := 9) sc_law_shop.nd rfl (by first | exact Or.inl rfl | exact Or.inr rfl))) (fun _ _ _ _ _ => pts_nil) (fun _ _ _ _ _ => (pe_ix ix_tupN (pv 9) pe_int (fun _ _ => rfl)))) (pa_cons (pe_lstN pa_nil) (pa_cons (pe_lstN pa_nil) pa_nil)))) (pg_tupN rfl (pgs_cons (pg_name (i := 6) sc_law_shop.nd rfl (by first | exact Or.inl rfl | exact Or.inr rfl)) (pgs_cons (pg_name (i := 7) sc_law_shop.nd rfl (by first | exact Or.inl rfl | exact Or.inr rfl)) (pgs_cons (pg_name (i := 8) sc_law_shop.nd rfl (by first | exact Or.inl rfl | exact Or.inr rfl)) pgs_nil)))))
      (pss_cons (ps_if (pt_cmpR op_gt (pe_callB call_len_seqN (by rfl) T.m_len b_len (pa_cons (pv 4) pa_nil)) pe_int (by first | exact nomark _ | rfl))
        (pss_one (ps_for PassesOwn.never rfl (pi_lstN (pe_slice sl_listN (pv 2) (po_some pe_int) (po_some (pe_op op_add pe_int (pe_callO O_law_dip hr (pa_cons (pv 0) (pa_cons (pe_op op_add (pv 1) pe_int) pa_nil))))))) (pg_name (i := 5) sc_law_shop.nd rfl (by first | exact Or.inl rfl | exact Or.inr rfl))
          (pss_one (ps_expr (pe_bm PySem.F.plainAttrs_list PySem.F.slot_list_append PySem.F.type_list_append mt_appendN (pv 7) (pa_cons (pe_tupN (pa_cons (pv 5) (pa_cons (pe_callTy call_tuple_ofN (by rfl) T.m_tuple b_tuple (pa_cons (pe_callB (cr_sortN hu65) (by rfl) T.m_sorted b_sorted (pa_cons (pe_callO O_law_some hr (pa_cons (pv 0) (pa_cons (pe_lc (own := [("_law_one", 9)]) (g := (gName 9)) (tt := tYes) rfl sc_law_shop.nd (pi_lstN (pv 4)) (blkOk_by (N := N_law_shop) (sc := (defScope s_law_shop)) (own := [("_law_one", 9)]) (by decide +kernel)) (fun _ _ _ _ _ => (pg_name (i := 9) sc_law_shop.nd rfl (by first | exact Or.inl rfl | exact Or.inr rfl))) (fun _ _ _ _ _ => pts_nil) (fun _ _ _ _ _ => (pe_ix ix_tupN (pv 9) pe_int (fun _ _ => rfl)))) (pa_cons pe_int pa_nil)))) pa_nil)) pa_nil)) pa_nil))) pa_nil)))))) pss_nil)
      (pss_cons (ps_set (i := 6) sc_law_shop.nd rfl (by first | exact Or.inl rfl | exact Or.inr rfl) (pe_op op_catN (pv 6) (pe_lc (own := [("_law_one", 9)]) (g := (gName 9)) (tt := tYes) rfl sc_law_shop.nd (pi_lstN (pv 7)) (blkOk_by (N := N_law_shop) (sc := (defScope s_law_shop)) (own := [("_law_one", 9)]) (by decide +kernel)) (fun _ _ _ _ _ => (pg_name (i := 9) sc_law_shop.nd rfl (by first | exact Or.inl rfl | exact Or.inr rfl))) (fun _ _ _ _ _ => pts_nil) (fun _ _ _ _ _ => (pe_ix ix_tupN (pv 9) pe_int (fun _ _ => rfl))))))
      (pss_cons (ps_for PassesOwn.never rfl (pi_lstN (pe_slice sl_listN (pv 2) (po_some pe_int) (po_some (pe_op op_add pe_int (pe_callO O_law_dip hr (pa_cons (pv 0) (pa_cons pe_int pa_nil))))))) (pg_name (i := 5) sc_law_shop.nd rfl (by first | exact Or.inl rfl | exact Or.inr rfl))
        (pss_cons (ps_set (i := 10) sc_law_shop.nd rfl (by first | exact Or.inl rfl | exact Or.inr rfl) (pe_callO O_law_sheet hr (pa_cons (pv 0) (pa_cons (pv 6) pa_nil))))
        (pss_cons (ps_set (i := 11) sc_law_shop.nd rfl (by first | exact Or.inl rfl | exact Or.inr rfl) (pe_cmpR (op_neN hu65) (pe_lc (own := [("_law_one", 9)]) (g := (gName 9)) rfl sc_law_shop.nd (pi_tupN (pv 10)) (blkOk_by (N := N_law_shop) (sc := (defScope s_law_shop)) (own := [("_law_one", 9)]) (by decide +kernel)) (fun _ _ _ _ _ => (pg_name (i := 9) sc_law_shop.nd rfl (by first | exact Or.inl rfl | exact Or.inr rfl))) (fun _ _ _ _ _ => pts_one (pt_cmpR op_inN (pe_ix ix_tupN (pv 9) pe_int (fun _ _ => rfl)) (pe_lc (own := [("_law_each", 12)]) (g := (gName 12)) (tt := tYes) rfl sc_law_shop.nd (pi_lstN (pv 7)) (blkOk_by (N := N_law_shop) (sc := (relS _ (defScope s_law_shop))) (own := [("_law_each", 12)]) (by decide +kernel)) (fun _ _ _ _ _ => (pg_name (i := 12) sc_law_shop.nd rfl (by first | exact Or.inl rfl | exact Or.inr rfl))) (fun _ _ _ _ _ => pts_nil) (fun _ _ _ _ _ => (pe_ix ix_tupN (pv 12) pe_int (fun _ _ => rfl)))) (by first | exact nomark _ | rfl))) (fun _ _ _ _ _ => (pv 9))) (pe_lstN pa_nil) (by first | exact nomark _ | rfl)))
        (pss_cons (ps_set (i := 13) sc_law_shop.nd rfl (by first | exact Or.inl rfl | exact Or.inr rfl) (pe_and (pe_not (pv 11)) (pe_one (pe_cmpR op_eq (pe_callO O_law_dip hr (pa_cons (pv 0) (pa_cons pe_int pa_nil))) pe_int (by first | exact nomark _ | rfl)))))
        (pss_cons (ps_expr (pe_bm PySem.F.plainAttrs_list PySem.F.slot_list_append PySem.F.type_list_append mt_appendN (pv 8) (pa_cons (pe_tupN (pa_cons (pv 5) (pa_cons (pe_callO O_law_pick hr (pa_cons (pv 0) (pa_cons (pe_lstN (pa_cons pe_int (pa_cons pe_int (pa_cons pe_int (pa_cons pe_int (pa_cons pe_int (pa_cons pe_int pa_nil))))))) pa_nil))) (pa_cons (pv 13) (pa_cons (pv 10) pa_nil))))) pa_nil)))
        (pss_one (ps_set (i := 6) sc_law_shop.nd rfl (by first | exact Or.inl rfl | exact Or.inr rfl) (pe_op op_catN (pv 6) (pe_lstN (pa_cons (pv 5) pa_nil))))))))))
      (pss_cons (ps_set (i := 14) sc_law_shop.nd rfl (by first | exact Or.inl rfl | exact Or.inr rfl) (pe_tupN (pa_cons (pe_callTy call_tuple_ofN (by rfl) T.m_tuple b_tuple (pa_cons (pe_callB (cr_sortN hu65) (by rfl) T.m_sorted b_sorted (pa_cons (pv 4) pa_nil)) pa_nil)) (pa_cons (pe_callTy call_tuple_ofN (by rfl) T.m_tuple b_tuple (pa_cons (pe_callB (cr_sortN hu65) (by rfl) T.m_sorted b_sorted (pa_cons (pv 7) pa_nil)) pa_nil)) (pa_cons (pe_callTy call_tuple_ofN (by rfl) T.m_tuple b_tuple (pa_cons (pe_callB (cr_sortN hu65) (by rfl) T.m_sorted b_sorted (pa_cons (pv 8) pa_nil)) pa_nil)) pa_nil)))))
      (pss_one (ps_ret (pe_ifExp (pt_cmpR op_le (pe_callO O_law_worth hr (pa_cons (pv 14) pa_nil)) pe_int (by first | exact nomark _ | rfl)) (pv 14) (pe_callO O_law_bare hr (pa_cons (pv 14) pa_nil)))))))))))), ?_⟩
    obtain ⟨sp, c, rfl, hs, q⟩ := h
    refine ⟨_, rfl, sp, c, rfl, hs, fun ts a H1 tl tnd tok k1 hs1 ha1 => ?_⟩
    refine ⟨_, rfl, show 3 ≤ sizeLine by decide, fun b1 H2 n2 => ?_⟩
    refine ⟨show 6 ≤ sizeLine by decide, fun b2 H3 n3 => ?_⟩
    refine ⟨show 4 ≤ sizeLine by decide, fun b3 H4 n4 => ?_⟩
    refine ⟨show 3 ≤ sizeLine by decide, fun b4 H5 n5 => ?_⟩
    refine ⟨show 4 ≤ sizeLine by decide, fun b5 H6 n6 => ?_⟩
    have s16 := n2.same.trans (n3.same.trans (n4.same.trans (n5.same.trans n6.same)))
    have hs6 := hs1.sm s16
    have e1 := n6.same _ _ (n5.same _ _ (n4.same _ _ (n3.same _ _ n2.at_)))
    have e2 := n6.same _ _ (n5.same _ _ (n4.same _ _ n3.at_))
    have e3 := n6.same _ _ (n5.same _ _ n4.at_)
    have e4 := n6.same _ _ n5.at_
    refine ⟨sp, c, b5, _, rfl, hs6, n6.at_, show 0 < 4 by decide, show 4 ≤ 1000 by decide, fun v H7 hv k7 hs7 => ?_⟩
    obtain ⟨b, is, rfl, hb6, his0, his1, hisn⟩ : ∃ (b : Addr) (is : List Int), v = .ref b ∧ H6 b = some (.lst (is.map V.int)) ∧ 0 < is.length ∧ is.length ≤ 6 ∧ ∀ i ∈ is, 0 ≤ i := by
      have hv : v = .ref b1 ∨ v = .ref b2 ∨ v = .ref b3 ∨ v = .ref b4 := by simpa using hv
      rcases hv with e | e | e | e
      · exact ⟨b1, [0, 1, 2], e, e1, by decide, by decide, by decide⟩
      · exact ⟨b2, [0, 1, 2, 3, 5, 8], e, e2, by decide, by decide, by decide⟩
      · exact ⟨b3, [2, 4, 7, 12], e, e3, by decide, by decide, by decide⟩
      · exact ⟨b4, [1, 3, 60], e, e4, by decide, by decide, by decide⟩
    refine ⟨sz2, fun t8 H8 n8 => ?_⟩
    refine ⟨t8, _, rfl, n8.at_, rfl, _, _, rfl, _, _, rfl, rfl, ?_⟩
    have k08 : Kp sp H H8 := ((k1.trans (kp_of s16)).trans k7).trans (kp_of n8.same)
    have hs8 := hs7.sm n8.same
    have ha6 := s16 _ _ ha1
    have ha8 : H8 a = some (.lst (ts.map V.str)) := n8.same _ _ (k7 _ _ (hs6.lst ha6) ha6)
    have hb8 : H8 b = some (.lst (is.map V.int)) := n8.same _ _ (k7 _ _ (hs6.lst hb6) hb6)
    -- parts
    refine ⟨_, rfl, _, rfl, sp, c, _, rfl, hs8, by decide, by decide, fun d H9 d0 d1 k9 hs9 => ?_⟩
    have ha9 := k9 _ _ (hs8.lst ha8) ha8
    obtain ⟨k, hk⟩ : ∃ k : Nat, 1 + d = (k : Int) := ⟨(1 + d).toNat, by omega⟩
    have hk1 : 1 ≤ k ∧ k ≤ 5 := by omega
    refine ⟨_, _, rfl, rfl, _, rfl, a, _, rfl, ha9, fun p10 H10 n10 => ?_⟩
    have h10 := n10.at_
    rw [hk, cut_upto, ← List.map_take] at h10
    have hs10 := hs9.sm n10.same
    have hb10 := n10.same _ _ (k9 _ _ (hs8.lst hb8) hb8)
    have hlk : (ts.take k).length = k := by rw [List.length_take]; omega
    refine ⟨p10, rfl, ⟨_, h10⟩, fun _ => lcLstK (xs := (ts.take k).map V.str) sp hs10.is h10 (hs10.lst h10) (by rw [List.length_map, hlk]; exact small1000 (by omega)) (fun i acc H => ∃ l : List (Str × Int), Paired (IsP H) acc l ∧ l.map (·.1) = (ts.take k).take i ∧ (∀ q ∈ l, 0 ≤ q.2) ∧ Spr H sp c)
      (fun i acc H H' D l0 hD k hDl el ⟨l, p1, p2, p3, p4⟩ => ⟨l, pimp (fun _ _ z => z.tk (else_tk hDl el)) p1, p2, p3, p4.else_ (hs10.ne hD) el⟩) (fun i acc H H' k s ⟨l, p1, p2, p3, p4⟩ => ⟨l, pimp (fun _ _ z => z.tk (tk_of s)) p1, p2, p3, p4.sm s⟩) ⟨[], .nil, rfl, (fun q hq => nomatch hq), hs10⟩
      (fun Ky i x acc H11 hx k11 ⟨l, p1, p2, p3, p4⟩ ky => ?_) (fun pa acc H11 hD11 k11 hA hlA ⟨l, p1, p2, p3, p4⟩ => ?_)⟩
    · rw [List.getElem?_map] at hx
      obtain ⟨z, hz, rfl⟩ := Option.map_eq_some_iff.mp hx
      have hb11 := k11 _ _ (hs10.lst hb10) hb10
      refine ⟨rfl, _, rfl, _, rfl, _, rfl, sp, c, b, _, rfl, p4, hb11, by rw [List.length_map]; exact his0, by rw [List.length_map]; omega, fun v H12 hv k12 hs12 => ?_⟩
      obtain ⟨n, hn, rfl⟩ := List.mem_map.mp hv
      refine ⟨sz2, fun p13 H13 n13 => ?_⟩
      have k13 : Kp sp H11 H13 := k12.trans (kp_of n13.same)
      refine ky _ _ k13 ⟨l ++ [(z, n)], papp (pimp (fun _ _ y => y.tk (p4.tk k13)) p1) (.cons ⟨p13, rfl, n13.at_⟩ .nil), ?_, fun q hq => (List.mem_append.mp hq).elim (p3 q) fun h => by rw [List.mem_singleton.mp h]; exact hisn n hn, hs12.sm n13.same⟩
      rw [List.map_append, p2, take_next hz]; rfl
    rw [List.length_map, hlk, show (ts.take k).take k = ts.take k from List.take_of_length_le (by omega)] at p2
    have hll : l.length = k := by rw [← List.length_map (f := (·.1)), p2, hlk]
    have hla := plen p1
    have k011 : Kp sp H H11 := ((k08.trans k9).trans (kp_of n10.same)).trans k11
    have ha11 := k11 _ _ (hs10.lst (n10.same _ _ ha9)) (n10.same _ _ ha9)
    -- beneath
    refine ⟨_, rfl, pa, rfl, ⟨_, hA⟩, fun _ => lcLstY hA (small1000 (by omega)) (fun i acc _ => acc = ((l.map (·.1)).take i).map V.str) (fun _ _ _ _ _ h => h) rfl (fun Ky i x acc H12 hx s12 g ky => ?_) (fun ba acc H12 hD12 s12 hA12 hl12 g => ?_)⟩
    · obtain ⟨z, hz, t12, rfl, ht12⟩ := pget p1 hx
      refine ⟨rfl, _, rfl, t12, _, _, _, rfl, rfl, s12 _ _ ht12, atI_nat (j := 0) rfl, ?_⟩
      refine ky _ _ (Same.refl _) ?_
      subst g
      rw [take_next (show (l.map (·.1))[i]? = some z.1 by rw [List.getElem?_map, hz]; rfl), List.map_append]; rfl
    rw [List.take_of_length_le (by rw [List.length_map]; omega)] at g
    subst g
    refine ⟨by decide, fun ca H13 n13 => ?_⟩
    refine ⟨by decide, fun ka H14 n14 => ?_⟩
    refine ⟨sz3, fun t15 H15 n15 => ?_⟩
    refine ⟨t15, _, rfl, n15.at_, rfl, _, _, rfl, _, _, rfl, _, _, rfl, rfl, ?_⟩
    have s1115 := s12.trans (n13.same.trans (n14.same.trans n15.same))
    have hba15 : H15 ba = some (.lst ((l.map (·.1)).map V.str)) := n15.same _ _ (n14.same _ _ (n13.same _ _ hA12))
    have hca15 : H15 ca = some (.lst []) := n15.same _ _ (n14.same _ _ n13.at_)
    have hka15 : H15 ka = some (.lst []) := n15.same _ _ n14.at_
    have hpa15 := s1115 _ _ hA
    have hs15 := p4.sm s1115
    have ha15 := s1115 _ _ ha11
    have k015 : Kp sp H H15 := k011.trans (kp_of s1115)
    have hk12 : H12 ka = none := none_same n13.same n14.none_
    have hka11 : H11 ka = none := none_same s12 hk12
    have hkane := p4.ne hka11
    have hka0 : H ka = none := none_kp k011 hka11 hkane.1
    have nca : ca ≠ ka := n14.ne n13.at_
    have nba : ba ≠ ka := n14.ne (n13.same _ _ hA12)
    have npa : pa ≠ ka := fun e => by rw [e, hka11] at hA; cases hA
    have naa : a ≠ ka := fun e => by rw [e, hka11] at ha11; cases ha11
    have p15 : Paired (IsP H15) acc l := pimp (fun _ _ z => z.tk (tk_of s1115)) p1
    -- choices
    refine ⟨_, rfl, pa, _, rfl, .inl hpa15, _, _, rfl, rfl, _, rfl, ?_⟩
    refine iteB (fun hb => ?_) (fun hb => ?_)
    refine ⟨_, rfl, 5, rfl, _, rfl, _, rfl, _, _, rfl, rfl, sp, c, _, rfl, hs15, by decide, by decide, fun d2 H16 e0 e1 k16 hs16 => ?_⟩
    have hd2 : d2 = 0 := by omega
    subst hd2
    have ha16 := k16 _ _ (hs15.lst ha15) ha15
    refine ⟨_, _, rfl, rfl, _, rfl, a, _, rfl, ha16, fun p17 H17 n17 => ?_⟩
    have h17 := n17.at_
    rw [show cutV (ts.map V.str) (some 5) (some (5 + 0)) = [] by rw [show cutV (ts.map V.str) (some 5) (some (5 + 0)) = _ from cut_from_to _ 5 5]; simp] at h17
    refine ⟨p17, rfl, ⟨_, h17⟩, fun _ => forL (fun i σ H' => σ = [some (.ref sp), some (.int 0), some (.ref a), some (.ref b), some (.ref pa), none, some (.ref ba), some (.ref ca), some (.ref ka), none, none, none, none, none, none] ∧ H' = H17) ⟨rfl, rfl⟩ (fun i σ H' _ h => by rw [h.2]; exact h17) (fun i x σ H' hx _ => by cases hx) (fun σ H' h => ?_)⟩
    obtain ⟨rfl, rfl⟩ := h
    have key : ∃ Hx, Hx = H' ∧ Kp sp H15 Hx ∧ Spr Hx sp c := ⟨H', rfl, k16.trans (kp_of n17.same), hs16.sm n17.same⟩
    clear h17 n17 ha16 k16 hs16 e0 e1
    rotate_left
    have key : ∃ Hx, Hx = H15 ∧ Kp sp H15 Hx ∧ Spr Hx sp c := ⟨H15, rfl, Kp.refl _ _, hs15⟩
    rotate_left
    all_goals
      obtain ⟨Hx, ex, kx, hsx⟩ := key
      rw [← ex]
      clear ex
      have hcax := kx _ _ (hs15.lst hca15) hca15
      have hbax := kx _ _ (hs15.lst hba15) hba15
      have hkax := kx _ _ (hs15.lst hka15) hka15
      have hpax := kx _ _ (hs15.lst hpa15) hpa15
      have hax := kx _ _ (hs15.lst ha15) ha15
      have px : Paired (IsP Hx) acc l := pimp (fun _ _ z => z.tk (hs15.tk kx)) p15
      have k0x : Kp sp H Hx := k015.trans kx
      refine ⟨_, rfl, _, rfl, ca, rfl, ⟨_, hcax⟩, fun _ => lcLstY hcax (by decide) (fun i acc _ => acc = []) (fun _ _ _ _ _ h => h) rfl (fun Ky i x acc H12 hx s12 g ky => by cases hx) (fun D acc0 H20 hD20 s20 hA20 _ g => ?_)⟩
      subst g
      refine ⟨ba, D, _, _, rfl, rfl, s20 _ _ hbax, hA20, by rw [List.length_map, List.length_map, hll]; exact Nat.le_of_lt (small1000 (by simp; omega)), fun bn H21 n21 => ?_⟩
      have hbn := n21.at_
      rw [List.append_nil] at hbn
      have s21 := s20.trans n21.same
      have hs21 := hsx.sm s21
      have hax21 := s21 _ _ hax
      -- packs
      refine ⟨_, rfl, 8, rfl, _, rfl, sp, c, _, rfl, hs21, by decide, by decide, fun d3 H22 f0 f1 k22 hs22 => ?_⟩
      obtain ⟨m, rfl⟩ : ∃ m : Nat, d3 = (m : Int) := ⟨d3.toNat, by omega⟩
      have ha22 := k22 _ _ (hs21.lst hax21) hax21
      refine ⟨_, _, rfl, rfl, _, rfl, a, _, rfl, ha22, fun p23 H23 n23 => ?_⟩
      have h23 := n23.at_
      rw [show cutV (ts.map V.str) (some 8) (some (8 + (m : Int))) = ((ts.drop 8).take m).map V.str by
        rw [show cutV (ts.map V.str) (some 8) (some (8 + (m : Int))) = _ from cut_from_to _ 8 (8 + m), ← List.map_drop, ← List.map_take, show 8 + m - 8 = m by omega]] at h23
      obtain ⟨tn, htn⟩ : ∃ tn, tn = (ts.drop 8).take m := ⟨_, rfl⟩
      rw [← htn] at h23
      have htl : tn.length ≤ 5 := by rw [htn, List.length_take]; omega
      have k23 : Kp sp Hx H23 := ((kp_of s21).trans k22).trans (kp_of n23.same)
      have hs23 := hs22.sm n23.same
      have hbn23 : H23 bn = some (.lst ((l.map (·.1)).map V.str)) := n23.same _ _ (k22 _ _ (hs21.lst hbn) hbn)
      have hka23 := k23 _ _ (hsx.lst hkax) hkax
      have hca23 := k23 _ _ (hsx.lst hcax) hcax
      have npk : p23 ≠ ka := (n23.ne (k22 _ _ (hs21.lst (s21 _ _ hkax)) (s21 _ _ hkax))).symm
      have nbk : bn ≠ ka := (n21.ne (s20 _ _ hkax)).symm
      have hnd : (l.map (·.1) ++ tn).Nodup := by rw [p2, htn]; exact take_drop_nodup tnd (by omega)
      refine ⟨p23, rfl, ⟨_, h23⟩, fun _ => forL (fun i σ H' => ∃ x5 bn x9 x10 x11 x12 x13 x14 xs ks, σ = [some (.ref sp), some (.int 0), some (.ref a), some (.ref b), some (.ref pa), x5, some (.ref bn), some (.ref ca), some (.ref ka), x9, x10, x11, x12, x13, x14] ∧ Kp2 sp ka H23 H' ∧ Spr H' sp c ∧ H' bn = some (.lst ((l.map (·.1) ++ tn.take i).map V.str)) ∧ bn ≠ ka ∧ H' ka = some (.lst xs) ∧ Paired (IsPk H') xs ks ∧ ks.length = i ∧ Drawn (l.map (·.1)) tn ks)
        ⟨_, bn, _, _, _, _, _, _, [], [], rfl, Kp2.refl _ _ _, hs23, by rw [List.take_zero, List.append_nil]; exact hbn23, nbk, hka23, .nil, rfl, Drawn.nil _ _⟩ (fun i σ H' _ ⟨_, _, _, _, _, _, _, _, _, _, _, k, _⟩ => k _ _ (hs23.lst h23) npk h23)
        (fun i x σ H' hx ⟨x5, bn', x9, x10, x11, x12, x13, x14, xs, ks, e, k24, hs24, hb24, nb24, hk24, hp24, hi24, hd24⟩ => ?_) (fun σ H' ⟨x5, bn', x9, x10, x11, x12, x13, x14, xs, ks, e, k24, hs24, hb24, nb24, hk24, hp24, hi24, hd24⟩ => ?_)⟩
      · subst e
        rw [List.getElem?_map] at hx
        obtain ⟨z, hz, rfl⟩ := Option.map_eq_some_iff.mp hx
        have hit : i < tn.length := by
          rcases Nat.lt_or_ge i tn.length with y | y
          · exact y
          · rw [List.getElem?_eq_none y] at hz; cases hz
        have hlx := plen hp24
        have hlen : (l.map (·.1) ++ tn.take i).length = k + i := by rw [List.length_append, List.length_map, hll, List.length_take]; omega
        refine ⟨_, rfl, _, rfl, sp, c, bn', _, rfl, hs24, hb24, by omega, by omega, fun sh ps H25 hrow hsh hshl k25 hs25 => ?_⟩
        obtain ⟨ws, hws, hwp⟩ := id hrow
        have hlw := plen hwp
        have hca24 := k24 _ _ (hs23.lst hca23) nca hca23
        have hca25 := k25 _ _ (hs24.lst hca24) hca24
        refine ⟨_, rfl, ps, rfl, ⟨_, hws⟩, fun _ => lcTup hws (small1000 (by omega)) (fun i acc _ => acc = []) (fun _ _ _ _ _ h => h) rfl (fun Ky Kn j x acc0 H26 hx s26 g ky kn => ?_) (fun D3 acc0 H26 hD26 s26 hA26 _ g => ?_)⟩
        · obtain ⟨w, hw, t26, rfl, ht26⟩ := pget hwp hx
          refine ⟨rfl, _, rfl, t26, _, _, _, rfl, rfl, s26 _ _ ht26, atI_nat (j := 0) rfl, _, rfl, ca, rfl, ⟨_, s26 _ _ hca25⟩, fun _ => lcLstY (s26 _ _ hca25) (by decide) (fun i acc _ => acc = []) (fun _ _ _ _ _ h => h) rfl (fun Ky i x acc H12 hx s12 g ky => by cases hx) (fun D4 acc4 H27 hD27 s27 hA27 _ g4 => ?_)⟩
          subst g4
          refine ⟨w.1, D4, [], rfl, rfl, hA27, _, rfl, ?_⟩
          refine iteB (fun hb => absurd hb (by simp)) (fun hb => ?_)
          exact kn _ s27 g
        subst g
        refine ⟨by decide, fun p27 H27 n27 => ?_⟩
        refine ⟨.list [], .list [], .lst (n27.same _ _ hA26) .nil, .lst n27.at_ .nil, by decide, by decide, ?_⟩
        have s27 := s26.trans n27.same
        have hs27 := hs25.sm s27
        refine ⟨_, rfl, _, rfl, true, rfl, iteT ?_⟩
        refine ⟨_, rfl, sp, c, _, rfl, hs27, by decide, by decide, fun n H28 _ _ k28 hs28 => ?_⟩
        refine ⟨rfl, ?_⟩
        have k2428 : Kp sp H' H28 := (k25.trans (kp_of s27)).trans k28
        have hk28 := k2428 _ _ hkane.1 hk24
        have hp28 : Paired (IsPk H28) xs ks := pimp (fun _ _ z => z.tk (hs24.tk k2428)) hp24
        refine ⟨_, rfl, .inl ⟨rfl, _, SqL.of hk28⟩, _, rfl, _, rfl, show 6 ≤ sizeLine by decide, fun p29 H29 n29 => ?_⟩
        refine ⟨sp, c, p29, _, rfl, hs28.sm n29.same, n29.at_, show 0 < 6 by decide, show 6 ≤ 1000 by decide, fun v H30 hv k30 hs30 => ?_⟩
        obtain ⟨mk, rfl, m0, m3⟩ : ∃ mk : Int, v = .int mk ∧ 0 ≤ mk ∧ mk ≤ 3 := by
          have hv : v = .int 0 ∨ v = .int 1 ∨ v = .int 2 ∨ v = .int 3 := by simpa using hv
          rcases hv with e | e | e | e
          · exact ⟨0, e, by decide, by decide⟩
          · exact ⟨1, e, by decide, by decide⟩
          · exact ⟨2, e, by decide, by decide⟩
          · exact ⟨3, e, by decide, by decide⟩
        refine ⟨_, rfl, _, rfl, sz4, fun p31 H31 n31 => ?_⟩
        have k2831 : Kp sp H28 H31 := ((kp_of n29.same).trans k30).trans (kp_of n31.same)
        have hk31 := k2831 _ _ hkane.1 hk28
        have k2431 : Kp sp H' H31 := k2428.trans k2831
        have hs31 := hs30.sm n31.same
        refine ⟨ka, _, _, rfl, rfl, hk31, small1000 (by omega), fun H32 m32 => ?_⟩
        have tk32 : Tk H31 H32 := m32.tk hk31 fun _ z => by cases z
        have hs32 := hs31.md m32 hkane.1 hkane.2
        have hb32 : H32 bn' = some (.lst ((l.map (·.1) ++ tn.take i).map V.str)) := by rw [m32.else_ _ nb24]; exact k2431 _ _ (hs24.lst hb24) hb24
        refine ⟨_, rfl, _, rfl, show 1 ≤ sizeLine by decide, fun p33 H33 n33 => ?_⟩
        refine ⟨bn', p33, _, _, rfl, rfl, n33.same _ _ hb32, n33.at_, by rw [List.length_map, hlen]; exact Nat.le_of_lt (small1000 (by simp; omega)), fun bn2 H34 n34 => ?_⟩
        have s3234 := n33.same.trans n34.same
        have tk31 : Tk H25 H31 := fun b xs hb => k2831 b _ (hs28.tup (k28 b _ (hs27.tup (s27 b _ hb)) (s27 b _ hb))) (k28 b _ (hs27.tup (s27 b _ hb)) (s27 b _ hb))
        refine ⟨_, bn2, _, _, _, _, _, _, xs ++ [.ref p31], ks ++ [⟨z, mk, decide (V.int n = V.int 0), sh⟩], rfl, fun b o n1 n2 hb => s3234 _ _ (by rw [m32.else_ b n2]; exact k2431 b o n1 (k24 b o n1 n2 hb)), hs32.sm s3234, ?_, (n34.ne (n33.same _ _ m32.at_)).symm, s3234 _ _ m32.at_, papp (pimp (fun _ _ y => ((y.tk (hs28.tk k2831)).tk tk32).tk (tk_of s3234)) hp28) (.cons ⟨p31, ps, ws, rfl, s3234 _ _ (tk32 _ _ n31.at_), s3234 _ _ (tk32 _ _ (tk31 _ _ hws)), pimp (fun _ _ y => ((y.tk tk31).tk tk32).tk (tk_of s3234)) hwp⟩ .nil), by rw [List.length_append, hi24]; rfl, hd24.snoc (by rw [hi24]; exact hz) (fun q hq => ?_) hshl m0 m3⟩
        · rw [n34.at_, take_next hz, ← List.append_assoc, List.map_append (l₂ := [z])]; rfl
        · rw [hi24]
          exact ⟨List.mem_append.mp (hsh q hq).1, (hsh q hq).2⟩
      · subst e
        rw [List.length_map] at hi24
        have k0e : Kp sp H H' := k24.kp (k0x.trans k23) hka0
        have hpa23 := k23 _ _ (hsx.lst hpax) hpax
        have hpaE := k24 _ _ (hs23.lst hpa23) npa hpa23
        have hca23 := k23 _ _ (hsx.lst hcax) hcax
        have hcaE := k24 _ _ (hs23.lst hca23) nca hca23
        have tkE : Tk H23 H' := fun b xs hb => k24 b _ (hs23.tup hb) (fun e => by rw [e, hka23] at hb; cases hb) hb
        have pE : Paired (IsP H') acc l := pimp (fun _ _ z => (z.tk (hsx.tk k23)).tk tkE) px
        have hok0 : ShopOk ⟨l, ks⟩ := drawn_ok hd24 hnd (fun z hz => tok z (by
          rw [p2, htn] at hz
          rcases List.mem_append.mp hz with h | h
          · exact List.mem_of_mem_take h
          · exact List.mem_of_mem_drop (List.mem_of_mem_take h))) p3 (by omega) (by omega)
        refine ⟨_, rfl, pa, _, l.map pD, rfl, hpaE, pmap pD (fun _ _ y => y.dt) pE, pairs_alike l, pairs_sortable l, pairs_depth l, fun zs p40 H40 z1 z2 n40 => ?_⟩
        obtain ⟨ws, w1, w2, _⟩ := sorted_of (d := pD) pE z1 z2
        refine ⟨p40, _, rfl, n40.at_, fun a41 H41 n41 => ?_⟩
        have s41 := n40.same.trans n41.same
        refine ⟨_, rfl, ca, [], [], rfl, s41 _ _ hcaE, .nil, (fun d hd => (nomatch hd)), .inr (fun d hd => (nomatch hd)), (fun d hd => (nomatch hd)), fun zs2 p42 H42 y1 y2 n42 => ?_⟩
        rw [show zs2 = [] from nil_perm y1] at n42
        refine ⟨p42, _, rfl, n42.at_, fun a43 H43 n43 => ?_⟩
        have s43 := s41.trans (n42.same.trans n43.same)
        have hp43 : Paired (IsPk H43) xs ks := pimp (fun _ _ z => z.tk (tk_of s43)) hp24
        refine ⟨_, rfl, ka, _, ks.map pkD, rfl, s43 _ _ hk24, pmap pkD (fun _ _ y => y.dt) hp43, pks_alike ks, pks_sortable ks, pks_depth20 ks, fun zs3 p44 H44 v1 v2 n44 => ?_⟩
        obtain ⟨wk, u1, u2, _⟩ := sorted_of (d := pkD) hp43 v1 v2
        refine ⟨p44, _, rfl, n44.at_, fun a45 H45 n45 => ?_⟩
        refine ⟨sz3, fun t46 H46 n46 => ?_⟩
        have s4346 := n44.same.trans (n45.same.trans n46.same)
        have s46 := s43.trans s4346
        have s4146 := (n42.same.trans n43.same).trans s4346
        have hS : ShopAt H46 t46 ⟨ws, wk⟩ := ⟨a41, a43, a45, _, _, n46.at_, s4146 _ _ n41.at_, pimp (fun _ _ z => z.tk (tk_of s46)) w2, s4346 _ _ n43.at_, n46.same _ _ n45.at_, pimp (fun _ _ z => z.tk (tk_of s4346)) u2⟩
        have hokS : ShopOk ⟨ws, wk⟩ := hok0.perm w1 u1
        refine ⟨_, rfl, t46, _, rfl, hS, hokS, fun n H47 s47 => ?_⟩
        have hs47 := hs24.sm (s46.trans s47)
        have k047 : Kp sp H H47 := k0e.trans (kp_of (s46.trans s47))
        refine ⟨_, _, rfl, rfl, _, rfl, ?_⟩
        refine iteB (fun hb => ?_) (fun hb => ?_)
        · exact ⟨_, rfl, q t46 _ H47 k047 hs47 (hS.tk (tk_of s47)) hokS⟩
        · refine ⟨_, rfl, t46, _, rfl, hS.tk (tk_of s47), by have := hokS.nk; omega, fun p H48 s48 hS48 => ?_⟩
          exact q p _ H48 (k047.trans (kp_of s48)) (hs47.sm s48) hS48 hokS.bare
end K57
namespace K57
open PySem PySem.Spec PyProof.Rows L2
variable {P : Program} {w : World} {K : PySem.W.Frag} {mg : Str → Option Value} {base : Heap}
theorem call_dictN {X : Cx} (hc : X.calm = true) : CallR X (.type "dict") (fun xs H Q => ∃ (a : Addr) (ps : List Addr) (kvs : List (Key × V)), xs = [.ref a] ∧ H a = some (.lst (ps.map V.ref)) ∧ Paired (fun p kv => H p = some (.tup [kV kv.1, kv.2])) ps kvs ∧
    ∀ p H2, New H p (.dK (mergeK [] kvs)) H2 → Q (.ref p) H2) :=
  CallR.imp (call_dictP hc) fun _ _ _ ⟨a, ps, kvs, e, h, hp, q⟩ => ⟨a, ps, kvs, e, SqL.of h, Paired.mapP hp fun p kv h => SqT.of h, fun p np => q p _ (new_upd np)⟩
theorem arts_len {S : Shop} (hok : ShopOk S) : (arts S).length ≤ 10 := by
  unfold arts
  rw [List.length_append, List.length_map, List.length_map]
  have := hok.np
  have := hok.nk
  omega
def sp_law_articles : Sp := fun vs H Q _ => ∃ (t : Addr) (S : Shop), vs = [.ref t] ∧ ShopAt H t S ∧ ShopOk S ∧ ∀ (ns : List Str) p H', ns.Pairwise ltS → ns.Perm (arts S) → New H p (.lst (ns.map V.str)) H' → Q (.ref p) H'
/-! ### law_articles: 0 _law_store, 1 _law_one -/
abbrev N_law_articles : List Str := ["_law_store", "_law_one"]
theorem sc_law_articles : FnScope N_law_articles ["_law_store"] (defScope s_law_articles) := ⟨rfl, rfl, rfl, by decide +kernel, rfl, by decide +kernel, by decide +kernel⟩
theorem ok_law_articles (T : Tx K mg) : OkF P w K mg base "_law_articles" 1 ["_law_store"] [] sp_law_articles := by
  refine okF_mk d_law_articles T (fn_mem 42 rfl) rfl rfl sc_law_articles (fun _ _ _ _ _ _ us hl => match us, hl with | [_], _ => rfl) (fun vs H Q E h => ?_) (fun f cdv A outer s H vs Q E hr h => ?_)
  · first | (obtain ⟨_, rfl, _⟩ := h; rfl) | (obtain ⟨_, _, rfl, _⟩ := h; rfl) | (obtain ⟨_, _, _, rfl, _⟩ := h; rfl) | (obtain ⟨_, _, _, _, rfl, _⟩ := h; rfl) | (obtain ⟨_, _, _, _, _, rfl, _⟩ := h; rfl) | (obtain ⟨_, _, _, _, _, _, rfl, _⟩ := h; rfl) | (obtain ⟨_, _, _, _, _, _, _, rfl, _⟩ := h; rfl)
  · have hu := hu_of hr
    have hu65 := hu65_of hr
    refine ⟨_, (pss_one (ps_ret (pe_callB (cr_sortN hu65) (by rfl) T.m_sorted b_sorted (pa_cons (pe_op op_catN (pe_lc (own := [("_law_one", 1)]) (g := (gName 1)) (tt := tYes) rfl sc_law_articles.nd (pi_tupN (pe_ix ix_tupN (pv 0) pe_int (fun _ _ => rfl))) (blkOk_by (N := N_law_articles) (sc := (defScope s_law_articles)) (own := [("_law_one", 1)]) (by decide +kernel)) (fun _ _ _ _ _ => (pg_name (i := 1) sc_law_articles.nd rfl (by first | exact Or.inl rfl | exact Or.inr rfl))) (fun _ _ _ _ _ => pts_nil) (fun _ _ _ _ _ => (pe_ix ix_tupN (pv 1) pe_int (fun _ _ => rfl)))) (pe_lc (own := [("_law_one", 1)]) (g := (gName 1)) (tt := tYes) rfl sc_law_articles.nd (pi_tupN (pe_ix ix_tupN (pv 0) pe_int (fun _ _ => rfl))) (blkOk_by (N := N_law_articles) (sc := (defScope s_law_articles)) (own := [("_law_one", 1)]) (by decide +kernel)) (fun _ _ _ _ _ => (pg_name (i := 1) sc_law_articles.nd rfl (by first | exact Or.inl rfl | exact Or.inr rfl))) (fun _ _ _ _ _ => pts_nil) (fun _ _ _ _ _ => (pe_ix ix_tupN (pv 1) pe_int (fun _ _ => rfl))))) pa_nil)))), ?_⟩
    obtain ⟨t, S, rfl, hS, hok, q⟩ := h
    obtain ⟨pa, pb, pc, xs, ys, k1, k2, k3, k4, k5, k6⟩ := hS.ex
    have hnk := hok.nk
    have hnp := hok.np
    have hlx := plen k3
    have hly := plen k6
    refine ⟨_, rfl, t, _, _, _, rfl, rfl, k1, atI_nat (j := 0) rfl, pa, rfl, ⟨_, k2⟩, fun _ => lcTupY k2 (small1000 (by omega)) (fun i acc _ => acc = ((S.parts.map (·.1)).take i).map V.str) (fun _ _ _ _ _ h => h) rfl (fun Ky i x acc H1 hx s1 g ky => ?_) (fun D acc H1 hD s1 hA _ g => ?_)⟩
    · obtain ⟨p, hp, t2, rfl, ht2⟩ := pget k3 hx
      refine ⟨rfl, _, rfl, t2, _, _, _, rfl, rfl, s1 _ _ ht2, atI_nat (j := 0) rfl, ?_⟩
      refine ky _ _ (Same.refl _) ?_
      subst g
      rw [take_next (show (S.parts.map (·.1))[i]? = some p.1 by rw [List.getElem?_map, hp]; rfl), List.map_append]; rfl
    rw [List.take_of_length_le (by rw [List.length_map]; omega)] at g
    subst g
    refine ⟨_, rfl, t, _, _, _, rfl, rfl, s1 _ _ k1, atI_nat (j := 2) rfl, pc, rfl, ⟨_, s1 _ _ k5⟩, fun _ => lcTupY (s1 _ _ k5) (small1000 (by omega)) (fun i acc _ => acc = ((S.packs.map (·.name)).take i).map V.str) (fun _ _ _ _ _ h => h) rfl (fun Ky i x acc H2 hx s2 g ky => ?_) (fun D2 acc H2 hD2 s2 hA2 _ g => ?_)⟩
    · obtain ⟨p, hp, t2, u, zs, rfl, ht2, _⟩ := pget k6 hx
      refine ⟨rfl, _, rfl, t2, _, _, _, rfl, rfl, s2 _ _ (s1 _ _ ht2), atI_nat (j := 0) rfl, ?_⟩
      refine ky _ _ (Same.refl _) ?_
      subst g
      rw [take_next (show (S.packs.map (·.name))[i]? = some p.name by rw [List.getElem?_map, hp]; rfl), List.map_append]; rfl
    rw [List.take_of_length_le (by rw [List.length_map]; omega)] at g
    subst g
    refine ⟨D, D2, _, _, rfl, rfl, s2 _ _ hA, hA2, by rw [List.length_map, List.length_map, List.length_map, List.length_map]; exact Nat.le_of_lt (small1000 (by omega)), fun p3 H3 n3 => ?_⟩
    have h3 := n3.at_
    rw [← List.map_append] at h3
    have s3 := s1.trans (s2.trans n3.same)
    refine ⟨p3, _, (arts S).map PyData.str, rfl, h3, strs_dt _, strs_alike _, strs_sortable _, strs_depth _, fun zs p4 H4 z1 z2 n4 => ?_⟩
    obtain ⟨ks, kp, ke, ku⟩ := sorted_of (F := IsS) (d := PyData.str) (isS_map (arts S)) z1 z2
    rw [isS_eq ke] at n4
    exact q ks p4 H4 (strs_up (kp.nodup_iff.mpr hok.nd) ku) kp (n4.of s3)
def sp_law_row : Sp := fun vs H Q _ => ∃ (sp c t : Addr) (S : Shop) (most : Int), vs = [.ref sp, .ref t, .int most] ∧ Spr H sp c ∧ ShopAt H t S ∧ ShopOk S ∧ 0 ≤ most ∧ most ≤ 1000 ∧ ∀ (l : List (Str × Int)) p H', RowAt H' p l → RowOk S l → Kp sp H H' → Spr H' sp c → Q (.ref p) H'
/-! ### law_row: 0 _law_spring_here, 1 _law_store, 2 _law_most, 3 _law_found, 4 _law_tag, 5 _law_many -/
abbrev N_law_row : List Str := ["_law_spring_here", "_law_store", "_law_most", "_law_found", "_law_tag", "_law_many"]
theorem sc_law_row : FnScope N_law_row ["_law_spring_here", "_law_store", "_law_most"] (defScope s_law_row) := ⟨rfl, rfl, rfl, by decide +kernel, rfl, by decide +kernel, by decide +kernel⟩
theorem ok_law_row (T : Tx K mg) : OkF P w K mg base "_law_row" 2 ["_law_spring_here", "_law_store", "_law_most"] [] sp_law_row := by
  have O_law_articles : OkF P w K mg base "_law_articles" 1 ["_law_store"] [] sp_law_articles := ok_law_articles T
  have O_law_dip : OkF P w K mg base "_law_dip" 1 ["_law_spring_here", "_law_many"] [] sp_law_dip := ok_law_dip T
  refine okF_mk d_law_row T (fn_mem 43 rfl) rfl rfl sc_law_row (fun _ _ _ _ _ _ us hl => match us, hl with | [_, _, _], _ => rfl) (fun vs H Q E h => ?_) (fun f cdv A outer s H vs Q E hr h => ?_)
  · first | (obtain ⟨_, rfl, _⟩ := h; rfl) | (obtain ⟨_, _, rfl, _⟩ := h; rfl) | (obtain ⟨_, _, _, rfl, _⟩ := h; rfl) | (obtain ⟨_, _, _, _, rfl, _⟩ := h; rfl) | (obtain ⟨_, _, _, _, _, rfl, _⟩ := h; rfl) | (obtain ⟨_, _, _, _, _, _, rfl, _⟩ := h; rfl) | (obtain ⟨_, _, _, _, _, _, _, rfl, _⟩ := h; rfl)
  · have hu := hu_of hr
    have hu65 := hu65_of hr
    refine ⟨_, (pss_cons (ps_set (i := 3) sc_law_row.nd rfl (by first | exact Or.inl rfl | exact Or.inr rfl) (pe_lstN pa_nil))
      (pss_cons (ps_for PassesOwn.never rfl (pi_lstN (pe_callO O_law_articles hr (pa_cons (pv 1) pa_nil))) (pg_name (i := 4) sc_law_row.nd rfl (by first | exact Or.inl rfl | exact Or.inr rfl))
        (pss_cons (ps_set (i := 5) sc_law_row.nd rfl (by first | exact Or.inl rfl | exact Or.inr rfl) (pe_ifExp (pt_cmpR op_eq (pe_callO O_law_dip hr (pa_cons (pv 0) (pa_cons pe_int pa_nil))) pe_int (by first | exact nomark _ | rfl)) (pe_callO O_law_dip hr (pa_cons (pv 0) (pa_cons (pe_op op_add (pv 2) pe_int) pa_nil))) pe_int))
        (pss_one (ps_if (pt_cmpR op_gt (pv 5) pe_int (by first | exact nomark _ | rfl))
          (pss_one (ps_expr (pe_bm PySem.F.plainAttrs_list PySem.F.slot_list_append PySem.F.type_list_append mt_appendN (pv 3) (pa_cons (pe_tupN (pa_cons (pv 4) (pa_cons (pv 5) pa_nil))) pa_nil)))) pss_nil))))
      (pss_one (ps_ret (pe_callTy call_tuple_ofN (by rfl) T.m_tuple b_tuple (pa_cons (pv 3) pa_nil)))))), ?_⟩
    obtain ⟨sp, c, t, S, most, rfl, hs, hS, hok, hm0, hm1, q⟩ := h
    have hal := arts_len hok
    refine ⟨by decide, fun fa H1 n1 => ?_⟩
    refine ⟨_, rfl, t, S, rfl, hS.tk (tk_of n1.same), hok, fun ns po H2 hup hperm n2 => ?_⟩
    have s2 : Same H H2 := n1.same.trans n2.same
    have hs2 := hs.sm s2
    have hfa0 : H fa = none := n1.none_
    have hfa := hs.ne hfa0
    have hpof : po ≠ fa := (n2.ne n1.at_).symm
    have hln := hperm.length_eq
    refine ⟨po, rfl, ⟨_, n2.at_⟩, fun _ => forL (fun i σ H' => ∃ (x4 x5 : Option V) (xs : List V) (l : List (Str × Int)), σ = [some (.ref sp), some (.ref t), some (.int most), some (.ref fa), x4, x5] ∧ Kp2 sp fa H2 H' ∧ Spr H' sp c ∧ H' fa = some (.lst xs) ∧ Paired (IsP H') xs l ∧ (l.map (·.1)).Sublist (ns.take i) ∧ ∀ p ∈ l, 1 ≤ p.2 ∧ p.2 < 2 ^ 62)
      ⟨none, none, [], [], rfl, Kp2.refl _ _ _, hs2, n2.same _ _ n1.at_, .nil, List.Sublist.refl _, (fun p hp => nomatch hp)⟩ (fun i σ H' _ ⟨_, _, _, _, _, k, _⟩ => k _ _ (hs2.lst n2.at_) hpof n2.at_)
      (fun i x σ H' hx ⟨x4, x5, xs, l, e, k3, hs3, hf3, hp3, hl3, hc3⟩ => ?_) (fun σ H' ⟨x4, x5, xs, l, e, k3, hs3, hf3, hp3, hl3, hc3⟩ => ?_)⟩
    · subst e
      rw [List.getElem?_map] at hx
      obtain ⟨z, hz, rfl⟩ := Option.map_eq_some_iff.mp hx
      have hlx := plen hp3
      have hll : l.length ≤ 10 := by
        have := hl3.length_le
        rw [List.length_map, List.length_take] at this
        omega
      have hsub : (l.map (·.1)).Sublist (ns.take (i + 1)) := by rw [take_next hz]; exact hl3.trans (List.sublist_append_left _ _)
      refine ⟨_, rfl, sp, c, _, rfl, hs3, by decide, by decide, fun d H4 _ _ k4 hs4 => ?_⟩
      have k34 := k3.kp1 k4
      have hf4 := k4 _ _ hfa.1 hf3
      have hp4 : Paired (IsP H4) xs l := pimp (fun _ _ z => z.tk (hs3.tk k4)) hp3
      refine ⟨rfl, _, rfl, ?_⟩
      refine iteB (fun hb => ?_) (fun hb => ?_)
      · refine ⟨_, rfl, _, rfl, _, _, rfl, rfl, sp, c, _, rfl, hs4, by omega, by omega, fun n H5 n0 n9 k5 hs5 => ?_⟩
        have k35 := k34.kp1 k5
        have hf5 := k5 _ _ hfa.1 hf4
        have hp5 : Paired (IsP H5) xs l := pimp (fun _ _ z => z.tk (hs4.tk k5)) hp4
        refine ⟨_, rfl, _, _, rfl, rfl, _, rfl, ?_⟩
        refine iteB (fun hb2 => ?_) (fun hb2 => ?_)
        · refine ⟨_, rfl, .inl ⟨rfl, _, SqL.of hf5⟩, _, rfl, _, rfl, sz2, fun p6 H6 n6 => ?_⟩
          have hf6 := n6.same _ _ hf5
          refine ⟨fa, _, _, rfl, rfl, hf6, small1000 (by omega), fun H7 m7 => ?_⟩
          have tk7 : Tk H6 H7 := m7.tk hf6 fun _ z => by cases z
          have hn1 : 1 ≤ n := by
            have : (0 : Int) < n := of_decide_eq_true hb2
            omega
          refine ⟨_, _, xs ++ [.ref p6], l ++ [(z, n)], rfl, (k35.kp1 (kp_of n6.same)).md2 m7, (hs5.sm n6.same).md m7 hfa.1 hfa.2, m7.at_, papp (pimp (fun _ _ y => (y.tk (tk_of n6.same)).tk tk7) hp5) (.cons ⟨p6, rfl, tk7 _ _ n6.at_⟩ .nil), ?_, fun p hp => (List.mem_append.mp hp).elim (hc3 p) fun h => by rw [List.mem_singleton.mp h]; exact ⟨hn1, by show n < 2 ^ 62; omega⟩⟩
          rw [List.map_append, take_next hz]
          exact hl3.append (List.Sublist.refl _)
        · exact ⟨_, _, xs, l, rfl, k35, hs5, hf5, hp5, hsub, hc3⟩
      · refine ⟨_, rfl, _, _, rfl, rfl, false, rfl, ?_⟩
        refine iteF (A := _) ?_
        exact ⟨_, _, xs, l, rfl, k34, hs4, hf4, hp4, hsub, hc3⟩
    · subst e
      rw [List.length_map, List.take_length] at hl3
      refine ⟨_, rfl, fa, xs, rfl, hf3, fun p5 H5 n5 => ?_⟩
      have hin : ∀ p ∈ l, p.1 ∈ arts S := fun p hp => hperm.mem_iff.mp (hl3.subset (List.mem_map_of_mem hp))
      have hlf : l.length ≤ 10 := by
        have := hl3.length_le
        rw [List.length_map] at this
        omega
      exact q l p5 H5 ⟨xs, n5.at_, pimp (fun _ _ y => y.tk (tk_of n5.same)) hp3⟩ ⟨fun p hp => ⟨hok.ok _ (hin p hp), hin p hp, (hc3 p hp).1⟩, hup.sublist hl3, by omega, fun p hp => (hc3 p hp).2⟩ ((k3.kp (kp_of s2) hfa0).trans (kp_of n5.same)) (hs3.sm n5.same)
def sp_law_there : Sp := fun vs H Q _ => ∃ (t : Addr) (S : Shop), vs = [.ref t] ∧ ShopAt H t S ∧ ShopOk S ∧ ∀ p H', New H p (.dK (encK (thereL S))) H' → Q (.ref p) H'
/-! ### law_there: 0 _law_store, 1 _law_one -/
abbrev N_law_there : List Str := ["_law_store", "_law_one"]
theorem sc_law_there : FnScope N_law_there ["_law_store"] (defScope s_law_there) := ⟨rfl, rfl, rfl, by decide +kernel, rfl, by decide +kernel, by decide +kernel⟩
theorem ok_law_there (T : Tx K mg) : OkF P w K mg base "_law_there" 1 ["_law_store"] [] sp_law_there := by
  refine okF_mk d_law_there T (fn_mem 44 rfl) rfl rfl sc_law_there (fun _ _ _ _ _ _ us hl => match us, hl with | [_], _ => rfl) (fun vs H Q E h => ?_) (fun f cdv A outer s H vs Q E hr h => ?_)
  · first | (obtain ⟨_, rfl, _⟩ := h; rfl) | (obtain ⟨_, _, rfl, _⟩ := h; rfl) | (obtain ⟨_, _, _, rfl, _⟩ := h; rfl) | (obtain ⟨_, _, _, _, rfl, _⟩ := h; rfl) | (obtain ⟨_, _, _, _, _, rfl, _⟩ := h; rfl) | (obtain ⟨_, _, _, _, _, _, rfl, _⟩ := h; rfl) | (obtain ⟨_, _, _, _, _, _, _, rfl, _⟩ := h; rfl)
  · have hu := hu_of hr
    have hu65 := hu65_of hr
    refine ⟨_, (pss_one (ps_ret (pe_callTy (call_dictN rfl) (by rfl) T.m_dict b_dict (pa_cons (pe_op op_catN (pe_lc (own := [("_law_one", 1)]) (g := (gName 1)) (tt := tYes) rfl sc_law_there.nd (pi_tupN (pe_ix ix_tupN (pv 0) pe_int (fun _ _ => rfl))) (blkOk_by (N := N_law_there) (sc := (defScope s_law_there)) (own := [("_law_one", 1)]) (by decide +kernel)) (fun _ _ _ _ _ => (pg_name (i := 1) sc_law_there.nd rfl (by first | exact Or.inl rfl | exact Or.inr rfl))) (fun _ _ _ _ _ => pts_nil) (fun _ _ _ _ _ => (pe_tupN (pa_cons (pe_ix ix_tupN (pv 1) pe_int (fun _ _ => rfl)) (pa_cons (pe_ix ix_tupN (pv 1) pe_int (fun _ _ => rfl)) pa_nil))))) (pe_lc (own := [("_law_one", 1)]) (g := (gName 1)) (tt := tYes) rfl sc_law_there.nd (pi_tupN (pe_ix ix_tupN (pv 0) pe_int (fun _ _ => rfl))) (blkOk_by (N := N_law_there) (sc := (defScope s_law_there)) (own := [("_law_one", 1)]) (by decide +kernel)) (fun _ _ _ _ _ => (pg_name (i := 1) sc_law_there.nd rfl (by first | exact Or.inl rfl | exact Or.inr rfl))) (fun _ _ _ _ _ => pts_nil) (fun _ _ _ _ _ => (pe_tupN (pa_cons (pe_ix ix_tupN (pv 1) pe_int (fun _ _ => rfl)) (pa_cons (pe_ix ix_tupN (pv 1) pe_int (fun _ _ => rfl)) pa_nil)))))) pa_nil)))), ?_⟩
    obtain ⟨t, S, rfl, hS, hok, q⟩ := h
    obtain ⟨pa, pb, pc, xs, ys, k1, k2, k3, k4, k5, k6⟩ := hS.ex
    have hnk := hok.nk
    have hnp := hok.np
    have hlx := plen k3
    have hly := plen k6
    refine ⟨_, rfl, t, _, _, _, rfl, rfl, k1, atI_nat (j := 0) rfl, pa, rfl, ⟨_, k2⟩, fun _ => lcTupY k2 (small1000 (by omega)) (fun i acc H => Paired (IsP H) acc (S.parts.take i)) (fun _ _ _ _ k h => pimp (fun _ _ z => z.tk k) h) .nil (fun Ky i x acc H1 hx s1 g ky => ?_) (fun D acc H1 hD s1 hA hlA g => ?_)⟩
    · obtain ⟨p, hp, t2, rfl, ht2⟩ := pget k3 hx
      refine ⟨rfl, _, rfl, t2, _, _, _, rfl, rfl, s1 _ _ ht2, atI_nat (j := 0) rfl, _, rfl, t2, _, _, _, rfl, rfl, s1 _ _ ht2, atI_nat (j := 1) rfl, sz2, fun p3 H3 n3 => ?_⟩
      refine ky _ _ n3.same ?_
      rw [take_next hp]
      exact papp (pimp (fun _ _ z => z.tk (tk_of n3.same)) g) (.cons ⟨p3, rfl, n3.at_⟩ .nil)
    rw [hlx, List.take_length] at g
    refine ⟨_, rfl, t, _, _, _, rfl, rfl, s1 _ _ k1, atI_nat (j := 2) rfl, pc, rfl, ⟨_, s1 _ _ k5⟩, fun _ => lcTupY (s1 _ _ k5) (small1000 (by omega)) (fun i acc H => Paired (IsP H) acc ((S.packs.map fun p => (p.name, p.made)).take i)) (fun _ _ _ _ k h => pimp (fun _ _ z => z.tk k) h) .nil (fun Ky i x acc H2 hx s2 g ky => ?_) (fun D2 acc2 H2 hD2 s2 hA2 hlA2 g2 => ?_)⟩
    · obtain ⟨p, hp, t2, u, zs, rfl, ht2, _⟩ := pget k6 hx
      refine ⟨rfl, _, rfl, t2, _, _, _, rfl, rfl, s2 _ _ (s1 _ _ ht2), atI_nat (j := 0) rfl, _, rfl, t2, _, _, _, rfl, rfl, s2 _ _ (s1 _ _ ht2), atI_nat (j := 1) rfl, sz2, fun p3 H3 n3 => ?_⟩
      refine ky _ _ n3.same ?_
      rw [take_next (show (S.packs.map fun p => (p.name, p.made))[i]? = some (p.name, p.made) by rw [List.getElem?_map, hp]; rfl)]
      exact papp (pimp (fun _ _ z => z.tk (tk_of n3.same)) g) (.cons ⟨p3, rfl, n3.at_⟩ .nil)
    rw [List.take_of_length_le (by rw [List.length_map]; omega)] at g2
    refine ⟨D, D2, _, _, rfl, rfl, s2 _ _ hA, hA2, Nat.le_of_lt (small1000 (by omega)), fun p3 H3 n3 => ?_⟩
    have gall : Paired (IsP H3) (acc ++ acc2) (thereL S) := papp (pimp (fun _ _ z => z.tk (tk_of (s2.trans n3.same))) g) (pimp (fun _ _ z => z.tk (tk_of n3.same)) g2)
    obtain ⟨ps, e, hps⟩ := row_pairs gall
    have h3 := n3.at_
    rw [e] at h3
    refine ⟨p3, ps, _, rfl, h3, hps, fun p4 H4 n4 => ?_⟩
    rw [merge_enc0 _ (by rw [there_keys]; exact hok.nd)] at n4
    exact q p4 H4 (n4.of (s1.trans (s2.trans n3.same)))
def sp_law_no_choices : Sp := fun vs H Q _ => ∃ (sp c : Addr), vs = [.ref sp] ∧ Spr H sp c ∧ ∀ (t : Addr) (S : Shop) H', Kp sp H H' → Spr H' sp c → ShopAt H' t S → ShopOk S → Q (.ref t) H'
/-! ### law_no_choices: 0 _law_spring_here -/
abbrev N_law_no_choices : List Str := ["_law_spring_here"]
theorem sc_law_no_choices : FnScope N_law_no_choices ["_law_spring_here"] (defScope s_law_no_choices) := ⟨rfl, rfl, rfl, by decide +kernel, rfl, by decide +kernel, by decide +kernel⟩
theorem ok_law_no_choices (T : Tx K mg) : OkF P w K mg base "_law_no_choices" 5 ["_law_spring_here"] [] sp_law_no_choices := by
  have O_law_shop : OkF P w K mg base "_law_shop" 4 ["_law_spring_here", "_law_most"] [] sp_law_shop := ok_law_shop T
  refine okF_mk d_law_no_choices T (fn_mem 45 rfl) rfl rfl sc_law_no_choices (fun _ _ _ _ _ _ us hl => match us, hl with | [_], _ => rfl) (fun vs H Q E h => ?_) (fun f cdv A outer s H vs Q E hr h => ?_)
  · first | (obtain ⟨_, rfl, _⟩ := h; rfl) | (obtain ⟨_, _, rfl, _⟩ := h; rfl) | (obtain ⟨_, _, _, rfl, _⟩ := h; rfl) | (obtain ⟨_, _, _, _, rfl, _⟩ := h; rfl) | (obtain ⟨_, _, _, _, _, rfl, _⟩ := h; rfl) | (obtain ⟨_, _, _, _, _, _, rfl, _⟩ := h; rfl) | (obtain ⟨_, _, _, _, _, _, _, rfl, _⟩ := h; rfl)
  · have hu := hu_of hr
    have hu65 := hu65_of hr
    refine ⟨_, (pss_one (ps_ret (pe_callO O_law_shop hr (pa_cons (pv 0) (pa_cons pe_int pa_nil))))), ?_⟩
    obtain ⟨sp, c, rfl, hs, q⟩ := h
    exact ⟨_, rfl, sp, c, rfl, hs, q⟩
end K57
namespace K57
open PySem PySem.Spec PyProof.Rows L2
variable {P : Program} {w : World} {K : PySem.W.Frag} {mg : Str → Option Value} {base : Heap}
/-- a sorted set, told by what its items stand for -/
theorem set_of {α : Type} {F : V → α → Prop} {d : α → PyData} {xs : List V} {ls : List α} (h : Paired F xs ls) : ∀ {zs : List (V × PyData)}, (∀ z ∈ zs, z ∈ xs.zip (ls.map d)) → zs.Pairwise (fun a b => PySem.W.dataLt a.2 b.2 = true) →
    ∃ ms : List α, Paired F (zs.map Prod.fst) ms ∧ (∀ m ∈ ms, m ∈ ls) ∧ ms.Pairwise (fun a b => PySem.W.dataLt (d a) (d b) = true) ∧ Paired (fun (z : V × PyData) m => F z.1 m ∧ z.2 = d m) zs ms
  | [], _, _ => ⟨[], .nil, (fun m hm => nomatch hm), .nil, .nil⟩
  | z :: zs, h1, h2 => by
    rw [List.pairwise_cons] at h2
    obtain ⟨ms, a1, a2, a3, a4⟩ := set_of h (fun y hy => h1 y (List.mem_cons_of_mem _ hy)) h2.2
    obtain ⟨i, hi⟩ := List.getElem?_of_mem (h1 z List.mem_cons_self)
    obtain ⟨m, hm, f1, f2⟩ := pget (zip_paired (d := d) h) hi
    refine ⟨m :: ms, .cons f1 a1, fun x hx => ?_, ?_, .cons ⟨f1, f2⟩ a4⟩
    · rcases List.mem_cons.mp hx with e | hx
      · rw [e]; exact List.mem_of_getElem? hm
      · exact a2 x hx
    · rw [List.pairwise_cons]
      refine ⟨fun b hb => ?_, a3⟩
      obtain ⟨y, hy, _, e⟩ := paired_mem a4 hb
      have := h2.1 y hy
      rw [e, f2] at this
      exact this
def IsN (v : V) (n : Int) : Prop := v = .int n
theorem isN_map : ∀ ns : List Int, Paired IsN (ns.map V.int) ns
  | [] => .nil
  | n :: ns => .cons rfl (isN_map ns)
theorem isN_eq : ∀ {xs : List V} {ns : List Int}, Paired IsN xs ns → xs = ns.map V.int
  | _, _, .nil => rfl
  | _, _, .cons r t => by rw [List.map_cons, ← isN_eq t, r]
theorem IsIS.tk {H H' : Hp} {v : V} {l : Int × Str} (k : Tk H H') (h : IsIS H v l) : IsIS H' v l := let ⟨t, e, h⟩ := h; ⟨t, e, k _ _ h⟩
def days60 : List Int := [0, 1, 2, 3, 5, 8, 12, 60]
def sp_law_schedule : Sp := fun vs H Q _ => ∃ (sp c t : Addr) (S : Shop), vs = [.ref sp, .ref t] ∧ Spr H sp c ∧ ShopAt H t S ∧ ShopOk S ∧
  ∀ (r a b : Addr) (os : Ords) (ls : Lds) H', Kp sp H H' → Spr H' sp c → H' r = some (.tup [.ref a, .ref b]) → OrdersAt H' a os → OrdersOk S os → LoadAt H' b ls → LoadOk S ls → (∀ o ∈ os, o.1 ∈ days60) → Q (.ref r) H'
/-! ### law_schedule: 0 _law_spring_here, 1 _law_store, 2 _law_days, 3 _law_asks, 4 _law_load, 5 _law_day, 6 _law_lap, 7 _law_tags_here, 8 _law_one, 9 _law_place -/
abbrev N_law_schedule : List Str := ["_law_spring_here", "_law_store", "_law_days", "_law_asks", "_law_load", "_law_day", "_law_lap", "_law_tags_here", "_law_one", "_law_place"]
theorem sc_law_schedule : FnScope N_law_schedule ["_law_spring_here", "_law_store"] (defScope s_law_schedule) := ⟨rfl, rfl, rfl, by decide +kernel, rfl, by decide +kernel, by decide +kernel⟩
theorem ok_law_schedule (T : Tx K mg) : OkF P w K mg base "_law_schedule" 3 ["_law_spring_here", "_law_store"] [] sp_law_schedule := by
  have O_law_pick : OkF P w K mg base "_law_pick" 2 ["_law_spring_here", "_law_some_here"] [] sp_law_pick := ok_law_pick T
  have O_law_row : OkF P w K mg base "_law_row" 2 ["_law_spring_here", "_law_store", "_law_most"] [] sp_law_row := ok_law_row T
  have O_law_dip : OkF P w K mg base "_law_dip" 1 ["_law_spring_here", "_law_many"] [] sp_law_dip := ok_law_dip T
  refine okF_mk d_law_schedule T (fn_mem 46 rfl) rfl rfl sc_law_schedule (fun _ _ _ _ _ _ us hl => match us, hl with | [_, _], _ => rfl) (fun vs H Q E h => ?_) (fun f cdv A outer s H vs Q E hr h => ?_)
  · first | (obtain ⟨_, rfl, _⟩ := h; rfl) | (obtain ⟨_, _, rfl, _⟩ := h; rfl) | (obtain ⟨_, _, _, rfl, _⟩ := h; rfl) | (obtain ⟨_, _, _, _, rfl, _⟩ := h; rfl) | (obtain ⟨_, _, _, _, _, rfl, _⟩ := h; rfl) | (obtain ⟨_, _, _, _, _, _, rfl, _⟩ := h; rfl) | (obtain ⟨_, _, _, _, _, _, _, rfl, _⟩ := h; rfl)
  · have hu := hu_of hr
    have hu65 := hu65_of hr
    refine ⟨_, (pss_cons (ps_asg (pe_tupN (pa_cons (pe_lstN (pa_cons pe_int (pa_cons pe_int (pa_cons pe_int (pa_cons pe_int (pa_cons pe_int (pa_cons pe_int (pa_cons pe_int (pa_cons pe_int pa_nil))))))))) (pa_cons (pe_lstN pa_nil) (pa_cons (pe_lstN pa_nil) pa_nil)))) (pg_tupN rfl (pgs_cons (pg_name (i := 2) sc_law_schedule.nd rfl (by first | exact Or.inl rfl | exact Or.inr rfl)) (pgs_cons (pg_name (i := 3) sc_law_schedule.nd rfl (by first | exact Or.inl rfl | exact Or.inr rfl)) (pgs_cons (pg_name (i := 4) sc_law_schedule.nd rfl (by first | exact Or.inl rfl | exact Or.inr rfl)) pgs_nil)))))
      (pss_cons (ps_for PassesOwn.never rfl (pi_lstN (pe_sortSet rfl hu65 (by rfl) T.m_sorted (by rfl) T.m_set (pe_lc (own := [("_law_lap", 6)]) (g := (gName 6)) (tt := tYes) rfl sc_law_schedule.nd (pi_range1 (by rfl) T.m_range (pa_cons (pe_callO O_law_dip hr (pa_cons (pv 0) (pa_cons pe_int pa_nil))) pa_nil)) (blkOk_by (N := N_law_schedule) (sc := (defScope s_law_schedule)) (own := [("_law_lap", 6)]) (by decide +kernel)) (fun _ _ _ _ _ => (pg_name (i := 6) sc_law_schedule.nd rfl (by first | exact Or.inl rfl | exact Or.inr rfl))) (fun _ _ _ _ _ => pts_nil) (fun _ _ _ _ _ => (pe_callO O_law_pick hr (pa_cons (pv 0) (pa_cons (pv 2) pa_nil))))))) (pg_name (i := 5) sc_law_schedule.nd rfl (by first | exact Or.inl rfl | exact Or.inr rfl))
        (pss_one (ps_expr (pe_bm PySem.F.plainAttrs_list PySem.F.slot_list_append PySem.F.type_list_append mt_appendN (pv 3) (pa_cons (pe_tupN (pa_cons (pv 5) (pa_cons (pe_callO O_law_row hr (pa_cons (pv 0) (pa_cons (pv 1) (pa_cons (pe_callO O_law_pick hr (pa_cons (pv 0) (pa_cons (pe_lstN (pa_cons pe_int (pa_cons pe_int (pa_cons pe_int pa_nil)))) pa_nil))) pa_nil)))) pa_nil))) pa_nil)))))
      (pss_cons (ps_set (i := 7) sc_law_schedule.nd rfl (by first | exact Or.inl rfl | exact Or.inr rfl) (pe_lc (own := [("_law_one", 8)]) (g := (gName 8)) (tt := tYes) rfl sc_law_schedule.nd (pi_tupN (pe_ix ix_tupN (pv 1) pe_int (fun _ _ => rfl))) (blkOk_by (N := N_law_schedule) (sc := (defScope s_law_schedule)) (own := [("_law_one", 8)]) (by decide +kernel)) (fun _ _ _ _ _ => (pg_name (i := 8) sc_law_schedule.nd rfl (by first | exact Or.inl rfl | exact Or.inr rfl))) (fun _ _ _ _ _ => pts_nil) (fun _ _ _ _ _ => (pe_ix ix_tupN (pv 8) pe_int (fun _ _ => rfl)))))
      (pss_cons (ps_for PassesOwn.never rfl (pi_lstN (pe_sortSet rfl hu65 (by rfl) T.m_sorted (by rfl) T.m_set (pe_lc (own := [("_law_lap", 6)]) (g := (gName 6)) (tt := tYes) rfl sc_law_schedule.nd (pi_range1 (by rfl) T.m_range (pa_cons (pe_callO O_law_dip hr (pa_cons (pv 0) (pa_cons pe_int pa_nil))) pa_nil)) (blkOk_by (N := N_law_schedule) (sc := (defScope s_law_schedule)) (own := [("_law_lap", 6)]) (by decide +kernel)) (fun _ _ _ _ _ => (pg_name (i := 6) sc_law_schedule.nd rfl (by first | exact Or.inl rfl | exact Or.inr rfl))) (fun _ _ _ _ _ => pts_nil) (fun _ _ _ _ _ => (pe_tupN (pa_cons (pe_callO O_law_pick hr (pa_cons (pv 0) (pa_cons (pv 2) pa_nil))) (pa_cons (pe_callO O_law_pick hr (pa_cons (pv 0) (pa_cons (pv 7) pa_nil))) pa_nil))))))) (pg_name (i := 9) sc_law_schedule.nd rfl (by first | exact Or.inl rfl | exact Or.inr rfl))
        (pss_one (ps_expr (pe_bm PySem.F.plainAttrs_list PySem.F.slot_list_append PySem.F.type_list_append mt_appendN (pv 4) (pa_cons (pe_op op_catTN (pv 9) (pe_tupN (pa_cons (pe_op op_add pe_int (pe_callO O_law_dip hr (pa_cons (pv 0) (pa_cons pe_int pa_nil)))) pa_nil))) pa_nil)))))
      (pss_one (ps_ret (pe_tupN (pa_cons (pe_callTy call_tuple_ofN (by rfl) T.m_tuple b_tuple (pa_cons (pv 3) pa_nil)) (pa_cons (pe_callTy call_tuple_ofN (by rfl) T.m_tuple b_tuple (pa_cons (pv 4) pa_nil)) pa_nil))))))))), ?_⟩
    obtain ⟨sp, c, t, S, rfl, hs, hS, hok, q⟩ := h
    have hnp := hok.np
    refine ⟨show 8 ≤ sizeLine by decide, fun da H1 n1 => ?_⟩
    refine ⟨by decide, fun fa H2 n2 => ?_⟩
    refine ⟨by decide, fun ga H3 n3 => ?_⟩
    refine ⟨sz3, fun t4 H4 n4 => ?_⟩
    refine ⟨t4, _, rfl, n4.at_, rfl, _, _, rfl, _, _, rfl, _, _, rfl, rfl, ?_⟩
    have s4 : Same H H4 := n1.same.trans (n2.same.trans (n3.same.trans n4.same))
    have hs4 := hs.sm s4
    have hda4 : H4 da = some (.lst (([0, 1, 2, 3, 5, 8, 12, 60] : List Int).map V.int)) := n4.same _ _ (n3.same _ _ (n2.same _ _ n1.at_))
    have hfa4 : H4 fa = some (.lst []) := n4.same _ _ (n3.same _ _ n2.at_)
    have hga4 : H4 ga = some (.lst []) := n4.same _ _ n3.at_
    have nfg : fa ≠ ga := n3.ne n2.at_
    have ndf : da ≠ fa := n2.ne n1.at_
    have ndg : da ≠ ga := n3.ne (n2.same _ _ n1.at_)
    have hfaH : H fa = none := none_same n1.same n2.none_
    have hgaH : H ga = none := none_same (n1.same.trans n2.same) n3.none_
    have hfan := hs.ne hfaH
    have hgan := hs.ne hgaH
    have hdays : ∀ n ∈ ([0, 1, 2, 3, 5, 8, 12, 60] : List Int), (0 : Int) ≤ n := by decide
    -- days
    refine ⟨_, rfl, sp, c, _, rfl, hs4, by decide, by decide, fun d H5 d0 d1 k5 hs5 => ?_⟩
    have hda5 := k5 _ _ (hs4.lst hda4) hda4
    refine ⟨d, rfl, by omega, by omega, lcRngK (n := d.toNat) sp hs5.is (small1000 (by omega)) (fun i acc H => ∃ ns : List Int, acc = ns.map V.int ∧ ns.length = i ∧ (∀ n ∈ ns, n ∈ days60) ∧ Spr H sp c)
      (fun i acc H H' D l0 hD k hDl el ⟨ns, p1, p2, p3, p4⟩ => ⟨ns, p1, p2, p3, p4.else_ (hs5.ne hD) el⟩) (fun i acc H H' k s ⟨ns, p1, p2, p3, p4⟩ => ⟨ns, p1, p2, p3, p4.sm s⟩) ⟨[], rfl, rfl, (fun n hn => nomatch hn), hs5⟩
      (fun Ky i acc H6 hi k6 ⟨ns, p1, p2, p3, p4⟩ ky => ?_) (fun D acc H6 hD6 k6 hA hlA ⟨ns, p1, p2, p3, p4⟩ => ?_)⟩
    · refine ⟨rfl, _, rfl, _, rfl, sp, c, da, _, rfl, p4, k6 _ _ (hs5.lst hda5) hda5, show 0 < 8 by decide, show 8 ≤ 1000 by decide, fun v H7 hv k7 hs7 => ?_⟩
      obtain ⟨n, hn, rfl⟩ := List.mem_map.mp hv
      refine ky _ _ k7 ⟨ns ++ [n], by rw [p1, List.map_append]; rfl, by rw [List.length_append, p2]; rfl, fun m hm => (List.mem_append.mp hm).elim (p3 m) fun h => by rw [List.mem_singleton.mp h]; exact hn, hs7⟩
    subst p1
    refine ⟨D, _, ns.map PyData.int, rfl, hA, .inr (.inl ⟨ns, rfl, rfl⟩), by rw [List.length_map]; omega, fun zs p7 H7 z1 z2 z3 n7 => ?_⟩
    obtain ⟨ms, m1, m2, m3, _⟩ := set_of (F := IsN) (d := PyData.int) (isN_map ns) z1 z3
    have h7 := n7.at_
    rw [isN_eq m1] at h7
    have hms : ms.Pairwise (fun a b => a < b) := m3.imp fun {a b} h => by
      rw [PySem.W.dataLt_int] at h
      exact of_decide_eq_true h
    have hml : ms.length ≤ 4 := by
      have nd : ms.Nodup := hms.imp fun {a b} h e => by omega
      have := len_sub nd m2
      omega
    have hs7 := p4.sm n7.same
    have k47 : Kp sp H4 H7 := (k5.trans k6).trans (kp_of n7.same)
    have k07 : Kp sp H H7 := (kp_of s4).trans k47
    have hfa7 := k47 _ _ hfan.1 hfa4
    have hga7 := k47 _ _ hgan.1 hga4
    have hda7 := k47 _ _ (hs4.lst hda4) hda4
    have n7f : p7 ≠ fa := (n7.ne (k6 _ _ hfan.1 (k5 _ _ hfan.1 hfa4))).symm
    have hS7 : ShopAt H7 t S := hS.tk (hs.tk k07)
    refine ⟨p7, rfl, ⟨_, h7⟩, fun _ => forL (fun i σ H' => ∃ (x5 x6 x7 x8 x9 : Option V) (xs : List V) (os : Ords), σ = [some (.ref sp), some (.ref t), some (.ref da), some (.ref fa), some (.ref ga), x5, x6, x7, x8, x9] ∧ Kp2 sp fa H7 H' ∧ Spr H' sp c ∧ H' fa = some (.lst xs) ∧ Paired (IsOrd H') xs os ∧ os.map (·.1) = ms.take i ∧ ∀ o ∈ os, 0 ≤ o.1 ∧ RowOk S o.2)
      ⟨none, none, none, none, none, [], [], rfl, Kp2.refl _ _ _, hs7, hfa7, .nil, rfl, (fun o ho => nomatch ho)⟩ (fun i σ H' _ ⟨_, _, _, _, _, _, _, _, k, _⟩ => k _ _ (hs7.lst h7) n7f h7)
      (fun i x σ H' hx ⟨x5, x6, x7, x8, x9, xs, os, e, k8, hs8, hf8, hp8, hm8, ho8⟩ => ?_) (fun σ H' ⟨x5, x6, x7, x8, x9, xs, os, e, k8, hs8, hf8, hp8, hm8, ho8⟩ => ?_)⟩
    · subst e
      rw [List.getElem?_map] at hx
      obtain ⟨day, hday, rfl⟩ := Option.map_eq_some_iff.mp hx
      have hday0 : 0 ≤ day := hdays _ (p3 _ (m2 _ (List.mem_of_getElem? hday)))
      have hlx := plen hp8
      have hlo : os.length ≤ 4 := by
        rw [← List.length_map (f := (·.1)), hm8, List.length_take]; omega
      have tk78 : Tk H7 H' := fun b xs hb => k8 b _ (hs7.tup hb) (fun e => by rw [e, hfa7] at hb; cases hb) hb
      refine ⟨_, rfl, .inl ⟨rfl, _, SqL.of hf8⟩, _, rfl, _, rfl, _, rfl, _, rfl, show 3 ≤ sizeLine by decide, fun p9 H9 n9 => ?_⟩
      refine ⟨sp, c, p9, _, rfl, hs8.sm n9.same, n9.at_, show 0 < 3 by decide, show 3 ≤ 1000 by decide, fun v H10 hv k10 hs10 => ?_⟩
      obtain ⟨mo, rfl, m0, m1'⟩ : ∃ mo : Int, v = .int mo ∧ 0 ≤ mo ∧ mo ≤ 1000 := by
        have hv : v = .int 1 ∨ v = .int 2 ∨ v = .int 4 := by simpa using hv
        rcases hv with e | e | e
        · exact ⟨1, e, by decide, by decide⟩
        · exact ⟨2, e, by decide, by decide⟩
        · exact ⟨4, e, by decide, by decide⟩
      have k810 : Kp sp H' H10 := (kp_of n9.same).trans k10
      refine ⟨sp, c, t, S, mo, rfl, hs10, (hS7.tk tk78).tk (hs8.tk k810), hok, m0, m1', fun l p11 H11 hrow hrok k11 hs11 => ?_⟩
      refine ⟨sz2, fun p12 H12 n12 => ?_⟩
      have k812 : Kp sp H' H12 := (k810.trans k11).trans (kp_of n12.same)
      have hf12 := k812 _ _ hfan.1 hf8
      refine ⟨fa, _, _, rfl, rfl, hf12, small1000 (by omega), fun H13 m13 => ?_⟩
      have tk13 : Tk H12 H13 := m13.tk hf12 fun _ z => by cases z
      refine ⟨_, _, _, _, _, xs ++ [.ref p12], os ++ [(day, l)], rfl, (k8.kp1 k812).md2 m13, (hs11.sm n12.same).md m13 hfan.1 hfan.2, m13.at_, papp (pimp (fun _ _ y => (y.tk (hs8.tk k812)).tk tk13) hp8) (.cons ⟨p12, p11, rfl, tk13 _ _ n12.at_, (hrow.tk (tk_of n12.same)).tk tk13⟩ .nil), by rw [List.map_append, hm8, take_next hday]; rfl, fun o ho => (List.mem_append.mp ho).elim (ho8 o) fun h => by rw [List.mem_singleton.mp h]; exact ⟨hday0, hrok⟩⟩
    subst e
    rw [List.length_map, List.take_length] at hm8
    have hoOk : OrdersOk S os := ⟨ho8, by rw [← hm8, List.pairwise_map] at hms; exact hms, by
      rw [← List.length_map (f := (·.1)), hm8]; omega⟩
    have hod : ∀ o ∈ os, o.1 ∈ days60 := fun o ho => p3 _ (m2 _ (by rw [← hm8]; exact List.mem_map_of_mem ho))
    have tk78 : Tk H7 H' := fun b xs hb => k8 b _ (hs7.tup hb) (fun e => by rw [e, hfa7] at hb; cases hb) hb
    have hS8 := hS7.tk tk78
    obtain ⟨pa, pb, pc, pxs, ys, e1, e2, e3, e4, e5, e6⟩ := hS8.ex
    have hlp := plen e3
    have hga8 := k8 _ _ hgan.1 nfg.symm hga7
    have hda8 := k8 _ _ (hs7.lst hda7) ndf hda7
    have k08 : Kp sp H H' := k8.kp k07 hfaH
    -- tags
    refine ⟨_, rfl, t, _, _, _, rfl, rfl, e1, atI_nat (j := 0) rfl, pa, rfl, ⟨_, e2⟩, fun _ => lcTupY e2 (small1000 (by omega)) (fun i acc _ => acc = ((S.parts.map (·.1)).take i).map V.str) (fun _ _ _ _ _ h => h) rfl (fun Ky i x acc H9 hx s9 g ky => ?_) (fun ta acc H9 hD9 s9 hA9 _ g => ?_)⟩
    · obtain ⟨p, hp, t2, rfl, ht2⟩ := pget e3 hx
      refine ⟨rfl, _, rfl, t2, _, _, _, rfl, rfl, s9 _ _ ht2, atI_nat (j := 0) rfl, ?_⟩
      refine ky _ _ (Same.refl _) ?_
      subst g
      rw [take_next (show (S.parts.map (·.1))[i]? = some p.1 by rw [List.getElem?_map, hp]; rfl), List.map_append]; rfl
    rw [List.take_of_length_le (by rw [List.length_map]; omega)] at g
    subst g
    have hs9 := hs8.sm s9
    have hga9 := s9 _ _ hga8
    have hda9 := s9 _ _ hda8
    have k09 : Kp sp H H9 := k08.trans (kp_of s9)
    have hf9 := s9 _ _ hf8
    have hp9 : Paired (IsOrd H9) xs os := pimp (fun _ _ y => y.tk (tk_of s9)) hp8
    -- places
    refine ⟨_, rfl, sp, c, _, rfl, hs9, by decide, by decide, fun d2 H10 f0 f1 k10 hs10 => ?_⟩
    have hda10 := k10 _ _ (hs9.lst hda9) hda9
    have hta10 := k10 _ _ (hs9.lst hA9) hA9
    refine ⟨d2, rfl, by omega, by omega, lcRngK (n := d2.toNat) sp hs10.is (small1000 (by omega)) (fun i acc H => ∃ ls : List (Int × Str), Paired (IsIS H) acc ls ∧ ls.length = i ∧ (∀ l ∈ ls, 0 ≤ l.1 ∧ l.2 ∈ S.parts.map (fun p : Str × Int => p.1)) ∧ Spr H sp c)
      (fun i acc H H' D l0 hD k hDl el ⟨ls, p1, p2, p3, p4⟩ => ⟨ls, pimp (fun _ _ z => z.tk (else_tk hDl el)) p1, p2, p3, p4.else_ (hs10.ne hD) el⟩) (fun i acc H H' k s ⟨ls, p1, p2, p3, p4⟩ => ⟨ls, pimp (fun _ _ z => z.tk (tk_of s)) p1, p2, p3, p4.sm s⟩) ⟨[], .nil, rfl, (fun n hn => nomatch hn), hs10⟩
      (fun Ky i acc H11 hi k11 ⟨ls, p1, p2, p3, p4⟩ ky => ?_) (fun D2 acc H11 hD11 k11 hA11 hlA11 ⟨ls, p1, p2, q3, p4⟩ => ?_)⟩
    · refine ⟨rfl, _, rfl, _, rfl, sp, c, da, _, rfl, p4, k11 _ _ (hs10.lst hda10) hda10, show 0 < 8 by decide, show 8 ≤ 1000 by decide, fun v H12 hv k12 hs12 => ?_⟩
      obtain ⟨n, hn, rfl⟩ := List.mem_map.mp hv
      have hta12 := k12 _ _ (p4.lst (k11 _ _ (hs10.lst hta10) hta10)) (k11 _ _ (hs10.lst hta10) hta10)
      refine ⟨_, rfl, _, rfl, sp, c, ta, _, rfl, hs12, hta12, by rw [List.length_map, List.length_map]; omega, by rw [List.length_map, List.length_map]; omega, fun v H13 hv k13 hs13 => ?_⟩
      obtain ⟨z, hz, rfl⟩ := List.mem_map.mp hv
      refine ⟨sz2, fun p14 H14 n14 => ?_⟩
      have k14 : Kp sp H11 H14 := (k12.trans k13).trans (kp_of n14.same)
      refine ky _ _ k14 ⟨ls ++ [(n, z)], papp (pimp (fun _ _ y => y.tk (p4.tk k14)) p1) (.cons ⟨p14, rfl, n14.at_⟩ .nil), by rw [List.length_append, p2]; rfl, fun m hm => (List.mem_append.mp hm).elim (p3 m) fun h => by rw [List.mem_singleton.mp h]; exact ⟨hdays n hn, hz⟩, hs13.sm n14.same⟩
    have hla := plen p1
    refine ⟨D2, _, ls.map isD, rfl, hA11, .inr (.inr ⟨ls, p1, rfl⟩), by omega, fun zs p12 H12 z1 z2 z3 n12 => ?_⟩
    obtain ⟨ks, g1, g2, g3, _⟩ := set_of (F := IsIS H11) (d := isD) p1 z1 z3
    have hkl : ks.length ≤ 4 := by
      have nd : ks.Nodup := g3.imp fun {a b} h e => by
        rw [e, show PySem.W.dataLt (isD b) (isD b) = false from lex_irrefl _] at h
        cases h
      have := len_sub nd g2
      omega
    have hk12 : Paired (IsIS H12) (zs.map Prod.fst) ks := pimp (fun _ _ z => z.tk (tk_of n12.same)) g1
    have hzl := plen hk12
    have k912 : Kp sp H9 H12 := (k10.trans k11).trans (kp_of n12.same)
    have hs12 := p4.sm n12.same
    have hga12 := k912 _ _ hgan.1 hga9
    have hf12 := k912 _ _ hfan.1 hf9
    have hp12 : Paired (IsOrd H12) xs os := pimp (fun _ _ y => y.tk (hs9.tk k912)) hp9
    have n12g : p12 ≠ ga := (n12.ne (k11 _ _ hgan.1 (k10 _ _ hgan.1 hga9))).symm
    refine ⟨p12, rfl, ⟨_, n12.at_⟩, fun _ => forL (fun i σ H' => ∃ (x5 x6 x7 x8 x9 : Option V) (ys : List V) (lo : Lds), σ = [some (.ref sp), some (.ref t), some (.ref da), some (.ref fa), some (.ref ga), x5, x6, x7, x8, x9] ∧ Kp2 sp ga H12 H' ∧ Spr H' sp c ∧ H' ga = some (.lst ys) ∧ Paired (IsLd H') ys lo ∧ lo.map (fun l => (l.1, l.2.1)) = ks.take i ∧ ∀ l ∈ lo, 1 ≤ l.2.2)
      ⟨_, _, _, _, _, [], [], rfl, Kp2.refl _ _ _, hs12, hga12, .nil, rfl, (fun o ho => nomatch ho)⟩ (fun i σ H' _ ⟨_, _, _, _, _, _, _, _, k, _⟩ => k _ _ (hs12.lst n12.at_) n12g n12.at_)
      (fun i x σ H' hx ⟨x5, x6, x7, x8, x9, ys, lo, e, k13, hs13, hg13, hp13, hm13, hl13⟩ => ?_) (fun σ H' ⟨x5, x6, x7, x8, x9, ys, lo, e, k13, hs13, hg13, hp13, hm13, hl13⟩ => ?_)⟩
    · subst e
      obtain ⟨w, hw, t13, rfl, ht13⟩ := pget hk12 hx
      have hly := plen hp13
      have hll : lo.length ≤ 4 := by
        rw [← List.length_map (f := fun l => (l.1, l.2.1)), hm13, List.length_take]; omega
      have ht13' := k13 _ _ (hs12.tup ht13) (fun e => by rw [e, hga12] at ht13; cases ht13) ht13
      refine ⟨_, rfl, .inl ⟨rfl, _, SqL.of hg13⟩, _, rfl, _, rfl, sp, c, _, rfl, hs13, by decide, by decide, fun d3 H14 u0 u1 k14 hs14 => ?_⟩
      refine ⟨_, _, rfl, rfl, show 1 ≤ sizeLine by decide, fun p15 H15 n15 => ?_⟩
      have ht15 := n15.same _ _ (k14 _ _ (hs13.tup ht13') ht13')
      refine ⟨t13, p15, _, _, rfl, rfl, ht15, n15.at_, by simp, by simp, sz3, fun p16 H16 n16 => ?_⟩
      have k1316 : Kp sp H' H16 := (k14.trans (kp_of n15.same)).trans (kp_of n16.same)
      have hg16 := k1316 _ _ hgan.1 hg13
      refine ⟨ga, _, _, rfl, rfl, hg16, small1000 (by omega), fun H17 m17 => ?_⟩
      have tk17 : Tk H16 H17 := m17.tk hg16 fun _ z => by cases z
      refine ⟨_, _, _, _, _, ys ++ [.ref p16], lo ++ [(w.1, w.2, 1 + d3)], rfl, (k13.kp1 k1316).md2 m17, (hs14.sm (n15.same.trans n16.same)).md m17 hgan.1 hgan.2, m17.at_, papp (pimp (fun _ _ y => (y.tk (hs13.tk k1316)).tk tk17) hp13) (.cons ⟨p16, rfl, tk17 _ _ n16.at_⟩ .nil), by rw [List.map_append, hm13, take_next hw]; rfl, fun o ho => (List.mem_append.mp ho).elim (hl13 o) fun h => by rw [List.mem_singleton.mp h]; show (1 : Int) ≤ 1 + d3; omega⟩
    · subst e
      rw [hzl, List.take_length] at hm13
      have tkE : Tk H12 H' := fun b xs hb => k13 b _ (hs12.tup hb) (fun e => by rw [e, hga12] at hb; cases hb) hb
      have hfE := k13 _ _ hfan.1 nfg hf12
      have hpE : Paired (IsOrd H') xs os := pimp (fun _ _ y => y.tk tkE) hp12
      have hlOk : LoadOk S lo := ⟨fun l hl => by
        have hm : (l.1, l.2.1) ∈ ks := by rw [← hm13]; exact List.mem_map_of_mem (f := fun l : Int × Str × Int => (l.1, l.2.1)) hl
        have := q3 _ (g2 _ hm)
        exact ⟨this.1, this.2, hl13 l hl⟩, by
        rw [← hm13, List.pairwise_map] at g3
        exact g3, by rw [← List.length_map (f := fun l => (l.1, l.2.1)), hm13]; omega⟩
      refine ⟨_, rfl, fa, xs, rfl, hfE, fun p18 H18 n18 => ?_⟩
      refine ⟨_, rfl, ga, ys, rfl, n18.same _ _ hg13, fun p19 H19 n19 => ?_⟩
      refine ⟨sz2, fun p20 H20 n20 => ?_⟩
      have s20 := n18.same.trans (n19.same.trans n20.same)
      have k012 : Kp sp H H12 := k09.trans k912
      exact q p20 p18 p19 os lo H20 ((k13.kp k012 hgaH).trans (kp_of s20)) (hs13.sm s20) n20.at_ ⟨xs, n20.same _ _ (n19.same _ _ n18.at_), pimp (fun _ _ y => y.tk (tk_of s20)) hpE⟩ hoOk ⟨ys, n20.same _ _ n19.at_, pimp (fun _ _ y => y.tk (tk_of s20)) hp13⟩ hlOk hod
end K57
namespace K57
open PySem PySem.Spec PyProof.Rows L2
/-! ### what leads to a piece -/
def opens (S : Shop) : List (Pk Str) := S.packs.filter (·.apart)
def hasIn (w : List Str) (p : Pk Str) : Bool := (p.sheet.filter fun z => decide (z.1 ∈ w)) != []
def nearOf (S : Shop) (w : List Str) : List (Pk Str) := (opens S).filter (hasIn w)
def wantN (S : Shop) (tag : Str) : Nat → List Str
  | 0 => [tag]
  | k + 1 => wantN S tag k ++ ((nearOf S (wantN S tag k)).filter fun p => !decide (p.name ∈ wantN S tag k)).map (·.name)
def near (S : Shop) (tag : Str) (k : Nat) : List (Pk Str) := nearOf S (wantN S tag k)
theorem hasIn_iff {w : List Str} {p : Pk Str} : hasIn w p = true ↔ ∃ z ∈ p.sheet, z.1 ∈ w := by
  unfold hasIn
  rw [bne_iff_ne, ne_eq, List.filter_eq_nil_iff]
  constructor
  · intro h
    by_cases hx : ∃ z ∈ p.sheet, z.1 ∈ w
    · exact hx
    · exact absurd (fun a ha hd => hx ⟨a, ha, of_decide_eq_true hd⟩) h
  · rintro ⟨z, hz, hw⟩ h
    exact h z hz (decide_eq_true hw)
theorem near_iff {S : Shop} {tag : Str} {k : Nat} {p : Pk Str} : p ∈ near S tag k ↔ p ∈ S.packs ∧ p.apart = true ∧ ∃ z ∈ p.sheet, z.1 ∈ wantN S tag k := by
  unfold near nearOf opens
  rw [List.mem_filter, List.mem_filter, hasIn_iff, and_assoc]
theorem want_next {S : Shop} {tag : Str} {k : Nat} {x : Str} : x ∈ wantN S tag (k + 1) ↔ x ∈ wantN S tag k ∨ ∃ p ∈ near S tag k, p.name = x := by
  show x ∈ wantN S tag k ++ _ ↔ _
  rw [List.mem_append]
  constructor
  · rintro (h | h)
    · exact .inl h
    · obtain ⟨p, hp, e⟩ := List.mem_map.mp h
      exact .inr ⟨p, (List.mem_filter.mp hp).1, e⟩
  · rintro (h | ⟨p, hp, e⟩)
    · exact .inl h
    · by_cases hx : x ∈ wantN S tag k
      · exact .inl hx
      · refine .inr (List.mem_map.mpr ⟨p, List.mem_filter.mpr ⟨hp, ?_⟩, e⟩)
        rw [e, decide_eq_false hx]; rfl
/-- somewhere nothing new comes -/
def cntW (S : Shop) (tag : Str) (k : Nat) : Nat := ((opens S).filter fun p => decide (p.name ∈ wantN S tag k)).length
theorem grow {l : List (Pk Str)} {f g : Pk Str → Bool} (h : ∀ p ∈ l, f p = true → g p = true) : (l.filter f).length ≤ (l.filter g).length := by
  induction l with
  | nil => exact Nat.le_refl _
  | cons a l ih =>
    have ih := ih fun p hp => h p (List.mem_cons_of_mem _ hp)
    rw [List.filter_cons, List.filter_cons]
    cases hf : f a with
    | true => rw [h a List.mem_cons_self hf]; simpa using ih
    | false =>
      cases g a with
      | true => simp; omega
      | false => simpa using ih
theorem grow1 {l : List (Pk Str)} {f g : Pk Str → Bool} (h : ∀ p ∈ l, f p = true → g p = true) (hq : ∃ q ∈ l, f q = false ∧ g q = true) : (l.filter f).length < (l.filter g).length := by
  induction l with
  | nil => obtain ⟨q, hq, _⟩ := hq; cases hq
  | cons a l ih =>
    have hl : ∀ p ∈ l, f p = true → g p = true := fun p hp => h p (List.mem_cons_of_mem _ hp)
    have h2 := grow hl
    obtain ⟨q, hq, e1, e2⟩ := hq
    rw [List.filter_cons, List.filter_cons]
    rcases List.mem_cons.mp hq with e | hq
    · subst e
      rw [e1, e2]
      simp
      omega
    · have := ih hl ⟨q, hq, e1, e2⟩
      cases hf : f a with
      | true => rw [h a List.mem_cons_self hf]; simpa using this
      | false =>
        cases g a with
        | true => simp; omega
        | false => simpa using this
def Closed (S : Shop) (tag : Str) (m : Nat) : Prop := ∀ p ∈ near S tag m, p.name ∈ wantN S tag m
theorem closed_or (S : Shop) (tag : Str) : ∀ n : Nat, (∃ m, m < n ∧ Closed S tag m) ∨ n ≤ cntW S tag n
  | 0 => .inr (Nat.zero_le _)
  | n + 1 => by
    rcases closed_or S tag n with ⟨m, hm, hc⟩ | h
    · exact .inl ⟨m, by omega, hc⟩
    · by_cases hc : Closed S tag n
      · exact .inl ⟨n, Nat.lt_succ_self n, hc⟩
      · refine .inr ?_
        have : ∃ q ∈ near S tag n, q.name ∉ wantN S tag n := by
          by_cases hx : ∃ q ∈ near S tag n, q.name ∉ wantN S tag n
          · exact hx
          · exact absurd (fun p hp => Decidable.byContradiction fun hn => hx ⟨p, hp, hn⟩) hc
        obtain ⟨q, hq, hn⟩ := this
        have hlt : cntW S tag n < cntW S tag (n + 1) := by
          unfold cntW
          refine grow1 (fun p _ h => decide_eq_true (want_next.mpr (.inl (of_decide_eq_true h)))) ⟨q, ?_, decide_eq_false hn, decide_eq_true (want_next.mpr (.inr ⟨q, hq, rfl⟩))⟩
          unfold near nearOf at hq
          exact (List.mem_filter.mp hq).1
        omega
theorem closed_ex (S : Shop) (tag : Str) : ∃ m, m ≤ (opens S).length ∧ Closed S tag m := by
  rcases closed_or S tag ((opens S).length + 1) with ⟨m, hm, hc⟩ | h
  · exact ⟨m, by omega, hc⟩
  · have : cntW S tag ((opens S).length + 1) ≤ (opens S).length := List.length_filter_le _ _
    omega
theorem want_tag (S : Shop) (tag : Str) : ∀ k, tag ∈ wantN S tag k
  | 0 => List.mem_cons_self
  | k + 1 => want_next.mpr (.inl (want_tag S tag k))
theorem nolead_of {S : Shop} {tag : Str} {M : Str → Int} (h : ∀ j, j ≤ (opens S).length → ∀ r ∈ near S tag j, M r.name ≤ 0) : ∃ V, NoLead S.packs M tag V := by
  obtain ⟨m, hm, hc⟩ := closed_ex S tag
  refine ⟨fun x => x ∈ wantN S tag m, want_tag S tag m, fun p hp ha hz => ?_⟩
  have hn : p ∈ near S tag m := near_iff.mpr ⟨hp, ha, hz⟩
  exact ⟨hc p hn, h m hm p hn⟩
theorem opens_few {S : Shop} (hok : ShopOk S) : (opens S).length ≤ 5 := Nat.le_trans (List.length_filter_le _ _) hok.nk
/-- how long the taking apart can go on -/
def Fuel (S : Shop) (tag : Str) (M : Str → Int) (b : Nat) : Prop := b = (opens S).length + 2 ∨ (b = 0 ∧ 0 < M tag) ∨ ∃ j, b = j + 1 ∧ j ≤ (opens S).length ∧ ∃ q ∈ near S tag j, 0 < M q.name
/-- a pack found at lap k, taken apart -/
theorem fuel_next {S : Shop} {rk : Str → Nat} (W : Wf S.packs rk) {tag : Str} {M M' : Str → Int} {b k : Nat} {p : Pk Str} (hM : ∀ x, 0 ≤ M x) (hb : Fuel S tag M b) (ht : ¬ 0 < M tag) (hk : k ≤ (opens S).length) (hp : p ∈ near S tag k) (h0 : 0 < M p.name)
    (hmin : ∀ j, j < k → ∀ r ∈ near S tag j, M r.name ≤ 0) (hM' : ∀ x, M' x = M x - dl p.name x + cnt p.sheet x) : ∃ b', b' < b ∧ Fuel S tag M' b' := by
  obtain ⟨hpp, hpa, z, hz, hzw⟩ := near_iff.mp hp
  have hkb : k < b := by
    rcases hb with e | ⟨_, h⟩ | ⟨j, e, hj, q, hq, hq0⟩
    · omega
    · exact absurd h ht
    · rcases Nat.lt_or_ge j k with y | y
      · have := hmin j y q hq
        omega
      · omega
  have hrk := W.rank p hpp z hz
  have hne : p.name ≠ z.1 := fun e => by rw [e] at hrk; exact Nat.lt_irrefl _ hrk
  have hpos : 0 < M' z.1 := by
    rw [hM', show dl p.name z.1 = 0 from if_neg hne]
    have h1 := hM z.1
    have h2 : 1 ≤ cnt p.sheet z.1 := by
      have key : ∀ l : List (Str × Int), (∀ q ∈ l, 1 ≤ q.2) → z ∈ l → 1 ≤ cnt l z.1 := by
        intro l
        induction l with
        | nil => intro _ h; cases h
        | cons a l ih =>
          intro hl hm
          have hl' : ∀ q ∈ l, 1 ≤ q.2 := fun q hq => hl q (List.mem_cons_of_mem _ hq)
          have h0 : 0 ≤ cnt l z.1 := cnt_nonneg fun q hq => by have := hl' q hq; omega
          have ha := hl a List.mem_cons_self
          show 1 ≤ (if a.1 = z.1 then a.2 else 0) + cnt l z.1
          rcases List.mem_cons.mp hm with e | hm
          · subst e
            rw [if_pos rfl]; omega
          · have := ih hl' hm
            split <;> omega
      exact key _ (W.pos p hpp) hz
    omega
  cases k with
  | zero =>
    have e : z.1 = tag := List.mem_singleton.mp hzw
    exact ⟨0, hkb, .inr (.inl ⟨rfl, by rw [← e]; exact hpos⟩)⟩
  | succ k =>
    rcases want_next.mp hzw with h | ⟨q, hq, e⟩
    · exfalso
      have := hmin k (Nat.lt_succ_self k) p (near_iff.mpr ⟨hpp, hpa, z, hz, h⟩)
      omega
    · exact ⟨k + 1, hkb, .inr (.inr ⟨k, rfl, by omega, q, hq, by rw [e]; exact hpos⟩)⟩
/-- parts that come change no netting -/
theorem step_more {ps : List (Pk Str)} {part : Str → Prop} {d M M' e : Str → Int} (h : Step ps part d M M') (he : ∀ p ∈ ps, e p.name = 0) : Step ps part d (fun x => M x + e x) (fun x => M' x + e x) := by
  have sol : ∀ {M r A : Str → Int}, Sol ps (fun x => M x + e x) r A ↔ Sol ps M r A := by
    intro M r A
    unfold Sol
    have t : ∀ p ∈ ps, turn (fun x => M x + e x) A p = turn M A p := fun p hp => turn_eq (by show A p.name - (M p.name + e p.name) = _; rw [he p hp]; omega)
    have tt : ∀ x, sumI (fun p => cnt p.sheet x * turn (fun x => M x + e x) A p) ps = sumI (fun p => cnt p.sheet x * turn M A p) ps := fun x => sumI_congr fun p hp => by rw [t p hp]
    exact ⟨fun h x => by rw [← tt x]; exact h x, fun h x => by rw [tt x]; exact h x⟩
  intro r s A hr hs hA
  obtain ⟨A', h1, h2⟩ := h r s A hr hs (sol.mp hA)
  exact ⟨A', sol.mpr h1, fun x hx => by have := h2 x hx; show M' x + e x - A' x = M x + e x - A x; omega⟩
theorem asOf_there (S : Shop) (hok : ShopOk S) (x : Str) : asOf (thereL S) x = M0 S x := getL_cnt _ _ (by rw [there_keys]; exact hok.nd)
/-- what the hand's walk tells of a day -/
def FineA (S : Shop) (os : Ords) (ls : Lds) (i : Nat) : Prop := ∀ A, Sol S.packs (M0 S) (cum os (i + 1)) A → ∀ x, isPart S x → 0 ≤ leftOf S os ls i A x
def LateA (S : Shop) (os : Ords) (ls : Lds) (i : Nat) : Prop := ∀ A, Sol S.packs (M0 S) (cum os (i + 1)) A → ∃ x, isPart S x ∧ leftOf S os ls i A x < 0
def HandAns (S : Shop) (os : Ords) (ls : Lds) (r : Option Int) : Prop := (r = none ∧ ∀ j, j < os.length → FineA S os ls j) ∨ ∃ k, k < os.length ∧ r = some (dayOf os k) ∧ LateA S os ls k ∧ ∀ j, j < k → FineA S os ls j
theorem fine_late {S : Shop} {os : Ords} {ls : Lds} {i : Nat} (h1 : FineA S os ls i) (h2 : Late S os ls i) : False := by
  obtain ⟨A, hA, x, hx, hl⟩ := h2
  have := h1 A hA x hx
  omega
theorem late_fine {S : Shop} {os : Ords} {ls : Lds} {i : Nat} (h1 : LateA S os ls i) (h2 : Fine S os ls i) : False := by
  obtain ⟨A, hA, h⟩ := h2
  obtain ⟨x, hx, hl⟩ := h1 A hA
  have := h x hx
  omega
/-- THE AGREEMENT: hand and netting -/
theorem ans_eq {S : Shop} {os : Ords} {ls : Lds} {r q : Option Int} (h : HandAns S os ls r) (g : LateAns S os ls q) : r = q := by
  rcases h with ⟨rfl, h⟩ | ⟨k, hk, rfl, h1, h2⟩
  · rcases g with ⟨rfl, g⟩ | ⟨m, hm, rfl, g1, g2⟩
    · rfl
    · exact (fine_late (h m hm) g1).elim
  · rcases g with ⟨rfl, g⟩ | ⟨m, hm, rfl, g1, g2⟩
    · exact (late_fine h1 (g k hk)).elim
    · rcases Nat.lt_trichotomy k m with c | c | c
      · exact (late_fine h1 (g2 k c)).elim
      · rw [c]
      · exact (fine_late (h2 m c) g1).elim
/-- all days give some netting: two hands agree through the program's answer, or here directly when a netting exists -/
theorem hand_eq {S : Shop} {os : Ords} {ls : Lds} {r q : Option Int} (h : HandAns S os ls r) (g : HandAns S os ls q) (ex : ∀ i, i < os.length → ∃ A, Sol S.packs (M0 S) (cum os (i + 1)) A) : r = q := by
  refine ans_eq h ?_
  have fine : ∀ j, j < os.length → FineA S os ls j → Fine S os ls j := fun j hj f => by
    obtain ⟨A, hA⟩ := ex j hj
    exact ⟨A, hA, f A hA⟩
  rcases g with ⟨e, g⟩ | ⟨k, hk, e, g1, g2⟩
  · exact .inl ⟨e, fun j hj => fine j hj (g j hj)⟩
  · obtain ⟨A, hA⟩ := ex k hk
    exact .inr ⟨k, hk, e, ⟨A, hA, g1 A hA⟩, fun j hj => fine j (by omega) (g2 j hj)⟩
/-- there is a netting -/
theorem sol_ex {S : Shop} (hok : ShopOk S) (M r : Str → Int) : ∃ A, Sol S.packs M r A := by
  obtain ⟨rk, W, _⟩ := hok.rk
  have key : ∀ l : List (Pk Str), (∀ p ∈ l, p ∈ S.packs) → l.Pairwise (fun p q => rk p.name ≤ rk q.name) → ∃ a : Str → Int, ∀ x, a x = r x + sumI (fun p => cnt p.sheet x * turn M a p) l := by
    intro l
    induction l with
    | nil => intro _ _; exact ⟨r, fun x => (Int.add_zero _).symm⟩
    | cons q l ih =>
      intro hm hp
      rw [List.pairwise_cons] at hp
      obtain ⟨a, ha⟩ := ih (fun p h => hm p (List.mem_cons_of_mem _ h)) hp.2
      have hq := hm q List.mem_cons_self
      obtain ⟨a', ha'⟩ : ∃ a' : Str → Int, ∀ x, a' x = a x + cnt q.sheet x * turn M a q := ⟨_, fun _ => rfl⟩
      have := sol_next ha (fun p h => cnt_zero fun z hz e => by
        have h1 := W.rank q hq z hz
        have h2 := hp.1 p h
        rw [e] at h1
        omega) (cnt_zero fun z hz e => by
        have h1 := W.rank q hq z hz
        rw [e] at h1
        exact Nat.lt_irrefl _ h1) ha'
      exact ⟨a', fun x => by rw [this x, sumI_append]; show r x + (_ + (_ + 0)) = r x + (_ + _); omega⟩
  have hs := List.pairwise_mergeSort (le := fun p q : Pk Str => decide (rk p.name ≤ rk q.name)) (fun a b c h1 h2 => decide_eq_true (Nat.le_trans (of_decide_eq_true h1) (of_decide_eq_true h2))) (fun a b => by
    rcases Nat.le_total (rk a.name) (rk b.name) with h | h
    · rw [decide_eq_true h]; rfl
    · rw [decide_eq_true h, Bool.or_true]) S.packs
  have hperm := List.mergeSort_perm S.packs (fun p q : Pk Str => decide (rk p.name ≤ rk q.name))
  obtain ⟨a, ha⟩ := key _ (fun p hp => hperm.mem_iff.mp hp) (hs.imp fun h => of_decide_eq_true h)
  exact ⟨a, fun x => by rw [ha x, sumI_perm hperm]⟩
end K57
namespace K57
open PySem PySem.Spec PyProof.Rows L2
variable {P : Program} {w : World} {K : PySem.W.Frag} {mg : Str → Option Value} {base : Heap}
def Cur (H : Hp) (d : Addr) (S : Shop) (ml : List (Str × Int)) : Prop := H d = some (.dK (encK ml)) ∧ ml.map (·.1) = arts S
theorem Cur.get {H : Hp} {d : Addr} {S : Shop} {ml : List (Str × Int)} (h : Cur H d S ml) {x : Str} (hx : x ∈ arts S) : DGet H d (.str x) (some (.int (asOf ml x))) := dgetL h.1 (asOf_get h.2 hx)
theorem Cur.sm {H H' : Hp} {d : Addr} {S : Shop} {ml : List (Str × Int)} (s : Same H H') (h : Cur H d S ml) : Cur H' d S ml := ⟨s _ _ h.1, h.2⟩
theorem pk_art {S : Shop} {p : Pk Str} (hp : p ∈ S.packs) : p.name ∈ arts S := List.mem_append_right _ (List.mem_map_of_mem hp)
theorem pks_empty (l : List (Pk Str)) : PyData.eqv (.list (l.map pkD)) (.list []) = decide (l = []) := by
  cases l with
  | nil => simp [PyData.eqv, PyData.eqvAll]
  | cons n ns => simp [PyData.eqv, PyData.eqvAll]
def sp_law_leading : Sp := fun vs H Q _ => ∃ (t d : Addr) (S : Shop) (ml : List (Str × Int)) (tag : Str), vs = [.ref t, .ref d, .str tag] ∧ ShopAt H t S ∧ ShopOk S ∧ Cur H d S ml ∧
  (∀ v p k H', Same H H' → IsPk H' v p → k ≤ (opens S).length → p ∈ near S tag k → 0 < asOf ml p.name → (∀ j, j < k → ∀ r ∈ near S tag j, asOf ml r.name ≤ 0) → Q v H') ∧
  (∀ H', Same H H' → (∀ j, j ≤ (opens S).length → ∀ r ∈ near S tag j, asOf ml r.name ≤ 0) → Q .non H')
/-! ### law_leading: 0 _law_store, 1 _law_there_here, 2 _law_tag, 3 _law_packs, 4 _law_wanted, 5 _law_one, 6 _law_lap, 7 _law_near, 8 _law_pair, 9 _law_some_here -/
abbrev N_law_leading : List Str := ["_law_store", "_law_there_here", "_law_tag", "_law_packs", "_law_wanted", "_law_one", "_law_lap", "_law_near", "_law_pair", "_law_some_here"]
theorem sc_law_leading : FnScope N_law_leading ["_law_store", "_law_there_here", "_law_tag"] (defScope s_law_leading) := ⟨rfl, rfl, rfl, by decide +kernel, rfl, by decide +kernel, by decide +kernel⟩
theorem ok_law_leading (T : Tx K mg) : OkF P w K mg base "_law_leading" 1 ["_law_store", "_law_there_here", "_law_tag"] [] sp_law_leading := by
  refine okF_mk d_law_leading T (fn_mem 47 rfl) rfl rfl sc_law_leading (fun _ _ _ _ _ _ us hl => match us, hl with | [_, _, _], _ => rfl) (fun vs H Q E h => ?_) (fun f cdv A outer s H vs Q E hr h => ?_)
  · first | (obtain ⟨_, rfl, _⟩ := h; rfl) | (obtain ⟨_, _, rfl, _⟩ := h; rfl) | (obtain ⟨_, _, _, rfl, _⟩ := h; rfl) | (obtain ⟨_, _, _, _, rfl, _⟩ := h; rfl) | (obtain ⟨_, _, _, _, _, rfl, _⟩ := h; rfl) | (obtain ⟨_, _, _, _, _, _, rfl, _⟩ := h; rfl) | (obtain ⟨_, _, _, _, _, _, _, rfl, _⟩ := h; rfl)
  · have hu := hu_of hr
    have hu65 := hu65_of hr
    refine ⟨_, (pss_cons (ps_asg (pe_tupN (pa_cons (pe_lc (own := [("_law_one", 5)]) (g := (gName 5)) rfl sc_law_leading.nd (pi_tupN (pe_ix ix_tupN (pv 0) pe_int (fun _ _ => rfl))) (blkOk_by (N := N_law_leading) (sc := (defScope s_law_leading)) (own := [("_law_one", 5)]) (by decide +kernel)) (fun _ _ _ _ _ => (pg_name (i := 5) sc_law_leading.nd rfl (by first | exact Or.inl rfl | exact Or.inr rfl))) (fun _ _ _ _ _ => pts_one (pt_val (pe_ix ix_tupN (pv 5) pe_int (fun _ _ => rfl)))) (fun _ _ _ _ _ => (pv 5))) (pa_cons (pe_lstN (pa_cons (pv 2) pa_nil)) pa_nil))) (pg_tupN rfl (pgs_cons (pg_name (i := 3) sc_law_leading.nd rfl (by first | exact Or.inl rfl | exact Or.inr rfl)) (pgs_cons (pg_name (i := 4) sc_law_leading.nd rfl (by first | exact Or.inl rfl | exact Or.inr rfl)) pgs_nil))))
      (pss_cons (ps_for PassesOwn.never rfl (pi_range1 (by rfl) T.m_range (pa_cons (pe_op op_add (pe_callB call_len_seqN (by rfl) T.m_len b_len (pa_cons (pv 3) pa_nil)) pe_int) pa_nil)) (pg_name (i := 6) sc_law_leading.nd rfl (by first | exact Or.inl rfl | exact Or.inr rfl))
        (pss_cons (ps_setLc (i := 7) (own := [("_law_one", 5)]) (g := (gName 5)) rfl sc_law_leading.nd rfl rfl (sw_true rfl rfl rfl (by decide +kernel)) (pi_lstN (pv 3)) (blkOk_by (N := N_law_leading) (sc := (defScope s_law_leading)) (own := [("_law_one", 5)]) (by decide +kernel)) (fun _ _ _ _ _ => (pg_name (i := 5) sc_law_leading.nd rfl (by first | exact Or.inl rfl | exact Or.inr rfl))) (fun _ _ _ _ _ => pts_one (pt_cmpR (op_neN hu65) (pe_lc (own := [("_law_pair", 8)]) (g := (gName 8)) rfl sc_law_leading.nd (pi_tupN (pe_ix ix_tupN (pv 5) pe_int (fun _ _ => rfl))) (blkOk_by (N := N_law_leading) (sc := (relS _ (defScope s_law_leading))) (own := [("_law_pair", 8)]) (by decide +kernel)) (fun _ _ _ _ _ => (pg_name (i := 8) sc_law_leading.nd rfl (by first | exact Or.inl rfl | exact Or.inr rfl))) (fun _ _ _ _ _ => pts_one (pt_cmpR op_inN (pe_ix ix_tupN (pv 8) pe_int (fun _ _ => rfl)) (pv 4) (by first | exact nomark _ | rfl))) (fun _ _ _ _ _ => (pv 8))) (pe_lstN pa_nil) (by first | exact nomark _ | rfl))) (fun _ _ _ _ _ => (pv 5)))
        (pss_cons (ps_setLc (i := 9) (own := [("_law_one", 5)]) (g := (gName 5)) rfl sc_law_leading.nd rfl rfl (sw_true rfl rfl rfl (by decide +kernel)) (pi_lstN (pv 7)) (blkOk_by (N := N_law_leading) (sc := (defScope s_law_leading)) (own := [("_law_one", 5)]) (by decide +kernel)) (fun _ _ _ _ _ => (pg_name (i := 5) sc_law_leading.nd rfl (by first | exact Or.inl rfl | exact Or.inr rfl))) (fun _ _ _ _ _ => pts_one (pt_cmpR op_gt (pe_dget hu (pv 1) (pe_ix ix_tupN (pv 5) pe_int (fun _ _ => rfl)) (fun _ _ => rfl)) pe_int (by first | exact nomark _ | rfl))) (fun _ _ _ _ _ => (pv 5)))
        (pss_cons (ps_if (pt_cmpR (op_neN hu65) (pv 9) (pe_lstN pa_nil) (by first | exact nomark _ | rfl))
          (pss_one (ps_ret (pe_ix ix_listN (pv 9) pe_int (fun _ _ => rfl)))) pss_nil)
        (pss_one (ps_set (i := 4) sc_law_leading.nd rfl (by first | exact Or.inl rfl | exact Or.inr rfl) (pe_op op_catN (pv 4) (pe_lc (own := [("_law_one", 5)]) (g := (gName 5)) rfl sc_law_leading.nd (pi_lstN (pv 7)) (blkOk_by (N := N_law_leading) (sc := (defScope s_law_leading)) (own := [("_law_one", 5)]) (by decide +kernel)) (fun _ _ _ _ _ => (pg_name (i := 5) sc_law_leading.nd rfl (by first | exact Or.inl rfl | exact Or.inr rfl))) (fun _ _ _ _ _ => pts_one (pt_cmpR op_notInN (pe_ix ix_tupN (pv 5) pe_int (fun _ _ => rfl)) (pv 4) (by first | exact nomark _ | rfl))) (fun _ _ _ _ _ => (pe_ix ix_tupN (pv 5) pe_int (fun _ _ => rfl)))))))))))
      (pss_one (ps_ret pe_non)))), ?_⟩
    obtain ⟨t, d, S, ml, tag, rfl, hS, hok, hC, qf, qn⟩ := h
    obtain ⟨pa, pb, pc, xs, ys, k1, k2, k3, k4, k5, k6⟩ := hS.ex
    have hlen := plen k6
    have hnk := hok.nk
    have hpk := hok.pk
    have hop := opens_few hok
    refine ⟨_, rfl, t, _, _, _, rfl, rfl, k1, atI_nat (j := 2) rfl, pc, rfl, ⟨ys, k5⟩, fun _ => lcTup k5 (small1000 (by omega)) (fun i acc H => Paired (IsPk H) acc ((S.packs.take i).filter (·.apart))) (fun _ _ _ _ k h => pimp (fun _ _ z => z.tk k) h) .nil (fun Ky Kn i x acc H1 hx s1 g ky kn => ?_) (fun oa acc H1 hD s1 hA hlA g => ?_)⟩
    · obtain ⟨p, hp, ip⟩ := pget k6 hx
      obtain ⟨t2, u, zs, rfl, ht2, hu2, hz2⟩ := id ip
      refine ⟨rfl, _, rfl, t2, _, _, _, rfl, rfl, s1 _ _ ht2, atI_nat (j := 2) rfl, p.apart, rfl, ?_⟩
      refine iteB (fun hb => ?_) (fun hb => ?_)
      · refine ⟨_, rfl, ?_⟩
        refine ky _ _ (Same.refl _) ?_
        rw [filt_next _ hp, if_pos hb]
        exact papp g (.cons (ip.tk (tk_of s1)) .nil)
      · refine kn _ (Same.refl _) ?_
        rw [filt_next _ hp, if_neg (by rw [hb]; decide), List.append_nil]
        exact g
    rw [hlen, List.take_length] at g
    have g : Paired (IsPk H1) acc (opens S) := g
    refine ⟨_, rfl, show 1 ≤ sizeLine by decide, fun wa H2 n2 => ?_⟩
    refine ⟨sz2, fun t3 H3 n3 => ?_⟩
    refine ⟨t3, _, rfl, n3.at_, rfl, _, _, rfl, _, _, rfl, rfl, ?_⟩
    have s13 := n2.same.trans n3.same
    have s3 : Same H H3 := s1.trans s13
    have hoa3 := s13 _ _ hA
    have g3 : Paired (IsPk H3) acc (opens S) := pimp (fun _ _ z => z.tk (tk_of s13)) g
    have hlo := plen g3
    refine ⟨_, rfl, oa, _, rfl, .inl hoa3, _, _, rfl, rfl, _, rfl, by omega, by omega, for_range (n := ((acc.length : Int) + 1).toNat) (fun k σ H' => ∃ (x5 x6 x7 x8 x9 : Option V) (wa : Addr), σ = [some (.ref t), some (.ref d), some (.str tag), some (.ref oa), some (.ref wa), x5, x6, x7, x8, x9] ∧ Same H3 H' ∧ H' wa = some (.lst ((wantN S tag k).map V.str)) ∧ (wantN S tag k).length ≤ 1 + 5 * k ∧ ∀ j, j < k → ∀ r ∈ near S tag j, asOf ml r.name ≤ 0)
      ⟨none, none, none, none, none, wa, rfl, Same.refl _, n3.same _ _ n2.at_, Nat.le_refl _, fun j hj => absurd hj (Nat.not_lt_zero j)⟩
      (fun k σ H' hk ⟨x5, x6, x7, x8, x9, wa, e, s4, hw4, hwl, hmin⟩ => ?_) (fun σ H' ⟨x5, x6, x7, x8, x9, wa, e, s4, hw4, hwl, hmin⟩ => ?_)⟩
    · subst e
      have hkl : k ≤ (opens S).length := by omega
      have hoa4 := s4 _ _ hoa3
      have g4 : Paired (IsPk H') acc (opens S) := pimp (fun _ _ z => z.tk (tk_of s4)) g3
      have hom : ∀ p ∈ opens S, p ∈ S.packs := fun p hp => (List.mem_filter.mp hp).1
      -- near
      refine ⟨_, rfl, oa, rfl, ⟨_, hoa4⟩, fun _ => lcLst hoa4 (small1000 (by omega)) (fun i acc H => Paired (IsPk H) acc (((opens S).take i).filter (hasIn (wantN S tag k)))) (fun _ _ _ _ k h => pimp (fun _ _ z => z.tk k) h) .nil (fun Ky Kn i x acc0 H5 hx s5 g5 ky kn => ?_) (fun na acc5 H5 hD5 s5 hA5 hl5 g5 => ?_)⟩
      · obtain ⟨p, hp, ip⟩ := pget g4 hx
        have hpm := hom p (List.mem_of_getElem? hp)
        obtain ⟨t2, u, zs, rfl, ht2, hu2, hz2⟩ := id ip
        have hlz := plen hz2
        have hsz := hok.ns p hpm
        refine ⟨rfl, _, rfl, t2, _, _, _, rfl, rfl, s5 _ _ ht2, atI_nat (j := 3) rfl, u, rfl, ⟨_, s5 _ _ hu2⟩, fun _ => lcTup (s5 _ _ hu2) (small1000 (by omega)) (fun i acc H => Paired (IsP H) acc ((p.sheet.take i).filter fun z => decide (z.1 ∈ wantN S tag k))) (fun _ _ _ _ k h => pimp (fun _ _ z => z.tk k) h) .nil (fun Ky2 Kn2 j y acc2 H6 hy s6 g6 ky2 kn2 => ?_) (fun la acc6 H6 hD6 s6 hA6 hl6 g6 => ?_)⟩
        · obtain ⟨z, hz, iz⟩ := pget hz2 hy
          obtain ⟨t8, rfl, ht8⟩ := id iz
          refine ⟨rfl, _, rfl, t8, _, _, _, rfl, rfl, s6 _ _ (s5 _ _ ht8), atI_nat (j := 0) rfl, _, rfl, z.1, wa, _, rfl, rfl, s6 _ _ (s5 _ _ hw4), _, rfl, ?_⟩
          refine iteB (fun hb => ?_) (fun hb => ?_)
          · refine ⟨_, rfl, ?_⟩
            refine ky2 _ _ (Same.refl _) ?_
            rw [filt_next _ hz, if_pos (show decide (z.1 ∈ wantN S tag k) = true from hb)]
            exact papp g6 (.cons (iz.tk (tk_of (s5.trans s6))) .nil)
          · refine kn2 _ (Same.refl _) ?_
            rw [filt_next _ hz, if_neg (by rw [show decide (z.1 ∈ wantN S tag k) = false from hb]; decide), List.append_nil]
            exact g6
        · rw [hlz, List.take_length] at g6
          refine ⟨by decide, fun p7 H7 n7 => ?_⟩
          refine ⟨.list ((p.sheet.filter fun z => decide (z.1 ∈ wantN S tag k)).map pD), .list [], .lst (n7.same _ _ hA6) (pmap pD (fun _ _ z => (z.tk (tk_of n7.same)).dt) g6), .lst n7.at_ .nil, pairs_shaped fun z hz => (hpk p hpm).2 z (List.mem_filter.mp hz).1, by decide, _, rfl, ?_⟩
          rw [pairs_empty]
          have s7 := s6.trans n7.same
          have eh : (!decide ((p.sheet.filter fun z => decide (z.1 ∈ wantN S tag k)) = [])) = hasIn (wantN S tag k) p := by
            unfold hasIn
            cases p.sheet.filter fun z => decide (z.1 ∈ wantN S tag k) <;> rfl
          refine iteB (fun hb => ?_) (fun hb => ?_)
          · refine ⟨_, rfl, ?_⟩
            refine ky _ _ s7 ?_
            rw [filt_next _ hp, if_pos (by rw [← eh]; exact hb)]
            exact papp (pimp (fun _ _ z => z.tk (tk_of s7)) g5) (.cons (ip.tk (tk_of (s5.trans s7))) .nil)
          · refine kn _ s7 ?_
            rw [filt_next _ hp, if_neg (by rw [← eh, show (!decide ((p.sheet.filter fun z => decide (z.1 ∈ wantN S tag k)) = [])) = false from hb]; decide), List.append_nil]
            exact pimp (fun _ _ z => z.tk (tk_of s7)) g5
      rw [hlo, List.take_length] at g5
      have g5 : Paired (IsPk H5) acc5 (near S tag k) := g5
      have hln := plen g5
      have hnl : (near S tag k).length ≤ 5 := Nat.le_trans (List.length_filter_le _ _) hop
      have hnm : ∀ p ∈ near S tag k, p ∈ S.packs := fun p hp => (near_iff.mp hp).1
      have hC5 : Cur H5 d S ml := (hC.sm s3).sm (s4.trans s5)
      -- some
      refine ⟨_, rfl, na, rfl, ⟨_, hA5⟩, fun _ => lcLst hA5 (small1000 (by omega)) (fun i acc H => Paired (IsPk H) acc (((near S tag k).take i).filter fun p => decide (0 < asOf ml p.name))) (fun _ _ _ _ k h => pimp (fun _ _ z => z.tk k) h) .nil (fun Ky Kn i x acc0 H6 hx s6 g6 ky kn => ?_) (fun sa acc6 H6 hD6 s6 hA6 hl6 g6 => ?_)⟩
      · obtain ⟨p, hp, ip⟩ := pget g5 hx
        have hpm := hnm p (List.mem_of_getElem? hp)
        obtain ⟨t2, u, zs, rfl, ht2, hu2, hz2⟩ := id ip
        refine ⟨rfl, _, rfl, _, rfl, t2, _, _, _, rfl, rfl, s6 _ _ ht2, atI_nat (j := 0) rfl, d, _, rfl, (hC5.sm s6).get (pk_art hpm), _, _, rfl, rfl, _, rfl, ?_⟩
        refine iteB (fun hb => ?_) (fun hb => ?_)
        · refine ⟨_, rfl, ?_⟩
          refine ky _ _ (Same.refl _) ?_
          rw [filt_next _ hp, if_pos (show decide (0 < asOf ml p.name) = true from hb)]
          exact papp g6 (.cons (ip.tk (tk_of s6)) .nil)
        · refine kn _ (Same.refl _) ?_
          rw [filt_next _ hp, if_neg (by rw [show decide (0 < asOf ml p.name) = false from hb]; decide), List.append_nil]
          exact g6
      rw [hln, List.take_length] at g6
      obtain ⟨so, hso⟩ : ∃ so, so = (near S tag k).filter fun p => decide (0 < asOf ml p.name) := ⟨_, rfl⟩
      rw [← hso] at g6
      have hsm : ∀ p ∈ so, p ∈ near S tag k ∧ 0 < asOf ml p.name := fun p hp => by
        rw [hso] at hp
        obtain ⟨h1, h2⟩ := List.mem_filter.mp hp
        exact ⟨h1, of_decide_eq_true h2⟩
      refine ⟨_, rfl, by decide, fun p7 H7 n7 => ?_⟩
      refine ⟨.list (so.map pkD), .list [], .lst (n7.same _ _ hA6) (pmap pkD (fun _ _ z => (z.tk (tk_of n7.same)).dt) g6), .lst n7.at_ .nil, pks_shaped fun p hp => hpk p (hnm p (hsm p hp).1), by decide, _, rfl, ?_⟩
      rw [pks_empty]
      have s37 : Same H3 H7 := s4.trans (s5.trans (s6.trans n7.same))
      refine iteB (fun hb => ?_) (fun hb => ?_)
      · cases so with
        | nil => rw [decide_eq_true rfl] at hb; cases hb
        | cons p so =>
          cases g6 with
          | cons r g6 =>
            refine ⟨_, rfl, sa, _, _, _, rfl, rfl, n7.same _ _ hA6, atI_nat (j := 0) rfl, ?_⟩
            exact qf _ p k H7 (s3.trans s37) (r.tk (tk_of n7.same)) hkl (hsm p List.mem_cons_self).1 (hsm p List.mem_cons_self).2 hmin
      · have hse : so = [] := by
          cases so with
          | nil => rfl
          | cons p so => rw [decide_eq_false (by simp)] at hb; cases hb
        have hmin' : ∀ j, j < k + 1 → ∀ r ∈ near S tag j, asOf ml r.name ≤ 0 := fun j hj r hr => by
          rcases Nat.lt_or_ge j k with y | y
          · exact hmin j y r hr
          · have ej : j = k := by omega
            subst ej
            refine Int.not_lt.mp fun h => ?_
            have : r ∈ so := by rw [hso]; exact List.mem_filter.mpr ⟨hr, decide_eq_true h⟩
            rw [hse] at this
            cases this
        have hw7 := n7.same _ _ (s6 _ _ (s5 _ _ hw4))
        have hna7 := n7.same _ _ (s6 _ _ hA5)
        have g7 : Paired (IsPk H7) acc5 (near S tag k) := pimp (fun _ _ z => z.tk (tk_of (s6.trans n7.same))) g5
        refine ⟨_, rfl, _, rfl, na, rfl, ⟨_, hna7⟩, fun _ => lcLst hna7 (small1000 (by omega)) (fun i acc _ => acc = ((((near S tag k).take i).filter fun p => !decide (p.name ∈ wantN S tag k)).map (·.name)).map V.str) (fun _ _ _ _ _ h => h) rfl (fun Ky Kn i x acc0 H8 hx s8 g8 ky kn => ?_) (fun ea acc8 H8 hD8 s8 hA8 hl8 g8 => ?_)⟩
        · obtain ⟨p, hp, t2, u, zs, rfl, ht2, _⟩ := pget g7 hx
          refine ⟨rfl, _, rfl, t2, _, _, _, rfl, rfl, s8 _ _ ht2, atI_nat (j := 0) rfl, _, rfl, p.name, wa, _, rfl, rfl, s8 _ _ hw7, _, rfl, ?_⟩
          refine iteB (fun hb => ?_) (fun hb => ?_)
          · refine ⟨_, rfl, t2, _, _, _, rfl, rfl, s8 _ _ ht2, atI_nat (j := 0) rfl, ?_⟩
            refine ky _ _ (Same.refl _) ?_
            subst g8
            rw [filt_next _ hp, if_pos (show (!decide (p.name ∈ wantN S tag k)) = true from hb), List.map_append, List.map_append]; rfl
          · refine kn _ (Same.refl _) ?_
            subst g8
            rw [filt_next _ hp, if_neg (by rw [show (!decide (p.name ∈ wantN S tag k)) = false from hb]; decide), List.append_nil]
        · rw [hln, List.take_length] at g8
          subst g8
          have hel : (((near S tag k).filter fun p => !decide (p.name ∈ wantN S tag k)).map (·.name)).length ≤ 5 := by
            rw [List.length_map]
            exact Nat.le_trans (List.length_filter_le _ _) hnl
          refine ⟨wa, ea, _, _, rfl, rfl, s8 _ _ hw7, hA8, by rw [List.length_map, List.length_map]; exact Nat.le_of_lt (small1000 (by omega)), fun wa2 H9 n9 => ?_⟩
          refine ⟨_, _, _, _, _, wa2, rfl, s37.trans (s8.trans n9.same), by rw [n9.at_, ← List.map_append]; rfl, ?_, hmin'⟩
          show (wantN S tag k ++ _).length ≤ _
          rw [List.length_append]
          have : (((nearOf S (wantN S tag k)).filter fun p => !decide (p.name ∈ wantN S tag k)).map (·.name)).length ≤ 5 := hel
          omega
    · subst e
      refine qn H' (s3.trans s4) fun j hj r hr => hmin j (by omega) r hr
end K57
namespace K57
open PySem PySem.Spec PyProof.Rows L2
variable {P : Program} {w : World} {K : PySem.W.Frag} {mg : Str → Option Value} {base : Heap}
def NonNeg (ml : List (Str × Int)) : Prop := ∀ x, 0 ≤ asOf ml x
theorem NonNeg.put {ml : List (Str × Int)} (h : NonNeg ml) {x : Str} {v : Int} (hv : 0 ≤ v) : NonNeg (putL ml x v) := fun y => by
  rw [asOf_put]
  split
  · exact hv
  · exact h y
theorem dl_nonneg (a x : Str) : 0 ≤ dl a x := by unfold dl; split <;> decide
theorem Cur.put {H H' : Hp} {d : Addr} {S : Shop} {ml : List (Str × Int)} (h : Cur H d S ml) {x : Str} (hx : x ∈ arts S) (v : Int) (m : Md H d (.dK (encK (putL ml x v))) H') : Cur H' d S (putL ml x v) := ⟨m.at_, putL_keep h.2 v hx⟩
theorem Cur.dput {H : Hp} {d : Addr} {S : Shop} {ml : List (Str × Int)} (hok : ShopOk S) (h : Cur H d S ml) (x : Str) (v : Int) : ∃ H4, DPut H d (.str x) (.int v) H4 ∧ Md H d (.dK (encK (putL ml x v))) H4 :=
  dputL x v h.1 (by rw [h.2]; exact hok.nd) (small1000 (by rw [← List.length_map (f := (·.1)), h.2]; have := arts_len hok; omega))
theorem not_non (a : Addr) : V.bl (decide (V.ref a = V.non)) = V.bl false := congrArg V.bl (decide_eq_false (fun h => by cases h))
def sp_law_got (n : Nat) : Sp := fun vs H Q _ => ∃ (t d : Addr) (S : Shop) (ml : List (Str × Int)) (tag : Str) (rk : Str → Nat), vs = [.ref t, .ref d, .str tag] ∧ rk tag < n ∧ ShopAt H t S ∧ ShopOk S ∧ Wf S.packs rk ∧ Cur H d S ml ∧ NonNeg ml ∧ tag ∈ arts S ∧
  (∀ p H' ml', Same H H' → H p = none → Cur H' p S ml' → NonNeg ml' → Step S.packs (isPart S) (dl tag) (asOf ml) (asOf ml') → Q (.ref p) H') ∧ (∀ H', Same H H' → Bad S.packs (isPart S) (dl tag) (asOf ml) → Q .non H')
def sp_law_built (n : Nat) : Sp := fun vs H Q _ => ∃ (t d : Addr) (S : Shop) (ml : List (Str × Int)) (tag : Str) (rk : Str → Nat), vs = [.ref t, .ref d, .str tag] ∧ rk tag ≤ n ∧ ShopAt H t S ∧ ShopOk S ∧ Wf S.packs rk ∧ Cur H d S ml ∧ NonNeg ml ∧ tag ∈ arts S ∧ (∃ V, NoLead S.packs (asOf ml) tag V) ∧ asOf ml tag = 0 ∧
  (∀ p H' ml', Same H H' → (p = d ∨ H p = none) → Cur H' p S ml' → NonNeg ml' → Step S.packs (isPart S) (dl tag) (asOf ml) (asOf ml') → Q (.ref p) H') ∧ (∀ H', Same H H' → Bad S.packs (isPart S) (dl tag) (asOf ml) → Q .non H')
theorem cnt_take_le {l : List (Str × Int)} (h : ∀ q ∈ l, 0 ≤ q.2) (j : Nat) (x : Str) : cnt (l.take j) x ≤ cnt l x := by
  have e : cnt l x = cnt (l.take j) x + cnt (l.drop j) x := by rw [← cnt_append, List.take_append_drop]
  have : 0 ≤ cnt (l.drop j) x := cnt_nonneg fun q hq => h q (List.mem_of_mem_drop hq)
  omega
theorem cnt_next {l : List (Str × Int)} {j : Nat} {z : Str × Int} (h : l[j]? = some z) (x : Str) : cnt (l.take (j + 1)) x = cnt (l.take j) x + z.2 * dl z.1 x := by
  rw [take_next h, cnt_append]
  show _ + ((if z.1 = x then z.2 else 0) + 0) = _
  unfold dl
  by_cases e : z.1 = x
  · rw [if_pos e, if_pos e]; omega
  · rw [if_neg e, if_neg e]; omega
/-! ### law_built: 0 _law_store, 1 _law_there_here, 2 _law_tag, 3 _law_some_here, 4 _law_one, 5 _law_far, 6 _law_count, 7 _law_lap -/
abbrev N_law_built : List Str := ["_law_store", "_law_there_here", "_law_tag", "_law_some_here", "_law_one", "_law_far", "_law_count", "_law_lap"]
theorem sc_law_built : FnScope N_law_built ["_law_store", "_law_there_here", "_law_tag"] (defScope s_law_built) := ⟨rfl, rfl, rfl, by decide +kernel, rfl, by decide +kernel, by decide +kernel⟩
theorem ok_law_built_of (n : Nat) (T : Tx K mg) (O_law_got : OkF P w K mg base "_law_got" (2 * n + 1) ["_law_store", "_law_there_here", "_law_tag"] [] (sp_law_got n)) : OkF P w K mg base "_law_built" (2 * n + 1 + 1) ["_law_store", "_law_there_here", "_law_tag"] [] (sp_law_built n) := by
  skip
  refine okF_mk d_law_built T (fn_mem 49 rfl) rfl rfl sc_law_built (fun _ _ _ _ _ _ us hl => match us, hl with | [_, _, _], _ => rfl) (fun vs H Q E h => ?_) (fun f cdv A outer s H vs Q E hr h => ?_)
  · first | (obtain ⟨_, rfl, _⟩ := h; rfl) | (obtain ⟨_, _, rfl, _⟩ := h; rfl) | (obtain ⟨_, _, _, rfl, _⟩ := h; rfl) | (obtain ⟨_, _, _, _, rfl, _⟩ := h; rfl) | (obtain ⟨_, _, _, _, _, rfl, _⟩ := h; rfl) | (obtain ⟨_, _, _, _, _, _, rfl, _⟩ := h; rfl) | (obtain ⟨_, _, _, _, _, _, _, rfl, _⟩ := h; rfl)
  · have hu := hu_of hr
    have hu65 := hu65_of hr
    refine ⟨_, (pss_cons (ps_setLc (i := 3) (own := [("_law_one", 4)]) (g := (gName 4)) rfl sc_law_built.nd rfl rfl (sw_true rfl rfl rfl (by decide +kernel)) (pi_tupN (pe_ix ix_tupN (pv 0) pe_int (fun _ _ => rfl))) (blkOk_by (N := N_law_built) (sc := (defScope s_law_built)) (own := [("_law_one", 4)]) (by decide +kernel)) (fun _ _ _ _ _ => (pg_name (i := 4) sc_law_built.nd rfl (by first | exact Or.inl rfl | exact Or.inr rfl))) (fun _ _ _ _ _ => pts_one (pt_cmpR op_eq (pe_ix ix_tupN (pv 4) pe_int (fun _ _ => rfl)) (pv 2) (by first | exact nomark _ | rfl))) (fun _ _ _ _ _ => (pv 4)))
      (pss_cons (ps_if (pt_cmpR (op_eqN hu65) (pv 3) (pe_lstN pa_nil) (by first | exact nomark _ | rfl))
        (pss_one (ps_ret pe_non)) pss_nil)
      (pss_cons (ps_for PassesOwn.never rfl (pi_tupN (pe_ix ix_tupN (pe_ix ix_listN (pv 3) pe_int (fun _ _ => rfl)) pe_int (fun _ _ => rfl))) (pg_tupN rfl (pgs_cons (pg_name (i := 5) sc_law_built.nd rfl (by first | exact Or.inl rfl | exact Or.inr rfl)) (pgs_cons (pg_name (i := 6) sc_law_built.nd rfl (by first | exact Or.inl rfl | exact Or.inr rfl)) pgs_nil)))
        (pss_one (ps_for PassesOwn.never rfl (pi_range1 (by rfl) T.m_range (pa_cons (pv 6) pa_nil)) (pg_name (i := 7) sc_law_built.nd rfl (by first | exact Or.inl rfl | exact Or.inr rfl))
          (pss_cons (ps_set (i := 1) sc_law_built.nd rfl (by first | exact Or.inl rfl | exact Or.inr rfl) (pe_callO (hjk := by omega) O_law_got hr (pa_cons (pv 0) (pa_cons (pv 1) (pa_cons (pv 5) pa_nil)))))
          (pss_one (ps_if (pt_cmpR op_isN (pv 1) pe_non (by first | exact nomark _ | rfl))
            (pss_one (ps_ret pe_non)) pss_nil))))))
      (pss_one (ps_ret (pv 1)))))), ?_⟩
    obtain ⟨t, d, S, ml, tag, rk, rfl, hrk, hS, hok, W, hC, hN, hart, ⟨Vl, L⟩, h0, qs, qb⟩ := h
    obtain ⟨pa, pb, pc, xs, ys, k1, k2, k3, k4, k5, k6⟩ := hS.ex
    have hlen := plen k6
    have hnk := hok.nk
    have hpk := hok.pk
    refine ⟨_, rfl, t, _, _, _, rfl, rfl, k1, atI_nat (j := 2) rfl, pc, rfl, ⟨ys, k5⟩, fun _ => lcTup k5 (small1000 (by omega)) (fun i acc H => Paired (IsPk H) acc ((S.packs.take i).filter fun p => decide (V.str p.name = V.str tag))) (fun _ _ _ _ k h => pimp (fun _ _ z => z.tk k) h) .nil (fun Ky Kn i x acc H1 hx s1 g ky kn => ?_) (fun sa acc H1 hD s1 hA hlA g => ?_)⟩
    · obtain ⟨p, hp, ip⟩ := pget k6 hx
      obtain ⟨t2, u, zs, rfl, ht2, hu2, hz2⟩ := id ip
      refine ⟨rfl, _, rfl, t2, _, _, _, rfl, rfl, s1 _ _ ht2, atI_nat (j := 0) rfl, _, rfl, rfl, _, rfl, ?_⟩
      refine iteB (fun hb => ?_) (fun hb => ?_)
      · refine ⟨_, rfl, ?_⟩
        refine ky _ _ (Same.refl _) ?_
        rw [filt_next _ hp, if_pos hb]
        exact papp g (.cons (ip.tk (tk_of s1)) .nil)
      · refine kn _ (Same.refl _) ?_
        rw [filt_next _ hp, if_neg (by rw [hb]; decide), List.append_nil]
        exact g
    rw [hlen, List.take_length] at g
    obtain ⟨so, hso⟩ : ∃ so, so = S.packs.filter fun p => decide (V.str p.name = V.str tag) := ⟨_, rfl⟩
    rw [← hso] at g
    have hsm : ∀ p, p ∈ so ↔ p ∈ S.packs ∧ p.name = tag := fun p => by
      rw [hso, List.mem_filter]
      constructor
      · rintro ⟨h1, h2⟩
        exact ⟨h1, V.str.inj (of_decide_eq_true h2)⟩
      · rintro ⟨h1, h2⟩
        exact ⟨h1, decide_eq_true (by rw [h2])⟩
    refine ⟨_, rfl, by decide, fun p2 H2 n2 => ?_⟩
    refine ⟨.list (so.map pkD), .list [], .lst (n2.same _ _ hA) (pmap pkD (fun _ _ z => (z.tk (tk_of n2.same)).dt) g), .lst n2.at_ .nil, pks_shaped fun p hp => hpk p ((hsm p).mp hp).1, by decide, _, rfl, ?_⟩
    rw [pks_empty]
    have s2 : Same H H2 := s1.trans n2.same
    refine iteB (fun hb => ?_) (fun hb => ?_)
    · have hse := of_decide_eq_true hb
      have hpt : isPart S tag := by
        rcases List.mem_append.mp hart with h | h
        · exact h
        · obtain ⟨p, hp, e⟩ := List.mem_map.mp h
          have : p ∈ so := (hsm p).mpr ⟨hp, e⟩
          rw [hse] at this
          cases this
      exact qb H2 s2 (bad_part W L hpt (by omega))
    cases so with
    | nil => rw [decide_eq_true rfl] at hb; cases hb
    | cons p so =>
      obtain ⟨hpm, hpn⟩ := (hsm p).mp List.mem_cons_self
      subst hpn
      cases g with
      | cons ip g =>
        obtain ⟨t2, u, zs, rfl, ht2, hu2, hz2⟩ := ip.tk (tk_of n2.same)
        have hlz := plen hz2
        have hpos : ∀ q ∈ p.sheet, 0 ≤ q.2 := fun q hq => by have := W.pos p hpm q hq; omega
        refine ⟨_, rfl, sa, _, _, _, rfl, rfl, n2.same _ _ hA, atI_nat (j := 0) rfl, t2, _, _, _, rfl, rfl, ht2, atI_nat (j := 3) rfl, u, rfl, ⟨_, hu2⟩, fun _ => forT (fun j σ H' => ∃ (x4 x5 x6 x7 : Option V) (e : Addr) (ml' : List (Str × Int)), σ = [some (.ref t), some (.ref e), some (.str p.name), some (.ref sa), x4, x5, x6, x7] ∧ Same H2 H' ∧ (e = d ∨ H e = none) ∧ Cur H' e S ml' ∧ NonNeg ml' ∧ Step S.packs (isPart S) (cnt (p.sheet.take j)) (asOf ml) (asOf ml'))
          ⟨none, none, none, none, d, ml, rfl, Same.refl _, .inl rfl, hC.sm s2, hN, Step.refl fun x => rfl⟩ (fun j σ H' _ ⟨_, _, _, _, _, _, _, s, _⟩ => s _ _ hu2) (fun j x σ H' hx ⟨x4, x5, x6, x7, e, ml', es, s3, he3, hC3, hN3, hS3⟩ => ?_) (fun σ H' ⟨x4, x5, x6, x7, e, ml', es, s3, he3, hC3, hN3, hS3⟩ => ?_)⟩
        · subst es
          obtain ⟨z, hz, t5, rfl, ht5⟩ := pget hz2 hx
          have hzm := List.mem_of_getElem? hz
          have z1 := W.pos p hpm z hzm
          have z4 := hok.cb p hpm z hzm
          have hzr := W.rank p hpm z hzm
          have hza := hok.sheet p hpm z hzm
          refine ⟨t5, _, rfl, s3 _ _ ht5, rfl, _, _, rfl, _, _, rfl, rfl, ?_⟩
          refine ⟨_, rfl, z.2, rfl, by omega, by omega, for_range (n := z.2.toNat) (fun i σ H' => ∃ (x4 x7 : Option V) (e : Addr) (ml' : List (Str × Int)), σ = [some (.ref t), some (.ref e), some (.str p.name), some (.ref sa), x4, some (.str z.1), some (.int z.2), x7] ∧ Same H2 H' ∧ (e = d ∨ H e = none) ∧ Cur H' e S ml' ∧ NonNeg ml' ∧ Step S.packs (isPart S) (fun x => cnt (p.sheet.take j) x + (i : Int) * dl z.1 x) (asOf ml) (asOf ml'))
            ⟨_, _, e, ml', rfl, s3, he3, hC3, hN3, hS3.cd fun x => by show _ = _ + (0 : Int) * _; omega⟩ (fun i σ H' hi ⟨x4, x7, e, ml', es, s4, he4, hC4, hN4, hS4⟩ => ?_) (fun σ H' ⟨x4, x7, e, ml', es, s4, he4, hC4, hN4, hS4⟩ => ?_)⟩
          · subst es
            have s04 : Same H H' := s2.trans s4
            refine ⟨_, rfl, _, rfl, _, rfl, t, e, S, ml', z.1, rk, rfl, by omega, hS.tk (tk_of s04), hok, W, hC4, hN4, hza, fun p5 H5 ml5 s5 hp5 hC5 hN5 hS5 => ?_, fun H5 s5 hB5 => ?_⟩
            · refine ⟨_, rfl, rfl, false, not_non p5, ?_⟩
              refine iteF (A := _) ?_
              refine ⟨_, _, p5, ml5, rfl, s4.trans s5, .inr (none_same s04 hp5), hC5, hN5, hS4.comp hS5 (dl_nonneg z.1) fun x => ?_⟩
              show cnt (p.sheet.take j) x + ((i + 1 : Nat) : Int) * dl z.1 x = _ + (i : Int) * dl z.1 x + dl z.1 x
              rw [show ((i + 1 : Nat) : Int) = (i : Int) + 1 by omega, Int.add_mul]
              omega
            · refine ⟨_, rfl, rfl, true, rfl, ?_⟩
              refine iteT ?_
              refine qb H5 (s04.trans s5) (built_bad W hok.dis L hpm h0 (hS4.bad hB5 (dl_nonneg z.1) fun x => ?_))
              have h1 := cnt_next hz x
              have h2 := cnt_take_le hpos (j + 1) x
              have h3 := dl_nonneg z.1 x
              have h4 : ((i : Int) + 1) * dl z.1 x ≤ z.2 * dl z.1 x := Int.mul_le_mul_of_nonneg_right (by omega) h3
              rw [Int.add_mul] at h4
              show cnt (p.sheet.take j) x + (i : Int) * dl z.1 x + dl z.1 x ≤ _
              omega
          · subst es
            refine ⟨_, _, _, _, e, ml', rfl, s4, he4, hC4, hN4, hS4.cd fun x => ?_⟩
            rw [cnt_next hz x, show ((z.2.toNat : Nat) : Int) = z.2 by omega]
        · subst es
          rw [hlz, List.take_length] at hS3
          exact ⟨_, rfl, qs e H' ml' (s2.trans s3) he3 hC3 hN3 (built_step W hok.dis L hpm h0 hS3)⟩
theorem zero_step {ps : List (Pk Str)} {part : Str → Prop} {d M M1 M2 : Str → Int} (a : Step ps part (fun _ => 0) M M1) (b : Step ps part d M1 M2) (h : ∀ x, 0 ≤ d x) : Step ps part d M M2 := a.comp b h fun x => by show d x = 0 + d x; omega
/-! ### law_got: 0 _law_store, 1 _law_there_here, 2 _law_tag, 3 _law_after, 4 _law_lap, 5 _law_one, 6 _law_far, 7 _law_count -/
abbrev N_law_got : List Str := ["_law_store", "_law_there_here", "_law_tag", "_law_after", "_law_lap", "_law_one", "_law_far", "_law_count"]
theorem sc_law_got : FnScope N_law_got ["_law_store", "_law_there_here", "_law_tag"] (defScope s_law_got) := ⟨rfl, rfl, rfl, by decide +kernel, rfl, by decide +kernel, by decide +kernel⟩
theorem ok_law_got_of (n : Nat) (T : Tx K mg) (O_law_built : OkF P w K mg base "_law_built" (2 * n + 1 + 1) ["_law_store", "_law_there_here", "_law_tag"] [] (sp_law_built n)) : OkF P w K mg base "_law_got" (2 * (n + 1) + 1) ["_law_store", "_law_there_here", "_law_tag"] [] (sp_law_got (n + 1)) := by
  have O_law_leading : OkF P w K mg base "_law_leading" 1 ["_law_store", "_law_there_here", "_law_tag"] [] sp_law_leading := ok_law_leading T
  skip
  refine okF_mk d_law_got T (fn_mem 48 rfl) rfl rfl sc_law_got (fun _ _ _ _ _ _ us hl => match us, hl with | [_, _, _], _ => rfl) (fun vs H Q E h => ?_) (fun f cdv A outer s H vs Q E hr h => ?_)
  · first | (obtain ⟨_, rfl, _⟩ := h; rfl) | (obtain ⟨_, _, rfl, _⟩ := h; rfl) | (obtain ⟨_, _, _, rfl, _⟩ := h; rfl) | (obtain ⟨_, _, _, _, rfl, _⟩ := h; rfl) | (obtain ⟨_, _, _, _, _, rfl, _⟩ := h; rfl) | (obtain ⟨_, _, _, _, _, _, rfl, _⟩ := h; rfl) | (obtain ⟨_, _, _, _, _, _, _, rfl, _⟩ := h; rfl)
  · have hu := hu_of hr
    have hu65 := hu65_of hr
    refine ⟨_, (pss_cons (ps_set (i := 3) sc_law_got.nd rfl (by first | exact Or.inl rfl | exact Or.inr rfl) (pe_callTy call_dictC (by rfl) T.m_dict b_dict (pa_cons (pv 1) pa_nil)))
      (pss_cons (ps_for PassesOwn.never rfl (pi_range1 (by rfl) T.m_range (pa_cons pe_int pa_nil)) (pg_name (i := 4) sc_law_got.nd rfl (by first | exact Or.inl rfl | exact Or.inr rfl))
        (pss_cons (ps_if (pt_cmpR op_gt (pe_dget hu (pv 3) (pv 2) (fun _ _ => rfl)) pe_int (by first | exact nomark _ | rfl))
          (pss_cons (ps_dput hu (pv 3) (pv 2) (pe_op op_sub (pe_dget hu (pv 3) (pv 2) (fun _ _ => rfl)) pe_int) rfl)
          (pss_one (ps_ret (pv 3)))) pss_nil)
        (pss_cons (ps_set (i := 5) sc_law_got.nd rfl (by first | exact Or.inl rfl | exact Or.inr rfl) (pe_callO (hjk := by omega) O_law_leading hr (pa_cons (pv 0) (pa_cons (pv 3) (pa_cons (pv 2) pa_nil)))))
        (pss_cons (ps_if (pt_cmpR op_isN (pv 5) pe_non (by first | exact nomark _ | rfl))
          (pss_one (ps_ret (pe_callO (hjk := by omega) O_law_built hr (pa_cons (pv 0) (pa_cons (pv 3) (pa_cons (pv 2) pa_nil)))))) pss_nil)
        (pss_cons (ps_dput hu (pv 3) (pe_ix ix_tupN (pv 5) pe_int (fun _ _ => rfl)) (pe_op op_sub (pe_dget hu (pv 3) (pe_ix ix_tupN (pv 5) pe_int (fun _ _ => rfl)) (fun _ _ => rfl)) pe_int) rfl)
        (pss_one (ps_for PassesOwn.never rfl (pi_tupN (pe_ix ix_tupN (pv 5) pe_int (fun _ _ => rfl))) (pg_tupN rfl (pgs_cons (pg_name (i := 6) sc_law_got.nd rfl (by first | exact Or.inl rfl | exact Or.inr rfl)) (pgs_cons (pg_name (i := 7) sc_law_got.nd rfl (by first | exact Or.inl rfl | exact Or.inr rfl)) pgs_nil)))
          (pss_one (ps_dput hu (pv 3) (pv 6) (pe_op op_add (pe_dget hu (pv 3) (pv 6) (fun _ _ => rfl)) (pv 7)) rfl)))))))))
      (pss_one (ps_ret pe_non)))), ?_⟩
    obtain ⟨t, d, S, ml, tag, rk, rfl, hrk, hS, hok, W, hC, hN, hart, qs, qb⟩ := h
    have hop := opens_few hok
    refine ⟨_, rfl, d, _, rfl, hC.1, fun ad H1 n1 => ?_⟩
    have hC1 : Cur H1 ad S ml := ⟨n1.at_, hC.2⟩
    have had := n1.none_
    refine ⟨400, rfl, by decide, by decide, for_range (n := 400) (fun i σ H' => ∃ (x4 x5 x6 x7 : Option V) (ml' : List (Str × Int)) (b : Nat), σ = [some (.ref t), some (.ref d), some (.str tag), some (.ref ad), x4, x5, x6, x7] ∧ Same H H' ∧ Cur H' ad S ml' ∧ NonNeg ml' ∧ Step S.packs (isPart S) (fun _ => 0) (asOf ml) (asOf ml') ∧ i + b ≤ (opens S).length + 2 ∧ Fuel S tag (asOf ml') b)
      ⟨none, none, none, none, ml, (opens S).length + 2, rfl, n1.same, hC1, hN, Step.refl fun x => rfl, by omega, .inl rfl⟩
      (fun i σ H' hi ⟨x4, x5, x6, x7, ml', b, e, s2, hC2, hN2, hS2, hb2, hF2⟩ => ?_) (fun σ H' ⟨x4, x5, x6, x7, ml', b, e, s2, hC2, hN2, hS2, hb2, hF2⟩ => ?_)⟩
    · subst e
      refine ⟨_, rfl, _, rfl, ad, _, rfl, hC2.get hart, _, _, rfl, rfl, _, rfl, ?_⟩
      refine iteB (fun hb => ?_) (fun hb => ?_)
      · have hpos : 0 < asOf ml' tag := of_decide_eq_true hb
        obtain ⟨H3, dp, m3⟩ := hC2.dput hok tag (asOf ml' tag - 1)
        refine ⟨_, rfl, _, rfl, ad, _, rfl, hC2.get hart, _, _, rfl, rfl, _, rfl, _, rfl, ad, H3, rfl, dp, ?_⟩
        refine ⟨_, rfl, qs ad H3 _ (m3.same s2 had) had (hC2.put hart _ m3) (hN2.put (by omega)) (zero_step hS2 (step_take fun x => ?_) (dl_nonneg tag))⟩
        rw [asOf_put]
        unfold dl
        by_cases e : x = tag
        · rw [if_pos e, if_pos e.symm, e]
        · rw [if_neg e, if_neg fun h => e h.symm]; omega
      have hnt : ¬ 0 < asOf ml' tag := of_decide_eq_false hb
      refine ⟨_, rfl, _, rfl, _, rfl, t, ad, S, ml', tag, rfl, hS.tk (tk_of s2), hok, hC2, fun v p k H3 s3 ip hk hp h0 hmin => ?_, fun H3 s3 hall => ?_⟩
      · obtain ⟨t2, u, zs, rfl, ht2, hu2, hz2⟩ := ip
        obtain ⟨hpm, hpa, _⟩ := near_iff.mp hp
        have hlz := plen hz2
        have hC3 := hC2.sm s3
        have s03 := s2.trans s3
        have hpart := pk_art hpm
        refine ⟨_, rfl, rfl, false, not_non t2, ?_⟩
        refine iteF (A := _) ?_
        obtain ⟨H4, dp, m4⟩ := hC3.dput hok p.name (asOf ml' p.name - 1)
        refine ⟨_, rfl, _, rfl, t2, _, _, _, rfl, rfl, ht2, atI_nat (j := 0) rfl, ad, _, rfl, hC3.get hpart, _, _, rfl, rfl, _, rfl, _, rfl, t2, _, _, _, rfl, rfl, ht2, atI_nat (j := 0) rfl, ad, H4, rfl, dp, ?_⟩
        have tk4 : Tk H3 H4 := m4.tk hC3.1 fun _ z => by cases z
        have s04 : Same H H4 := m4.same s03 had
        have hC4 := hC3.put hpart _ m4
        have as4 : ∀ x, asOf (putL ml' p.name (asOf ml' p.name - 1)) x = asOf ml' x - dl p.name x := fun x => by
          rw [asOf_put]
          unfold dl
          by_cases e : x = p.name
          · rw [if_pos e, if_pos e.symm, e]
          · rw [if_neg e, if_neg fun h => e h.symm]; omega
        refine ⟨_, rfl, t2, _, _, _, rfl, rfl, tk4 _ _ ht2, atI_nat (j := 3) rfl, u, rfl, ⟨_, tk4 _ _ hu2⟩, fun _ => forT (fun j σ H' => ∃ (x6 x7 : Option V) (ml2 : List (Str × Int)), σ = [some (.ref t), some (.ref d), some (.str tag), some (.ref ad), some (.int ((0 : Int) + (i : Int))), some (.ref t2), x6, x7] ∧ Same H H' ∧ Tk H3 H' ∧ Cur H' ad S ml2 ∧ NonNeg ml2 ∧ ∀ x, asOf ml2 x = asOf ml' x - dl p.name x + cnt (p.sheet.take j) x)
          ⟨_, _, _, rfl, s04, tk4, hC4, hN2.put (by omega), fun x => by rw [as4 x]; show _ = _ + 0; omega⟩ (fun j σ H' _ ⟨_, _, _, _, _, k, _⟩ => k _ _ hu2) (fun j x σ H' hx ⟨x6, x7, ml2, e, s5, tk5, hC5, hN5, hA5⟩ => ?_) (fun σ H' ⟨x6, x7, ml2, e, s5, tk5, hC5, hN5, hA5⟩ => ?_)⟩
        · subst e
          obtain ⟨z, hz, t6, rfl, ht6⟩ := pget hz2 hx
          have hzm := List.mem_of_getElem? hz
          have z1 := W.pos p hpm z hzm
          have hza := hok.sheet p hpm z hzm
          obtain ⟨H6, dp6, m6⟩ := hC5.dput hok z.1 (asOf ml2 z.1 + z.2)
          refine ⟨t6, _, rfl, tk5 _ _ ht6, rfl, _, _, rfl, _, _, rfl, rfl, ?_⟩
          refine ⟨_, rfl, _, rfl, ad, _, rfl, hC5.get hza, _, rfl, _, _, rfl, rfl, _, rfl, _, rfl, ad, H6, rfl, dp6, ?_⟩
          refine ⟨_, _, _, rfl, m6.same s5 had, tk5.trans (m6.tk hC5.1 fun _ z => by cases z), hC5.put hza _ m6, hN5.put (by have := hN5 z.1; omega), fun x => ?_⟩
          rw [asOf_put, cnt_next hz x]
          unfold dl
          by_cases e : x = z.1
          · rw [if_pos e, if_pos e.symm, e, hA5 z.1]
            unfold dl
            omega
          · rw [if_neg e, if_neg (c := z.1 = x) fun h => e h.symm, hA5 x]
            unfold dl
            omega
        · subst e
          rw [hlz, List.take_length] at hA5
          obtain ⟨b', hb', hF'⟩ := fuel_next W hN2 hF2 hnt hk hp h0 hmin hA5
          exact ⟨_, _, _, _, ml2, b', rfl, s5, hC5, hN5, hS2.comp (step_apart W hok.dis hpm hpa hA5) (fun _ => Int.le_refl 0) (fun _ => rfl), by omega, hF'⟩
      · refine ⟨_, rfl, rfl, true, rfl, ?_⟩
        refine iteT ?_
        have s03 := s2.trans s3
        have hz0 := hN2 tag
        refine ⟨_, rfl, _, rfl, _, rfl, t, ad, S, ml', tag, rk, rfl, by omega, hS.tk (tk_of s03), hok, W, hC2.sm s3, hN2, hart, nolead_of hall, by omega, fun p H4 ml4 s4 hp hC4 hN4 hS4 => ?_, fun H4 s4 hB4 => ?_⟩
        · refine qs p H4 ml4 (s03.trans s4) ?_ hC4 hN4 (zero_step hS2 hS4 (dl_nonneg tag))
          rcases hp with e | h
          · rw [e]; exact had
          · exact none_same s03 h
        · exact qb H4 (s03.trans s4) (hS2.bad hB4 (dl_nonneg tag) fun x => by show 0 + dl tag x ≤ dl tag x; omega)
    · subst e
      exfalso
      omega
theorem ok_law_got_zero (T : Tx K mg) : OkF P w K mg base "_law_got" (2 * 0 + 1) ["_law_store", "_law_there_here", "_law_tag"] [] (sp_law_got 0) := by
  refine okF_mk d_law_got T (fn_mem 48 rfl) rfl rfl sc_law_got (fun _ _ _ _ _ _ us hl => match us, hl with | [_, _, _], _ => rfl) (fun vs H Q E h => ?_) (fun f cdv A outer s H vs Q E hr h => ?_)
  · obtain ⟨_, _, _, _, _, _, rfl, _⟩ := h; rfl
  · obtain ⟨_, _, _, _, _, _, _, h, _⟩ := h
    exact absurd h (Nat.not_lt_zero _)
theorem ok_law_got_all (T : Tx K mg) : ∀ n : Nat, OkF P w K mg base "_law_got" (2 * n + 1) ["_law_store", "_law_there_here", "_law_tag"] [] (sp_law_got n)
  | 0 => ok_law_got_zero T
  | n + 1 => ok_law_got_of n T (ok_law_built_of n T (ok_law_got_all T n))
end K57
namespace K57
open PySem PySem.Spec PyProof.Rows L2
variable {P : Program} {w : World} {K : PySem.W.Frag} {mg : Str → Option Value} {base : Heap}
theorem sol_more {ps : List (Pk Str)} {M r A e : Str → Int} (he : ∀ p ∈ ps, e p.name = 0) (h : Sol ps M r A) : Sol ps (fun x => M x + e x) r A := fun x => by
  have tt : sumI (fun p => cnt p.sheet x * turn (fun x => M x + e x) A p) ps = sumI (fun p => cnt p.sheet x * turn M A p) ps := sumI_congr fun p hp => by
    rw [turn_eq (M := M) (M' := fun x => M x + e x) (A := A) (A' := A) (by show A p.name - (M p.name + e p.name) = _; rw [he p hp]; omega)]
  rw [tt]
  exact h x
theorem m0_part {S : Shop} (hok : ShopOk S) {x : Str} (hx : isPart S x) : M0 S x = cnt S.parts x := by
  show cnt (S.parts ++ _) x = _
  rw [cnt_append, cnt_zero (l := S.packs.map fun p => (p.name, p.made)), Int.add_zero]
  intro q hq e
  obtain ⟨p, hp, rfl⟩ := List.mem_map.mp hq
  have e : p.name = x := e
  exact hok.dis p hp (by rw [e]; exact hx)
def mid (ls : Lds) (b d : Int) (x : Str) : Int := sumI (fun l => if (b < l.1 ∧ l.1 ≤ d) ∧ l.2.1 = x then l.2.2 else 0) ls
theorem mid_next {ls : Lds} {j : Nat} {l : Int × Str × Int} (b d : Int) (x : Str) (h : ls[j]? = some l) : mid (ls.take (j + 1)) b d x = mid (ls.take j) b d x + if (b < l.1 ∧ l.1 ≤ d) ∧ l.2.1 = x then l.2.2 else 0 := by
  unfold mid
  rw [take_next h, sumI_append]
  show _ + (_ + 0) = _
  rw [Int.add_zero]
theorem come_mid {b d : Int} (h : b ≤ d) (x : Str) : ∀ ls : Lds, come ls d x = come ls b x + mid ls b d x
  | [] => rfl
  | l :: ls => by
    have ih := come_mid h x ls
    unfold come mid at ih ⊢
    show (if l.1 ≤ d ∧ l.2.1 = x then l.2.2 else 0) + _ = (if l.1 ≤ b ∧ l.2.1 = x then l.2.2 else 0) + _ + ((if (b < l.1 ∧ l.1 ≤ d) ∧ l.2.1 = x then l.2.2 else 0) + _)
    rw [ih]
    by_cases e : l.2.1 = x
    · by_cases c1 : l.1 ≤ b
      · rw [if_pos ⟨by omega, e⟩, if_pos ⟨c1, e⟩, if_neg (by rintro ⟨⟨z, _⟩, _⟩; omega)]; omega
      · by_cases c2 : l.1 ≤ d
        · rw [if_pos ⟨c2, e⟩, if_neg (by rintro ⟨z, _⟩; omega), if_pos ⟨⟨by omega, c2⟩, e⟩]; omega
        · rw [if_neg (by rintro ⟨z, _⟩; omega), if_neg (by rintro ⟨z, _⟩; omega), if_neg (by rintro ⟨⟨_, z⟩, _⟩; omega)]; omega
    · rw [if_neg (fun z => e z.2), if_neg (fun z => e z.2), if_neg (fun z => e z.2)]; omega
theorem sumI_zero {α : Type} {f : α → Int} : ∀ {l : List α}, (∀ a ∈ l, f a = 0) → sumI f l = 0
  | [], _ => rfl
  | a :: l, h => by
    show f a + sumI f l = 0
    rw [h a List.mem_cons_self, sumI_zero fun b hb => h b (List.mem_cons_of_mem _ hb)]; rfl
theorem come_pack {S : Shop} {ls : Lds} (hok : ShopOk S) (hl : LoadOk S ls) (d : Int) : ∀ p ∈ S.packs, come ls d p.name = 0 := fun p hp => sumI_zero fun l h => if_neg fun z => hok.dis p hp (by rw [← z.2]; exact (hl.each l h).2.1)
theorem mid_pack {S : Shop} {ls : Lds} (hok : ShopOk S) (hl : LoadOk S ls) (b d : Int) : ∀ p ∈ S.packs, mid ls b d p.name = 0 := fun p hp => sumI_zero fun l h => if_neg fun z => hok.dis p hp (by rw [← z.2]; exact (hl.each l h).2.1)
theorem come_start {S : Shop} {ls : Lds} (hl : LoadOk S ls) (x : Str) : come ls (-1) x = 0 := sumI_zero fun l h => if_neg fun z => by have := (hl.each l h).1; omega
/-- a day served -/
theorem fine_of {S : Shop} {os : Ords} {ls : Lds} {i : Nat} {M : Str → Int} (hok : ShopOk S) (hl : LoadOk S ls) (h : Step S.packs (isPart S) (cum os (i + 1)) (fun x => M0 S x + come ls (dayOf os i) x) M) (hM : ∀ x, 0 ≤ M x) : FineA S os ls i := by
  obtain ⟨rk, W, _⟩ := hok.rk
  intro A hA x hx
  obtain ⟨A', h1, h2⟩ := h (fun _ => 0) (cum os (i + 1)) A (fun _ => Int.le_refl 0) (fun x => by show _ = 0 + _; omega) (sol_more (come_pack hok hl _) hA)
  have h3 := none_asked W hM (fun _ => rfl) h1 x
  have h4 := h2 x hx
  have h5 := hM x
  have h6 := m0_part hok hx
  have h4 : M x - A' x = M0 S x + come ls (dayOf os i) x - A x := h4
  unfold leftOf
  omega
/-- a day that cannot be served -/
theorem late_of_bad {S : Shop} {os : Ords} {ls : Lds} {i : Nat} (hok : ShopOk S) (hl : LoadOk S ls) (h : Bad S.packs (isPart S) (cum os (i + 1)) (fun x => M0 S x + come ls (dayOf os i) x)) : LateA S os ls i := by
  intro A hA
  obtain ⟨x, hx, h1⟩ := h (fun _ => 0) (cum os (i + 1)) A (fun _ => Int.le_refl 0) (fun x => by show _ = 0 + _; omega) (sol_more (come_pack hok hl _) hA)
  have h6 := m0_part hok hx
  refine ⟨x, hx, ?_⟩
  have h1 : M0 S x + come ls (dayOf os i) x - A x < 0 := h1
  unfold leftOf
  omega
def sp_law_hand_late : Sp := fun vs H Q _ => ∃ (t a b : Addr) (S : Shop) (os : Ords) (ls : Lds) (bt : Bool), vs = [.ref t, .ref a, .ref b, .bl bt] ∧ ShopAt H t S ∧ ShopOk S ∧ OrdersAt H a os ∧ OrdersOk S os ∧ LoadAt H b ls ∧ LoadOk S ls ∧
  ∀ r H', Same H H' → HandAns S os ls r → Q (optV r) H'
/-! ### law_hand_late: 0 _law_store, 1 _law_asks, 2 _law_load, 3 _law_is_turned, 4 _law_there_here, 5 _law_before, 6 _law_day, 7 _law_wish, 8 _law_when, 9 _law_tag, 10 _law_many, 11 _law_lap -/
abbrev N_law_hand_late : List Str := ["_law_store", "_law_asks", "_law_load", "_law_is_turned", "_law_there_here", "_law_before", "_law_day", "_law_wish", "_law_when", "_law_tag", "_law_many", "_law_lap"]
theorem sc_law_hand_late : FnScope N_law_hand_late ["_law_store", "_law_asks", "_law_load", "_law_is_turned"] (defScope s_law_hand_late) := ⟨rfl, rfl, rfl, by decide +kernel, rfl, by decide +kernel, by decide +kernel⟩
theorem ok_law_hand_late (T : Tx K mg) : OkF P w K mg base "_law_hand_late" 15 ["_law_store", "_law_asks", "_law_load", "_law_is_turned"] [] sp_law_hand_late := by
  have O_law_there : OkF P w K mg base "_law_there" 1 ["_law_store"] [] sp_law_there := ok_law_there T
  have O_law_got : OkF P w K mg base "_law_got" (2 * 6 + 1) ["_law_store", "_law_there_here", "_law_tag"] [] (sp_law_got 6) := ok_law_got_all T 6
  refine okF_mk d_law_hand_late T (fn_mem 50 rfl) rfl rfl sc_law_hand_late (fun _ _ _ _ _ _ us hl => match us, hl with | [_, _, _, _], _ => rfl) (fun vs H Q E h => ?_) (fun f cdv A outer s H vs Q E hr h => ?_)
  · first | (obtain ⟨_, rfl, _⟩ := h; rfl) | (obtain ⟨_, _, rfl, _⟩ := h; rfl) | (obtain ⟨_, _, _, rfl, _⟩ := h; rfl) | (obtain ⟨_, _, _, _, rfl, _⟩ := h; rfl) | (obtain ⟨_, _, _, _, _, rfl, _⟩ := h; rfl) | (obtain ⟨_, _, _, _, _, _, rfl, _⟩ := h; rfl) | (obtain ⟨_, _, _, _, _, _, _, rfl, _⟩ := h; rfl)
  · have hu := hu_of hr
    have hu65 := hu65_of hr
    refine ⟨_, (pss_cons (ps_par (i := 4) (j := 5) rfl sc_law_hand_late.nd rfl rfl (by decide) rfl rfl (pa_cons (pe_callO O_law_there hr (pa_cons (pv 0) pa_nil)) (pa_cons (pe_un un_neg pe_int) pa_nil)) (by rfl))
      (pss_cons (ps_for PassesOwn.never rfl (pi_tupN (pv 1)) (pg_tupN rfl (pgs_cons (pg_name (i := 6) sc_law_hand_late.nd rfl (by first | exact Or.inl rfl | exact Or.inr rfl)) (pgs_cons (pg_name (i := 7) sc_law_hand_late.nd rfl (by first | exact Or.inl rfl | exact Or.inr rfl)) pgs_nil)))
        (pss_cons (ps_for PassesOwn.never rfl (pi_tupN (pv 2)) (pg_tupN rfl (pgs_cons (pg_name (i := 8) sc_law_hand_late.nd rfl (by first | exact Or.inl rfl | exact Or.inr rfl)) (pgs_cons (pg_name (i := 9) sc_law_hand_late.nd rfl (by first | exact Or.inl rfl | exact Or.inr rfl)) (pgs_cons (pg_name (i := 10) sc_law_hand_late.nd rfl (by first | exact Or.inl rfl | exact Or.inr rfl)) pgs_nil))))
          (pss_one (ps_if (pt_chain op_lt op_le (pv 5) (pv 8) (pv 6))
            (pss_one (ps_dput hu (pv 4) (pv 9) (pe_op op_add (pe_dget hu (pv 4) (pv 9) (fun _ _ => rfl)) (pv 10)) rfl)) pss_nil)))
        (pss_cons (ps_set (i := 5) sc_law_hand_late.nd rfl (by first | exact Or.inl rfl | exact Or.inr rfl) (pv 6))
        (pss_one (ps_for PassesOwn.never rfl (pi_tupN (pe_ifExp (pt_val (pv 3)) (pe_revT (pv 7)) (pv 7))) (pg_tupN rfl (pgs_cons (pg_name (i := 9) sc_law_hand_late.nd rfl (by first | exact Or.inl rfl | exact Or.inr rfl)) (pgs_cons (pg_name (i := 10) sc_law_hand_late.nd rfl (by first | exact Or.inl rfl | exact Or.inr rfl)) pgs_nil)))
          (pss_one (ps_for PassesOwn.never rfl (pi_range1 (by rfl) T.m_range (pa_cons (pv 10) pa_nil)) (pg_name (i := 11) sc_law_hand_late.nd rfl (by first | exact Or.inl rfl | exact Or.inr rfl))
            (pss_cons (ps_set (i := 4) sc_law_hand_late.nd rfl (by first | exact Or.inl rfl | exact Or.inr rfl) (pe_callO O_law_got hr (pa_cons (pv 0) (pa_cons (pv 4) (pa_cons (pv 9) pa_nil)))))
            (pss_one (ps_if (pt_cmpR op_isN (pv 4) pe_non (by first | exact nomark _ | rfl))
              (pss_one (ps_ret (pv 6))) pss_nil))))))))))
      (pss_one (ps_ret pe_non)))), ?_⟩
    obtain ⟨t, a, b, S, os, ls, bt, rfl, hS, hok, ⟨oxs, ha, hox⟩, ho, ⟨lxs, hb, hlx⟩, hl, q⟩ := h
    obtain ⟨rk, W, hrk⟩ := hok.rk
    obtain ⟨rk, W, hr5⟩ : ∃ rk : Str → Nat, Wf S.packs rk ∧ ∀ x, rk x < 6 := by
      refine ⟨fun x => min (rk x) 5, ⟨W.nd, fun p hp z hz => ?_, W.pos⟩, fun x => by show min (rk x) 5 < 6; omega⟩
      have h1 := W.rank p hp z hz
      have h2 := (hrk p hp).2
      have h3 := hok.nk
      show min (rk z.1) 5 < min (rk p.name) 5
      omega
    have hlo := plen hox
    have hll := plen hlx
    refine ⟨_, rfl, t, S, rfl, hS, hok, fun td0 H1 n1 => ?_⟩
    refine ⟨1, rfl, _, _, rfl, ?_⟩
    have hC1 : Cur H1 td0 S (thereL S) := ⟨n1.at_, there_keys S⟩
    have hN1 : NonNeg (thereL S) := fun x => by
      rw [asOf_there S hok]
      refine cnt_nonneg fun p hp => ?_
      rcases List.mem_append.mp hp with h | h
      · exact hok.stock p h
      · obtain ⟨k, hk, rfl⟩ := List.mem_map.mp h
        exact hok.made k hk
    refine ⟨_, rfl, a, rfl, ⟨_, n1.same _ _ ha⟩, fun _ => forT (fun i σ H' => ∃ (x6 x7 x8 x9 x10 x11 : Option V) (td : Addr) (ml : List (Str × Int)) (bf : Int), σ = [some (.ref t), some (.ref a), some (.ref b), some (.bl bt), some (.ref td), some (.int bf), x6, x7, x8, x9, x10, x11] ∧ Same H H' ∧ H td = none ∧ Cur H' td S ml ∧ NonNeg ml ∧
        Step S.packs (isPart S) (cum os i) (fun x => M0 S x + come ls bf x) (asOf ml) ∧ (∀ o, os[i]? = some o → bf < o.1) ∧ ∀ j, j < i → FineA S os ls j)
      ⟨none, none, none, none, none, none, td0, thereL S, -1, rfl, n1.same, n1.none_, hC1, hN1, ?_, fun o ho' => ?_, fun j hj => absurd hj (Nat.not_lt_zero j)⟩ (fun i σ H' _ ⟨_, _, _, _, _, _, _, _, _, _, s, _⟩ => s _ _ ha)
      (fun i x σ H' hx ⟨x6, x7, x8, x9, x10, x11, td, ml, bf, e, s2, htd, hC2, hN2, hS2, hbf, hfine⟩ => ?_) (fun σ H' ⟨x6, x7, x8, x9, x10, x11, td, ml, bf, e, s2, htd, hC2, hN2, hS2, hbf, hfine⟩ => ?_)⟩
    · have e1 : (fun x => M0 S x + come ls (-1) x) = asOf (thereL S) := funext fun x => by rw [come_start hl x, asOf_there S hok]; omega
      rw [e1]
      exact Step.refl fun x => cum_zero os x
    · have := (ho.each o (List.mem_of_getElem? ho')).1
      omega
    · subst e
      obtain ⟨o, hoi, t5, r5, rfl, ht5, hr5'⟩ := pget hox hx
      have hday : dayOf os i = o.1 := dayOf_at hoi
      have hbo := hbf o hoi
      have hrow := (ho.each o (List.mem_of_getElem? hoi)).2
      refine ⟨t5, _, rfl, s2 _ _ ht5, rfl, _, _, rfl, _, _, rfl, rfl, ?_⟩
      -- what comes
      refine ⟨_, rfl, b, rfl, ⟨_, s2 _ _ hb⟩, fun _ => forT (fun j σ H3 => ∃ (y8 y9 y10 : Option V) (ml3 : List (Str × Int)), σ = [some (.ref t), some (.ref a), some (.ref b), some (.bl bt), some (.ref td), some (.int bf), some (.int o.1), some (.ref r5), y8, y9, y10, x11] ∧ Same H H3 ∧ Cur H3 td S ml3 ∧ NonNeg ml3 ∧ ∀ x, asOf ml3 x = asOf ml x + mid (ls.take j) bf o.1 x)
        ⟨_, _, _, ml, rfl, s2, hC2, hN2, fun x => by show _ = _ + 0; omega⟩ (fun j σ H3 _ ⟨_, _, _, _, _, s, _⟩ => s _ _ hb) (fun j x σ H3 hx3 ⟨y8, y9, y10, ml3, e, s3, hC3, hN3, hA3⟩ => ?_) (fun σ H3 ⟨y8, y9, y10, ml3, e, s3, hC3, hN3, hA3⟩ => ?_)⟩
      · subst e
        obtain ⟨g, hg, t6, rfl, ht6⟩ := pget hlx hx3
        have hge := hl.each g (List.mem_of_getElem? hg)
        have hga : g.2.1 ∈ arts S := List.mem_append_left _ hge.2.1
        have stay : ¬ (bf < g.1 ∧ g.1 ≤ o.1) → ∃ (y8 y9 y10 : Option V) (ml3 : List (Str × Int)), [some (V.ref t), some (.ref a), some (.ref b), some (.bl bt), some (.ref td), some (.int bf), some (.int o.1), some (.ref r5), some (.int g.1), some (.str g.2.1), some (.int g.2.2), x11] = [some (.ref t), some (.ref a), some (.ref b), some (.bl bt), some (.ref td), some (.int bf), some (.int o.1), some (.ref r5), y8, y9, y10, x11] ∧ Same H H3 ∧ Cur H3 td S ml3 ∧ NonNeg ml3 ∧ ∀ x, asOf ml3 x = asOf ml x + mid (ls.take (j + 1)) bf o.1 x := fun hn =>
          ⟨_, _, _, ml3, rfl, s3, hC3, hN3, fun x => by rw [hA3 x, mid_next _ _ _ hg, if_neg (fun z => hn z.1)]; omega⟩
        refine ⟨t6, _, rfl, s3 _ _ ht6, rfl, _, _, rfl, _, _, rfl, _, _, rfl, rfl, ?_⟩
        refine ⟨_, rfl, _, rfl, _, _, rfl, rfl, _, rfl, ?_⟩
        refine iteB (fun hb1 => ?_) (fun hb1 => ?_)
        · have c1 : bf < g.1 := of_decide_eq_true hb1
          refine ⟨_, rfl, _, _, rfl, rfl, _, rfl, ?_⟩
          refine iteB (fun hb2 => ?_) (fun hb2 => ?_)
          · have c2 : g.1 ≤ o.1 := of_decide_eq_true hb2
            obtain ⟨H4, dp, m4⟩ := hC3.dput hok g.2.1 (asOf ml3 g.2.1 + g.2.2)
            refine ⟨_, rfl, _, rfl, td, _, rfl, hC3.get hga, _, rfl, _, _, rfl, rfl, _, rfl, _, rfl, td, H4, rfl, dp, ?_⟩
            refine ⟨_, _, _, _, rfl, m4.same s3 htd, hC3.put hga _ m4, hN3.put (by have := hN3 g.2.1; omega), fun x => ?_⟩
            rw [asOf_put, mid_next _ _ _ hg]
            by_cases e : x = g.2.1
            · rw [if_pos e, if_pos ⟨⟨c1, c2⟩, e.symm⟩, hA3 g.2.1, e]; omega
            · rw [if_neg e, if_neg (fun z => e z.2.symm), hA3 x]; omega
          · exact stay fun z => of_decide_eq_false hb2 z.2
        · refine ⟨false, rfl, ?_⟩
          refine iteF (A := _) ?_
          exact stay fun z => of_decide_eq_false hb1 z.1
      subst e
      rw [hll, List.take_length] at hA3
      have hS3 : Step S.packs (isPart S) (cum os i) (fun x => M0 S x + come ls o.1 x) (asOf ml3) := by
        have h1 := step_more hS2 (e := mid ls bf o.1) (mid_pack hok hl bf o.1)
        have e1 : (fun x => M0 S x + come ls bf x + mid ls bf o.1 x) = fun x => M0 S x + come ls o.1 x := funext fun x => by rw [come_mid (b := bf) (d := o.1) (by omega) x ls]; omega
        have e2 : (fun x => asOf ml x + mid ls bf o.1 x) = asOf ml3 := funext fun x => (hA3 x).symm
        rw [e1, e2] at h1
        exact h1
      obtain ⟨ws, hws, hwp⟩ := hr5'.tk (tk_of s3)
      refine ⟨_, rfl, ?_⟩
      refine ⟨_, rfl, bt, rfl, ?_⟩
      refine iteB (fun hbt => ?_) (fun hbt => ?_)
      refine ⟨_, rfl, r5, ws, rfl, hws, fun p7 H7 n7 => ?_⟩
      have key : ∃ (Hx : Hp) (ra : Addr) (l2 : List (Str × Int)), Hx = H7 ∧ ra = p7 ∧ RowAt Hx ra l2 ∧ l2.Perm o.2 ∧ Same H3 Hx := by
        refine ⟨H7, p7, o.2.reverse, rfl, rfl, ⟨_, n7.at_, ?_⟩, List.reverse_perm _, n7.same⟩
        have hrev : ∀ {α β : Type} {F : α → β → Prop} {xs : List α} {ys : List β}, Paired F xs ys → Paired F xs.reverse ys.reverse := by
          intro α β F xs ys h
          induction h with
          | nil => exact .nil
          | cons r _ ih =>
            rw [List.reverse_cons, List.reverse_cons]
            exact papp ih (.cons r .nil)
        exact hrev (pimp (fun _ _ z => z.tk (tk_of n7.same)) hwp)
      rotate_left
      have key : ∃ (Hx : Hp) (ra : Addr) (l2 : List (Str × Int)), Hx = H3 ∧ ra = r5 ∧ RowAt Hx ra l2 ∧ l2.Perm o.2 ∧ Same H3 Hx := ⟨H3, r5, o.2, rfl, rfl, ⟨ws, hws, hwp⟩, .refl _, Same.refl _⟩
      refine ⟨_, rfl, ?_⟩
      rotate_left
      all_goals
        obtain ⟨Hx, ra, l2, ex, er, ⟨us, hus, hup⟩, hperm, sx⟩ := key
        rw [← ex]
        clear ex
        have hlu := plen hup
        have hin : ∀ z ∈ l2, z.1 ∈ arts S ∧ 1 ≤ z.2 := fun z hz => (hrow.each z (hperm.mem_iff.mp hz)).2
        have hpos : ∀ z ∈ l2, 0 ≤ z.2 := fun z hz => by have := (hin z hz).2; omega
        have hcp : ∀ x, cnt l2 x = cnt o.2 x := fun x => cnt_perm hperm x
        have hsmall : ∀ z ∈ l2, z.2 < 2 ^ 62 := fun z hz => hrow.small z (hperm.mem_iff.mp hz)
        refine ⟨ra, by rw [er], ⟨_, hus⟩, fun _ => forT (fun m σ H4 => ∃ (y8 y9 y10 y11 : Option V) (td4 : Addr) (ml4 : List (Str × Int)), σ = [some (.ref t), some (.ref a), some (.ref b), some (.bl bt), some (.ref td4), some (.int o.1), some (.int o.1), some (.ref r5), y8, y9, y10, y11] ∧ Same Hx H4 ∧ H td4 = none ∧ Cur H4 td4 S ml4 ∧ NonNeg ml4 ∧ Step S.packs (isPart S) (fun x => cum os i x + cnt (l2.take m) x) (fun x => M0 S x + come ls o.1 x) (asOf ml4))
          ⟨_, _, _, _, td, ml3, rfl, Same.refl _, htd, hC3.sm sx, hN3, hS3.cd fun x => by show _ = _ + 0; omega⟩ (fun m σ H4 _ ⟨_, _, _, _, _, _, _, s, _⟩ => s _ _ hus) (fun m x σ H4 hx4 ⟨y8, y9, y10, y11, td4, ml4, e, s4, htd4, hC4, hN4, hS4⟩ => ?_) (fun σ H4 ⟨y8, y9, y10, y11, td4, ml4, e, s4, htd4, hC4, hN4, hS4⟩ => ?_)⟩
        · subst e
          obtain ⟨z, hz, t8, rfl, ht8⟩ := pget hup hx4
          obtain ⟨hza, hz1⟩ := hin z (List.mem_of_getElem? hz)
          have hz62 := hsmall z (List.mem_of_getElem? hz)
          refine ⟨t8, _, rfl, s4 _ _ ht8, rfl, _, _, rfl, _, _, rfl, rfl, ?_⟩
          refine ⟨_, rfl, z.2, rfl, by omega, hz62, for_range (n := z.2.toNat) (fun k σ H5 => ∃ (y8 y11 : Option V) (td5 : Addr) (ml5 : List (Str × Int)), σ = [some (.ref t), some (.ref a), some (.ref b), some (.bl bt), some (.ref td5), some (.int o.1), some (.int o.1), some (.ref r5), y8, some (.str z.1), some (.int z.2), y11] ∧ Same Hx H5 ∧ H td5 = none ∧ Cur H5 td5 S ml5 ∧ NonNeg ml5 ∧ Step S.packs (isPart S) (fun x => cum os i x + cnt (l2.take m) x + (k : Int) * dl z.1 x) (fun x => M0 S x + come ls o.1 x) (asOf ml5))
            ⟨_, _, td4, ml4, rfl, s4, htd4, hC4, hN4, hS4.cd fun x => by show _ = _ + (0 : Int) * _; omega⟩ (fun k σ H5 hk ⟨y8, y11, td5, ml5, e, s5, htd5, hC5, hN5, hS5⟩ => ?_) (fun σ H5 ⟨y8, y11, td5, ml5, e, s5, htd5, hC5, hN5, hS5⟩ => ?_)⟩
          · subst e
            have s05 : Same H H5 := s3.trans (sx.trans s5)
            refine ⟨_, rfl, _, rfl, _, rfl, t, td5, S, ml5, z.1, rk, rfl, hr5 z.1, hS.tk (tk_of s05), hok, W, hC5, hN5, hza, fun p6 H6 ml6 s6 hp6 hC6 hN6 hS6 => ?_, fun H6 s6 hB6 => ?_⟩
            · refine ⟨_, rfl, rfl, false, not_non p6, ?_⟩
              refine iteF (A := _) ?_
              refine ⟨_, _, p6, ml6, rfl, s5.trans s6, none_same s05 hp6, hC6, hN6, hS5.comp hS6 (dl_nonneg z.1) fun x => ?_⟩
              show cum os i x + cnt (l2.take m) x + ((k + 1 : Nat) : Int) * dl z.1 x = _ + (k : Int) * dl z.1 x + dl z.1 x
              rw [show ((k + 1 : Nat) : Int) = (k : Int) + 1 by omega, Int.add_mul]
              omega
            · refine ⟨_, rfl, rfl, true, rfl, ?_⟩
              refine iteT ?_
              have hil : i < os.length := by
                rcases Nat.lt_or_ge i os.length with y | y
                · exact y
                · rw [List.getElem?_eq_none y] at hoi; cases hoi
              have hlate : LateA S os ls i := late_of_bad hok hl (by
                rw [hday]
                refine hS5.bad hB6 (dl_nonneg z.1) fun x => ?_
                have h1 := cnt_next hz x
                have h2 := cnt_take_le hpos (m + 1) x
                have h3 := dl_nonneg z.1 x
                have h4 : ((k : Int) + 1) * dl z.1 x ≤ z.2 * dl z.1 x := Int.mul_le_mul_of_nonneg_right (by omega) h3
                rw [Int.add_mul] at h4
                have h5 := cum_next x hoi
                have h6 := hcp x
                show cum os i x + cnt (l2.take m) x + (k : Int) * dl z.1 x + dl z.1 x ≤ _
                omega)
              have := q (some (dayOf os i)) H6 (s05.trans s6) (.inr ⟨i, hil, rfl, hlate, hfine⟩)
              rw [hday] at this
              exact ⟨_, rfl, this⟩
          · subst e
            refine ⟨_, _, _, _, td5, ml5, rfl, s5, htd5, hC5, hN5, hS5.cd fun x => ?_⟩
            rw [cnt_next hz x, show ((z.2.toNat : Nat) : Int) = z.2 by omega]
            omega
        · subst e
          rw [hlu, List.take_length] at hS4
          have hS5 : Step S.packs (isPart S) (cum os (i + 1)) (fun x => M0 S x + come ls o.1 x) (asOf ml4) := hS4.cd fun x => by rw [hcp x, cum_next x hoi]
          refine ⟨_, _, _, _, _, _, td4, ml4, o.1, rfl, s3.trans (sx.trans s4), htd4, hC4, hN4, hS5, fun o2 ho2 => ?_, fun j hj => ?_⟩
          · have h1 : i < os.length := by
              rcases Nat.lt_or_ge i os.length with y | y
              · exact y
              · rw [List.getElem?_eq_none y] at hoi; cases hoi
            have h2 : i + 1 < os.length := by
              rcases Nat.lt_or_ge (i + 1) os.length with y | y
              · exact y
              · rw [List.getElem?_eq_none y] at ho2; cases ho2
            have := List.pairwise_iff_getElem.mp ho.up i (i + 1) h1 h2 (Nat.lt_succ_self i)
            rw [List.getElem?_eq_getElem h1] at hoi
            rw [List.getElem?_eq_getElem h2] at ho2
            rw [Option.some.inj hoi, Option.some.inj ho2] at this
            exact this
          · rcases Nat.lt_or_ge j i with y | y
            · exact hfine j y
            · have ej : j = i := by omega
              subst ej
              exact fine_of hok hl (by rw [hday]; exact hS5) hN4
    · subst e
      rw [hlo] at hfine
      exact q none H' s2 (.inl ⟨rfl, hfine⟩)
end K57
namespace K57
open PySem PySem.Spec PyProof.Rows L2
/-! ### defs that are called where no object's text is being made -/
structure FnG (P : Program) (w : World) (K : PySem.W.Frag) (mg : Str → Option Value) (base : Heap) (k : Nat) (f : Addr) (fd : FuncData) (ps : List Str) (sp : Sp) : Prop where
  lenG : ∀ vs H Q E, sp vs H Q E → vs.length = ps.length
  runG : ∀ (A : Around) (outer : List Env) (s : Shared) (H : Hp) (args : Args) (us : List Value) (vs : List V) (Q : VK) (E : XK), A.guards = some [] → Room k A → Env0 P w K mg base A outer s H → BindsTo s fd args (ps.zip us) → Vals vs us → sp vs H Q E →
    codeAny (model P w) A (.call (.ref f) args) (CR CX0 outer P w H s Q E) s
section
variable {P : Program} {w : World} {K : PySem.W.Frag} {mg : Str → Option Value} {base : Heap} {N ps : List Str} {k : Nat} {sp : Sp}
theorem fnG_of {f : Addr} {name qual : Str} {params : Arguments} {body : List Stmt} {scope : Scope} {dV kV doc pm cdv ct oc : Value} {an od : Option Addr} {osl : Array (Option Value)}
    (at_ : K.lookup f = some ⟨oc, od, .func (PySem.W.fnOf name qual params body scope dV kV doc pm an cdv ct), osl⟩) (code : PySem.W.codeIn K cdv qual = true) (S : FnScope N ps scope) (lenS : ∀ vs H Q E, sp vs H Q E → vs.length = ps.length)
    (walk : ∀ (A : Around) (outer : List Env) (s : Shared) (H : Hp) (vs : List V) (Q : VK) (E : XK), A.guards = some [] → Room k (A.deeper (envOfC qual scope s.heap.objs.size f cdv)) → sp vs H Q E →
      ∃ t, PSs (cxOf CX0 P w K mg base N qual scope f cdv A outer s H E) body t ∧ t { nx := fun _ H' => Q .non H', rt := Q } (start N vs) H) :
    FnG P w K mg base (k + 1) f (PySem.W.fnOf name qual params body scope dV kV doc pm an cdv ct) ps sp := by
  refine ⟨lenS, fun A outer s H args us vs Q E noGuard room en bound rel promise => ?_⟩
  have n0 := lenS _ _ _ _ promise
  have KS : K.In s.heap := en.mod.kin.keeps fun b o z => (en.bs b o z).1
  have noLim : s.heap.NoLimit := en.mod.nolimit.keeps fun b o z => (en.bs b o z).1
  have kinds : ∀ y ∈ ps.zip us, scope.names.lookup y.1 = some .local ∨ (scope.names.lookup y.1 = some .cell ∧ ((cellsFrom (s.heap.objs.size + 1) scope.names []).lookup y.1).isSome = true) := by
    rintro ⟨m, v⟩ hm
    exact (S.par m (List.of_mem_zip hm).1).elim .inl fun z => .inr ⟨z, PySem.W.cellsFrom_some _ _ _ (.inl z)⟩
  refine codeAny_call_function (room.depth) (KS _ _ at_) rfl S.co S.gen rfl (PySem.W.codeRec_of KS code) (bound _ _ _ _ (wpAny_newFunctionEnv_cells S.kind kinds fun env ee s1 new => ?_))
  subst ee
  refine ⟨noLim.keeps new.toInCall.keep, codeAny_func ?_⟩
  obtain ⟨t, run, reads⟩ := walk A outer s H vs Q E noGuard (room.deeper _) promise
  have I0 : Inv (cxOf CX0 P w K mg base N qual scope f cdv A outer s H E) [] (start N vs) H s1 := inv_start S room.hd en n0 rel new
  have ends : ∀ {σ' : L2.St} {H' : Hp} {s' : Shared} {v : V} {u : Value}, Inv (cxOf CX0 P w K mg base N qual scope f cdv A outer s H E) [] σ' H' s' → RelV v u → Q v H' → CE outer P w H s Q u s' := fun {σ' H' s' v u} J rv qv => ⟨v, H', J.os, J.bare, J.base, J.hok, rv, qv⟩
  refine wpAny_mono (run.run [] s1 (start N vs) H _ I0 reads) (fun flow s' out => ?_) (fun e s' out => out)
  match flow, out with
  | .ret u, ⟨v, σ', H', J, rv, qv⟩ => exact ends J rv qv
  | .next, ⟨σ', H', J, qv⟩ => exact ends (v := V.non) (u := Value.none) J rfl qv
  | .brk, ⟨_, _, _, qv⟩ => exact qv.elim
  | .cont, ⟨_, _, _, qv⟩ => exact qv.elim
structure OkG (P : Program) (w : World) (K : PySem.W.Frag) (mg : Str → Option Value) (base : Heap) (x : Str) (k : Nat) (ps : List Str) (sp : Sp) : Prop where
  ex : ∃ f fd, FnG P w K mg base k f fd ps sp ∧ mg x = some (.ref f) ∧ PySem.W.keepIn K (.ref f) = true ∧ Binds K fd ps []
theorem okG_mk (d : He.DefD) (T : Tx K mg) (hd : d ∈ fn) (hdv : d.dfl = []) (hkw : d.kwd = []) (S : FnScope N ps d.scope)
    (hb : ∀ (kV doc pm : Value) (an : Option Addr) (cdv ct : Value) (us : List Value), us.length = ps.length → bindArgs (PySem.W.fnOf d.name d.qual d.params d.body d.scope .none kV doc pm an cdv ct) ⟨us, []⟩ = pure (ps.zip us))
    (len : ∀ vs H Q E, sp vs H Q E → vs.length = ps.length)
    (walk : ∀ (f : Addr) (cdv : Value) (A : Around) (outer : List Env) (s : Shared) (H : Hp) (vs : List V) (Q : VK) (E : XK), A.guards = some [] → Room k (A.deeper (envOfC d.qual d.scope s.heap.objs.size f cdv)) → sp vs H Q E →
      ∃ t, PSs (cxOf CX0 P w K mg base N d.qual d.scope f cdv A outer s H E).nox d.body t ∧ t { nx := fun _ H' => Q .non H', rt := Q } (start N vs) H) : OkG P w K mg base d.name (k + 1) ps sp := by
  obtain ⟨f, fd, F, hm⟩ := T.defs d hd
  have e1 : d.dvs K = [] := by show d.dfl.map _ = []; rw [hdv]; rfl
  rw [e1] at F
  have hkp := F.kp
  have hbn := F.bindsN hb
  obtain ⟨oc, od, dV, kV, doc, pm, an, cdv, ct, osl, rfl, lk, hcd, _, _⟩ := F.ex
  refine ⟨f, _, fnG_of lk hcd S len fun A outer s H vs Q E hG hr h => ?_, hm, hkp, hbn⟩
  obtain ⟨t, h1, h2⟩ := walk f cdv A outer s H vs Q E hG hr h
  exact ⟨t, h1.nox, h2⟩
end
section
variable {X : Cx} {x : Str} {j k : Nat} {ps : List Str} {sp : Sp} {e : Expr} {es : List Expr} {t : TA} {p pos : Pos}
theorem pe_callG (O : OkG X.prog X.w X.K X.mg X.base x j ps sp) (hG : X.A.guards = some []) (hr : Room k X.A) (ha : PA X (e :: es) t) (hg : Gl X x := by rfl) (hjk : j ≤ k := by decide) (hdb : (x == ("__debug__" : Str)) = false := by decide)
    (he : starEach (e :: es) X.env = (false, eval e X.env) :: starEach es X.env := by rfl) (hpl : (backTo pos (starEach es X.env)).any (·.1) = false := by rfl) : PE X (.Call (.Name x p) (e :: es) [] pos) (tCall sp [] E0 t) := by
  obtain ⟨f, fd, F, hm, hk, hb⟩ := O.ex
  have hx : Passes CX0 X E0 := pass0
  refine ⟨fun pins s σ H Q I h => wpAny_Call_Name_kw (ld_glob I hg hm ?_ hdb)⟩
  refine PySem.W.callWith_K (h₀ := X.base) I.ok.mod.kin hk (thn (ha.run pos pins s σ H _ I h) fun us s1 ⟨vs, H1, I1, rel, q⟩ => ⟨I1.kIn, ?_⟩) he hpl
  have q : sp (vs ++ []) H1 Q E0 := q
  rw [List.append_nil] at q
  have bd := hb s1 us I1.kIn
  rw [List.append_nil] at bd
  refine wpAny_call (codeAny_mono (F.runG X.A X.stack s1 H1 ⟨us, []⟩ us vs Q E0 hG (hr.mono hjk) I1.env0 (bd (by rw [← rel.length]; exact F.lenG _ _ _ _ q)) rel q) fun r s' out => ?_)
  match r, out with
  | .error ex, out => exact hx pins σ H1 s1 ex s' I1 out
  | .ok (.ret u), out => exact I1.after out
/-- repr of plain data -/
theorem cr_reprG (hG : X.A.guards = some []) (hu : X.A.units + 65 < cLine) : CallR X (.builtin "repr") (fun vs H Q => ∃ (a : Addr) (d : PyData), vs = [.ref a] ∧ Dt H (.ref a) d ∧ d.showable = true ∧ d.hasDict = false ∧ d.depth ≤ 20 ∧ d.shown.length ≤ sizeLine ∧ Q (.str d.shown) H) := by
  intro pins s σ H vs us Q I rel h
  obtain ⟨a, d, rfl, hd, h1, h2, h3, h4, q⟩ := h
  obtain ⟨u, rfl, ru⟩ := vals1 rel
  obtain ⟨as, hR⟩ := Dp.reads I d (.ref a) u (hd.dp X.K) ru
  obtain rfl : u = Value.ref a := ru
  exact PySem.repr_of_reads' hR h1 (PySem.PyData.noDict_hsm h2) hG (by omega) (fun b o z => z) (fun h' tk toks kp => ⟨.str d.shown, H, I.kept (t' := toks) kp, ⟨_, rfl⟩, q⟩) h4
end
end K57
namespace K57
open PySem PySem.Spec PyProof.Rows L2
variable {P : Program} {w : World} {K : PySem.W.Frag} {mg : Str → Option Value} {base : Heap}
def sp_law_same : Sp := fun vs H Q _ => ∃ (a b : Addr) (d : PyData), vs = [.ref a, .ref b] ∧ Dt H (.ref a) d ∧ Dt H (.ref b) d ∧ d.showable = true ∧ d.hasDict = false ∧ d.depth ≤ 20 ∧ d.shown.length ≤ sizeLine ∧ Q (.bl true) H
/-! ### law_same: 0 _law_told, 1 _law_due -/
abbrev N_law_same : List Str := ["_law_told", "_law_due"]
theorem sc_law_same : FnScope N_law_same ["_law_told", "_law_due"] (defScope s_law_same) := ⟨rfl, rfl, rfl, by decide +kernel, rfl, by decide +kernel, by decide +kernel⟩
theorem ok_law_same (T : Tx K mg) : OkG P w K mg base "_law_same" 1 ["_law_told", "_law_due"] sp_law_same := by
  refine okG_mk d_law_same T (fn_mem 33 rfl) rfl rfl sc_law_same (fun _ _ _ _ _ _ us hl => match us, hl with | [_, _], _ => rfl) (fun vs H Q E h => ?_) (fun f cdv A outer s H vs Q E hG hr h => ?_)
  · first | (obtain ⟨_, rfl, _⟩ := h; rfl) | (obtain ⟨_, _, rfl, _⟩ := h; rfl) | (obtain ⟨_, _, _, rfl, _⟩ := h; rfl) | (obtain ⟨_, _, _, _, rfl, _⟩ := h; rfl) | (obtain ⟨_, _, _, _, _, rfl, _⟩ := h; rfl) | (obtain ⟨_, _, _, _, _, _, rfl, _⟩ := h; rfl) | (obtain ⟨_, _, _, _, _, _, _, rfl, _⟩ := h; rfl)
  · have hu := hu_of hr
    have hu65 := hu65_of hr
    refine ⟨_, (pss_one (ps_ret (pe_cmpR op_eq (pe_callB (cr_reprG hG hu65) (by rfl) T.m_repr b_repr (pa_cons (pv 0) pa_nil)) (pe_callB (cr_reprG hG hu65) (by rfl) T.m_repr b_repr (pa_cons (pv 1) pa_nil)) (by first | exact nomark _ | rfl)))), ?_⟩
    obtain ⟨a, b, d, rfl, h1, h2, h3, h4, h5, h6, q⟩ := h
    refine ⟨_, rfl, a, d, rfl, h1, h3, h4, h5, h6, _, rfl, b, d, rfl, h2, h3, h4, h5, h6, rfl, ?_⟩
    rw [decide_eq_true rfl]
    exact q
def optD : Option Int → PyData
  | none => .none
  | some d => .int d
def ansD (r : Option Int) : PyData := .list [.bool r.isNone, optD r]
theorem ansD_ok {r : Option Int} (h : ∀ d, r = some d → d ∈ days60) : (ansD r).showable = true ∧ (ansD r).hasDict = false ∧ (ansD r).depth ≤ 20 ∧ (ansD r).shown.length ≤ sizeLine := by
  have n0 : (ansD none).showable = true ∧ (ansD none).hasDict = false ∧ (ansD none).depth ≤ 20 ∧ (ansD none).shown.length ≤ 1000 := by decide +kernel
  have n1 : ∀ d ∈ days60, (ansD (some d)).showable = true ∧ (ansD (some d)).hasDict = false ∧ (ansD (some d)).depth ≤ 20 ∧ (ansD (some d)).shown.length ≤ 1000 := by decide +kernel
  have sl : ∀ {n : Nat}, n ≤ 1000 → n ≤ sizeLine := fun h => Nat.le_of_lt (small1000 h)
  cases r with
  | none => exact ⟨n0.1, n0.2.1, n0.2.2.1, sl n0.2.2.2⟩
  | some d =>
    have := n1 d (h d rfl)
    exact ⟨this.1, this.2.1, this.2.2.1, sl this.2.2.2⟩
theorem optV_dt {H : Hp} (r : Option Int) : Dt H (optV r) (optD r) := by
  cases r with
  | none => exact .non
  | some d => exact .int d
theorem optV_non (r : Option Int) : decide (optV r = V.non) = r.isNone := by
  cases r with
  | none => rfl
  | some d => exact decide_eq_false (fun h => by cases h)
theorem optV_scal (r : Option Int) : scal (optV r) (optV r) = true := by cases r <;> rfl
theorem ans_day {S : Shop} {os : Ords} {ls : Lds} {r : Option Int} (h : HandAns S os ls r) (hd : ∀ o ∈ os, o.1 ∈ days60) : ∀ d, r = some d → d ∈ days60 := by
  intro d e
  rcases h with ⟨e2, _⟩ | ⟨k, hk, e2, _⟩
  · rw [e2] at e; cases e
  · rw [e2] at e
    have e := Option.some.inj e
    rw [← e]
    have hk2 : os[k]? = some os[k] := List.getElem?_eq_getElem hk
    rw [dayOf_at hk2]
    exact hd _ (List.getElem_mem hk)
def sp_law (K : PySem.W.Frag) : Sp := fun vs H Q _ => ∃ (a : Addr) (ns : List Int), vs = [.ref a] ∧ SqL K H a (ns.map V.int) ∧ ∀ H', Q (.bl true) H'
/-! ### law: 0 _law_script, 1 _law_spring_here, 2 _law_lap, 3 _law_store, 4 _law_asks, 5 _law_load, 6 _law_due -/
abbrev N_law : List Str := ["_law_script", "_law_spring_here", "_law_lap", "_law_store", "_law_asks", "_law_load", "_law_due"]
theorem sc_law : FnScope N_law ["_law_script"] (defScope s_law) := ⟨rfl, rfl, rfl, by decide +kernel, rfl, by decide +kernel, by decide +kernel⟩
theorem ok_law (T : Tx K mg) : OkG P w K mg base "law" 16 ["_law_script"] (sp_law K) := by
  have O_law_spring : OkF P w K mg base "_law_spring" 1 ["_law_script"] [] (sp_law_spring K) := ok_law_spring T
  have O_law_no_choices : OkF P w K mg base "_law_no_choices" 5 ["_law_spring_here"] [] sp_law_no_choices := ok_law_no_choices T
  have O_law_schedule : OkF P w K mg base "_law_schedule" 3 ["_law_spring_here", "_law_store"] [] sp_law_schedule := ok_law_schedule T
  have O_law_hand_late : OkF P w K mg base "_law_hand_late" 15 ["_law_store", "_law_asks", "_law_load", "_law_is_turned"] [] sp_law_hand_late := ok_law_hand_late T
  have O_law_same : OkG P w K mg base "_law_same" 1 ["_law_told", "_law_due"] sp_law_same := ok_law_same T
  have O_can_deliver : OkF P w K mg base "can_deliver" 9 ["shop", "orders", "goods"] [] sp_can_deliver := ok_can_deliver T
  have O_first_late : OkF P w K mg base "first_late" 8 ["shop", "orders", "goods"] [] sp_first_late := ok_first_late T
  refine okG_mk d_law T (fn_mem 51 rfl) rfl rfl sc_law (fun _ _ _ _ _ _ us hl => match us, hl with | [_], _ => rfl) (fun vs H Q E h => ?_) (fun f cdv A outer s H vs Q E hG hr h => ?_)
  · first | (obtain ⟨_, rfl, _⟩ := h; rfl) | (obtain ⟨_, _, rfl, _⟩ := h; rfl) | (obtain ⟨_, _, _, rfl, _⟩ := h; rfl) | (obtain ⟨_, _, _, _, rfl, _⟩ := h; rfl) | (obtain ⟨_, _, _, _, _, rfl, _⟩ := h; rfl) | (obtain ⟨_, _, _, _, _, _, rfl, _⟩ := h; rfl) | (obtain ⟨_, _, _, _, _, _, _, rfl, _⟩ := h; rfl)
  · have hu := hu_of hr
    have hu65 := hu65_of hr
    refine ⟨_, (pss_cons (ps_set (i := 1) sc_law.nd rfl (by first | exact Or.inl rfl | exact Or.inr rfl) (pe_callO O_law_spring hr (pa_cons (pv 0) pa_nil)))
      (pss_cons (ps_for PassesOwn.never rfl (pi_range1 (by rfl) T.m_range (pa_cons pe_int pa_nil)) (pg_name (i := 2) sc_law.nd rfl (by first | exact Or.inl rfl | exact Or.inr rfl))
        (pss_cons (ps_set (i := 3) sc_law.nd rfl (by first | exact Or.inl rfl | exact Or.inr rfl) (pe_callO O_law_no_choices hr (pa_cons (pv 1) pa_nil)))
        (pss_cons (ps_asg (pe_callO O_law_schedule hr (pa_cons (pv 1) (pa_cons (pv 3) pa_nil))) (pg_tupN rfl (pgs_cons (pg_name (i := 4) sc_law.nd rfl (by first | exact Or.inl rfl | exact Or.inr rfl)) (pgs_cons (pg_name (i := 5) sc_law.nd rfl (by first | exact Or.inl rfl | exact Or.inr rfl)) pgs_nil))))
        (pss_cons (ps_set (i := 6) sc_law.nd rfl (by first | exact Or.inl rfl | exact Or.inr rfl) (pe_callO O_law_hand_late hr (pa_cons (pv 3) (pa_cons (pv 4) (pa_cons (pv 5) (pa_cons pe_bl pa_nil))))))
        (pss_cons (ps_if (pt_cmpR op_ne (pv 6) (pe_callO O_law_hand_late hr (pa_cons (pv 3) (pa_cons (pv 4) (pa_cons (pv 5) (pa_cons pe_bl pa_nil))))) (by first | exact nomark _ | rfl))
          (pss_one (ps_ret pe_bl)) pss_nil)
        (pss_one (ps_if (pt_not (pt_val (pe_callG O_law_same hG hr (pa_cons (pe_lstN (pa_cons (pe_callO O_can_deliver hr (pa_cons (pv 3) (pa_cons (pv 4) (pa_cons (pv 5) pa_nil)))) (pa_cons (pe_callO O_first_late hr (pa_cons (pv 3) (pa_cons (pv 4) (pa_cons (pv 5) pa_nil)))) pa_nil))) (pa_cons (pe_lstN (pa_cons (pe_cmpR op_isN (pv 6) pe_non (by first | exact nomark _ | rfl)) (pa_cons (pv 6) pa_nil))) pa_nil)))))
          (pss_one (ps_ret pe_bl)) pss_nil)))))))
      (pss_one (ps_ret pe_bl)))), ?_⟩
    obtain ⟨a, ns, rfl, ha, q⟩ := h
    refine ⟨_, rfl, a, ns, rfl, ha, fun sp c H1 _ _ _ hs1 => ?_⟩
    refine ⟨4, rfl, by decide, by decide, for_range (n := 4) (fun i σ H' => ∃ (x2 x3 x4 x5 x6 : Option V), σ = [some (.ref a), some (.ref sp), x2, x3, x4, x5, x6] ∧ Spr H' sp c)
      ⟨none, none, none, none, none, rfl, hs1⟩ (fun i σ H' hi ⟨x2, x3, x4, x5, x6, e, hs⟩ => ?_) (fun σ H' _ => q H')⟩
    subst e
    refine ⟨_, rfl, sp, c, rfl, hs, fun t S H2 k2 hs2 hS hok => ?_⟩
    refine ⟨_, rfl, _, rfl, sp, c, t, S, rfl, hs2, hS, hok, fun r a2 b2 os ls H3 k3 hs3 hr3 hO hOk hL hLk hdays => ?_⟩
    refine ⟨r, _, rfl, hr3, rfl, _, _, rfl, _, _, rfl, rfl, ?_⟩
    have hS3 := hS.tk (hs2.tk k3)
    refine ⟨_, rfl, _, rfl, _, rfl, t, a2, b2, S, os, ls, false, rfl, hS3, hok, hO, hOk, hL, hLk, fun r1 H4 s4 h1 => ?_⟩
    have t4 := tk_of s4
    refine ⟨_, rfl, _, rfl, _, rfl, _, rfl, t, a2, b2, S, os, ls, true, rfl, hS3.tk t4, hok, hO.tk t4, hOk, hL.tk t4, hLk, fun r2 H5 s5 h2 => ?_⟩
    have e12 : r1 = r2 := hand_eq h1 h2 fun j _ => sol_ex hok _ _
    subst e12
    refine ⟨optV_scal r1, false, by rw [decide_eq_true rfl]; rfl, ?_⟩
    refine iteF (A := _) ?_
    have s45 := s4.trans s5
    have t5 := tk_of s45
    refine ⟨_, rfl, _, rfl, _, rfl, t, a2, b2, S, os, ls, rfl, hS3.tk t5, hok, hO.tk t5, hOk, hL.tk t5, hLk, fun r3 H6 s6 h3 => ?_⟩
    have e13 : r1 = r3 := ans_eq h1 h3
    subst e13
    have s46 := s45.trans s6
    have t6 := tk_of s46
    refine ⟨_, rfl, _, rfl, _, rfl, t, a2, b2, S, os, ls, rfl, hS3.tk t6, hok, hO.tk t6, hOk, hL.tk t6, hLk, fun r4 H7 s7 h4 => ?_⟩
    have e14 : r1 = r4 := ans_eq h1 h4
    subst e14
    refine ⟨sz2, fun p8 H8 n8 => ?_⟩
    refine ⟨_, rfl, rfl, _, rfl, sz2, fun p9 H9 n9 => ?_⟩
    obtain ⟨o1, o2, o3, o4⟩ := ansD_ok (ans_day h1 hdays)
    have h9 := n9.at_
    rw [optV_non] at h9
    refine ⟨p8, p9, ansD r1, rfl, .lst (n9.same _ _ n8.at_) (.cons (.bl _) (.cons (optV_dt r1) .nil)), .lst h9 (.cons (.bl _) (.cons (optV_dt r1) .nil)), o1, o2, o3, o4, true, rfl, ?_⟩
    refine iteF (A := _) ?_
    exact ⟨_, _, _, _, _, rfl, hs3.sm (s46.trans (s7.trans (n8.same.trans n9.same)))⟩
end K57
namespace K57
open PySem PySem.Spec PyProof.Rows L2
/-! ### the end: the law's def is called -/
theorem end_call {P : Program} {w : World} {K : PySem.W.Frag} {mg mb : Str → Option Value} {k : Nat} {fa a : Addr} {x : Str} {sp : Sp} {t : Shared} {us : List Value} {ns : List Int}
    (inK : K.In t.heap) (gl : t.heap.Ns mainGlobals mg) (bi : t.heap.Ns builtinsNs mb) (boot : ∀ y : Str, y ≠ "__name__" → mb y = bootBuiltins y) (lim : t.heap.NoLimit) (noGen : t.gens = #[])
    (script : t.heap.get? a = some { cls := .type "list", data := .seq us.toArray }) (nI : IntsAre us ns) (few : ns.length ≤ sizeLine) (room : Room k callerA)
    (F : ∀ h0 : Heap, K.In h0 → h0.Ns mainGlobals mg → ∃ fd, FnG P w K mg h0 k fa fd [x] sp ∧ Binds K fd [x] [])
    (promise : ∀ H : Hp, SqL K H a (ns.map V.int) → sp [.ref a] H (fun v _ => v = .bl true) fun _ _ _ => False) :
    codeAny (model P w) callerA (.call (.ref fa) ⟨[.ref a], []⟩) (fun r t' => r = .ok (.ret (.bool true)) ∧ OldK t.heap t'.heap ∧ t'.os = t.os ∧ AllBare t'.gens) t := by
  have relI := vals_ints nI
  have main : ∀ H : Hp, Only H → SqL K H a (ns.map V.int) → HOk P w H t.heap → (∀ c, H c ≠ none → c = a) → (H a ≠ none → K.lookup a = none) →
      codeAny (model P w) callerA (.call (.ref fa) ⟨[.ref a], []⟩) (fun r t' => r = .ok (.ret (.bool true)) ∧ OldK t.heap t'.heap ∧ t'.os = t.os ∧ AllBare t'.gens) t := by
    intro H only seq good alone other
    have keep : ∀ {c : Addr} {o : Obj}, t.heap.get? c = some o → H c = none → (hidT t.heap H).get? c = some o := fun z n => hidT_get z n
    have free : ∀ {c : Addr} {o : Obj} {es : Array DictEntry} {ep : Nat}, t.heap.get? c = some o → o.data = .dict es ep → H c = none := by
      intro c o es ep z d
      refine Option.eq_none_iff_forall_ne_some.mpr fun u hu => ?_
      have ca : c = a := alone c (by rw [hu]; exact Option.some_ne_none u)
      rw [ca, script] at z
      have z := Option.some.inj z
      subst z
      exact Data.noConfusion d
    have space : ∀ {c : Addr} {m : Str → Option Value}, t.heap.Ns c m → (hidT t.heap H).Ns c m := by
      rintro c m ⟨o, es, ep, z, d, rest⟩
      exact ⟨o, es, ep, keep z (free z d), d, rest⟩
    have inB : K.In (hidT t.heap H) := by
      intro c o z
      refine keep (inK c o z) (Option.eq_none_iff_forall_ne_some.mpr fun u hu => ?_)
      have ca : c = a := alone c (by rw [hu]; exact Option.some_ne_none u)
      have := other (by rw [← ca, hu]; exact Option.some_ne_none u)
      rw [← ca, z] at this
      cases this
    have env : Env0 P w K mg (hidT t.heap H) callerA [] t H :=
      { frames := rfl, mod := ⟨inB, space gl, ⟨mb, space bi, boot⟩, lim.elim fun mc z => ⟨mc, space z.1, z.2⟩⟩, bs := fun c o z => of_hidT z, bsz := Nat.le_of_eq (hidT_size _ _), funs := trivial, frf := (fun c hc => nomatch hc), hok := good, bare := .of_eq noGen }
    obtain ⟨fd, G, binds⟩ := F _ inB (space gl)
    have ran := G.runG callerA [] t H ⟨[.ref a], []⟩ [.ref a] [.ref a] _ _ rfl room env (binds t [.ref a] inK rfl) (.cons rfl .nil) (promise H seq)
    refine codeAny_mono ran fun r t' out => ?_
    match r, out with
    | .error ex, out => exact out.elim
    | .ok (.ret u), ⟨v, H', osEq, bareT, un, good', rv, qv⟩ =>
      have qv : v = .bl true := qv
      subst qv
      have ru : u = Value.bool true := rv
      subst ru
      refine ⟨rfl, OldK.of_keep fun c o z => ?_, osEq, bareT⟩
      cases hc : H c with
      | none => exact un.keep c o z hc (fun y => nomatch y) (fun y => nomatch y)
      | some v0 =>
        rcases only c with y | ⟨ob, xs, y⟩
        · rw [hc] at y; cases y
        · obtain ⟨g1, _⟩ := good c _ y
          obtain ⟨g2, _⟩ := good' c _ (un.frzs c ob _ y)
          rw [z] at g1
          rw [Option.some.inj g1]
          exact g2
  cases hk : K.lookup a with
  | some o =>
    have z := inK a o hk
    rw [script] at z
    have z := Option.some.inj z
    subst z
    exact main (fun _ => none) (fun _ => .inl rfl) (.inr ⟨_, us.toArray, _, hk, rfl, rfl, rfl, by rw [List.size_toArray, nI.length]; exact few, by simpa using relI⟩) (fun c u y => nomatch y) (fun c y => absurd rfl y) fun y => absurd rfl y
  | none =>
    obtain ⟨H, hH⟩ : ∃ H : Hp, ∀ c, H c = if c = a then some (.frz { cls := .type "list", data := .seq us.toArray } (.lst (ns.map V.int))) else none := ⟨_, fun _ => rfl⟩
    have hHa : H a = some (.frz { cls := .type "list", data := .seq us.toArray } (.lst (ns.map V.int))) := by rw [hH, if_pos rfl]
    have hHn : ∀ c, c ≠ a → H c = none := fun c n => by rw [hH, if_neg n]
    refine main H (fun c => ?_) (.inl (.inr ⟨_, hHa⟩)) (fun c u y => ?_) (fun c y => Decidable.byContradiction fun n => y (hHn c n)) fun _ => hk
    · by_cases n : c = a
      · exact .inr ⟨_, _, by rw [n]; exact hHa⟩
      · exact .inl (hHn c n)
    · by_cases n : c = a
      · subst n
        rw [hHa] at y
        have y := Option.some.inj y
        subst y
        exact ⟨script, by rw [List.length_map]; exact few, us, _, relI, script⟩
      · rw [hHn c n] at y; cases y
end K57
namespace K57
open PySem PySem.Spec PyProof.Rows L2
abbrev R : PySem.W.OpenRow := PySem.W.OpenLaw.row PySem.Challenge.rw_kitsleft_k57_whole_days_by_deeds
abbrev hk : PySem.W.Hook := He.hookD 4 fa fn
def ob (s : PySem.W.SharedT) : He.AlD := He.obsDG 4 fa fn (HandSHeadRun.getT s)
theorem ob_eq (s : PySem.W.SharedT) : ob s = hk.obs s.abs := He.obsDG_eq (HandSHeadRun.getT_eq s)
def loose1 : List Str := ["is_integer", "is_number", "is_count", "is_name", "is_among", "is_tuple_of", "is_names", "is_counted", "first_names", "is_article", "is_row", "stocks_by", "packs_by", "outer_names", "names_at_bottom", "turns_and_asks", "left_by", "row_with", "rows_together", "want", "is_rising", "is_order", "are_orders", "is_coming", "are_goods", "want_no_choices", "want_schedule", "lacks_by_days", "first_late", "can_deliver"]
def loose2 : List Str := ["_law_spring", "_law_dip", "_law_pick", "_law_same", "_law_tags", "_law_some", "_law_sheet", "_law_shop", "_law_bare", "_law_inner", "_law_flat_sheets", "_law_worth", "_law_articles", "_law_row", "_law_there", "_law_no_choices", "_law_schedule", "_law_leading", "_law_got", "_law_built", "_law_hand_late", "LETTERS", "LONGEST_NAME", "KitError", "ShopError", "NotUsable", "__name__"]
def loose : List Str := loose1 ++ loose2
theorem run (w : World) : HandSHeadRun.RunEq R (PySem.W.view R.prog [64]) hk ob 3000 loose w := by
  intro os
  kernel_rfl
end K57
namespace K57
open PySem PySem.Spec PyProof.Rows L2
theorem fa_eq : fa = fn.map (fun d => He.Fa.glo d.name) ++ fa.drop 52 := by rfl
theorem at_eq : fn.map (fun d => d.at_) = fn.map (fun d => (d.name, (none : Option Str))) := by rfl
theorem tx_of {K : PySem.W.Frag} {h : Heap} {mg : Str → Option Value} (c : He.SaysD fa fn K) (X : K.In h) (G : h.Ns mainGlobals mg) : Tx K mg where
  defs := fun d hd => by
    obtain ⟨i, hi⟩ := List.getElem?_of_mem hd
    obtain ⟨fd, F⟩ := c.def_ i hi
    refine ⟨_, fd, F, ?_⟩
    have e := List.map_inj_left.mp at_eq d hd
    rw [e]
    have hf : fa[i]? = some (.glo d.name) := by
      have hl : i < fn.length := by
        rcases Nat.lt_or_ge i fn.length with y | y
        · exact y
        · rw [List.getElem?_eq_none y] at hi; cases hi
      rw [fa_eq, List.getElem?_append_left (by rw [List.length_map]; exact hl), List.getElem?_map, hi]; rfl
    exact He.glo_ok X G (c.fact i hf)
  m_isinstance := He.free_ok X G (c.fact 52)
  m_int := He.free_ok X G (c.fact 53)
  m_bool := He.free_ok X G (c.fact 54)
  m_str := He.free_ok X G (c.fact 55)
  m_len := He.free_ok X G (c.fact 56)
  m_all := He.free_ok X G (c.fact 57)
  m_any := He.free_ok X G (c.fact 58)
  m_tuple := He.free_ok X G (c.fact 59)
  m_zip := He.free_ok X G (c.fact 60)
  m_sorted := He.free_ok X G (c.fact 61)
  m_set := He.free_ok X G (c.fact 62)
  m_list := He.free_ok X G (c.fact 63)
  m_dict := He.free_ok X G (c.fact 64)
  m_range := He.free_ok X G (c.fact 65)
  m_sum := He.free_ok X G (c.fact 66)
  m_min := He.free_ok X G (c.fact 67)
  m_max := He.free_ok X G (c.fact 68)
  m_repr := He.free_ok X G (c.fact 69)
  letters := He.str_ok X G (c.fact 70)
  longest := He.int_ok X G (c.fact 71)
end K57
open PySem PySem.W PySem.Calls PyProof.Rows
theorem PySem.Challenge.cw_kitsleft_k57_whole_days_by_deeds_holds : PySem.Challenge.rw_kitsleft_k57_whole_days_by_deeds.Holds := by
  w_on; o_law
  refine HandSHeadRun.head_any (r := OpenLaw.row PySem.Challenge.rw_kitsleft_k57_whole_days_by_deeds) (q := view (OpenLaw.row PySem.Challenge.rw_kitsleft_k57_whole_days_by_deeds).prog [64]) (H := K57.hk) (ob := K57.ob) (M := 3000) (loose := K57.loose) (d := HandSHeadRun.topDef (OpenLaw.row PySem.Challenge.rw_kitsleft_k57_whole_days_by_deeds).prog 64) (kwd := []) K57.ob_eq
    (by kernel_rfl) (fun s => by kernel_rfl) K57.run (by kernel_rfl) (by kernel_rfl) (by kernel_rfl) (by rfl) (by first | assumption | decide +kernel) (by decide +kernel) ⟨rfl, rfl, rfl, rfl, rfl, by decide +kernel⟩ ?hw ?hc
  case hw => w_witness2
  case hc =>
    refine Att.attach_call (l := PySem.Challenge.rw_kitsleft_k57_whole_days_by_deeds) (n := 63) rfl (by kernel_rfl) fun w s0 s1 mg mb fa o pm cd doc a vs ns G Y ho hd hcd hmg hobj hI hlen hg => ?_
    obtain ⟨K, KX, c⟩ := Y
    have hmg' : mg ("law" : PySem.Str) = some (.ref fa) := by
      have e : (HandSHeadRun.topDef (OpenLaw.row PySem.Challenge.rw_kitsleft_k57_whole_days_by_deeds).prog 64).name = ("law" : PySem.Str) := by kernel_rfl
      rw [← e]
      exact hmg
    have T : K57.Tx K mg := K57.tx_of c KX G.T.g
    refine K57.end_call (k := 16) (x := "_law_script") (sp := K57.sp_law K) KX G.T.g G.T.b G.T.builtins G.T.nolimit hg hobj hI (Nat.le_trans hlen (by decide)) ⟨rfl, by decide, by decide⟩ (fun h0 _ _ => ?_) fun H hs => ⟨a, ns, rfl, hs, fun _ => rfl⟩
    obtain ⟨f, fd, F, hf, _, hb⟩ := (K57.ok_law (P := (PySem.Challenge.rw_kitsleft_k57_whole_days_by_deeds).prog) (w := w) (base := h0) T).ex
    rw [hmg'] at hf
    have hf : fa = f := by
      have := Option.some.inj hf
      injection this
    subst hf
    exact ⟨fd, F, hb⟩
