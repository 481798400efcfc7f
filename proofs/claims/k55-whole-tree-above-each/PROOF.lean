import PyProof.Rows.All
import Wide.All
import OpenK.AllK
import Wide.FinOn
import HandS.ForMost
import HandS.IsInst
import HandS.TupAny
import HandS.More
import HandS.Sort
import HandS.Conv
import KE.GoesMore
import PyProof.ListStr
import PyProof.StrOps2
import HandS.Rev
import HandS.TupSets
import KE.KeyNested
import KE.LtSeq
import HandS.SortOrd
import KE.KSortTup
import PyProof.NeData
import HandS.CallRecv
import PySem.Challenge.RW_lostpost_k55_whole_a_tree_above_each
set_option Elab.async false
set_option linter.all false
set_option maxRecDepth 100000
/-! M1: pieces, products, plain forms. Plain Lean, no program in sight. -/
namespace K55

/-- a letter that may be left out, or letters any often -/
inductive Piece where
  | mb (c : Nat)
  | an (s : List Nat)
  deriving DecidableEq
abbrev Product := List Piece
def Piece.ls : Piece → List Nat
  | .mb c => [c]
  | .an s => s
def Piece.isAny : Piece → Bool
  | .mb _ => false
  | .an _ => true

/-! ### the words of a product -/
inductive InP : Product → List Nat → Prop
  | nil : InP [] []
  | skip {a p w} : InP p w → InP (a :: p) w
  | one {c p w} : InP p w → InP (.mb c :: p) (c :: w)
  | more {s c p w} : c ∈ s → InP (.an s :: p) w → InP (.an s :: p) (c :: w)

theorem InP.empty : ∀ p : Product, InP p []
  | [] => .nil
  | _ :: p => .skip (InP.empty p)

theorem InP.tail {p : Product} {v : List Nat} (h : InP p v) : ∀ {c w}, v = c :: w → InP p w := by
  induction h with
  | nil => intro c w e; cases e
  | skip _ ih => intro c w e; exact .skip (ih e)
  | one h _ => intro c w e; cases e; exact .skip h
  | more _ h _ => intro c w e; cases e; exact h

/-- the greedy reading -/
def has : Product → List Nat → Bool
  | _, [] => true
  | [], _ :: _ => false
  | a :: p, c :: w => if c ∈ a.ls then (if a.isAny then has (a :: p) w else has p w) else has p (c :: w)
termination_by p w => p.length + w.length

theorem has_nil (p : Product) : has p [] = true := by unfold has; rfl
theorem has_none (c : Nat) (w : List Nat) : has [] (c :: w) = false := by unfold has; rfl
theorem has_cons (a : Piece) (p : Product) (c : Nat) (w : List Nat) :
    has (a :: p) (c :: w) = if c ∈ a.ls then (if a.isAny then has (a :: p) w else has p w) else has p (c :: w) := by
  rw [has]

theorem InP.cut {a : Piece} {p : Product} {c : Nat} {w : List Nat} (h : InP (a :: p) (c :: w)) :
    (c ∉ a.ls → InP p (c :: w)) ∧ (c ∈ a.ls → a.isAny = true → InP (a :: p) w) ∧ (c ∈ a.ls → a.isAny = false → InP p w) := by
  cases h with
  | skip h => exact ⟨fun _ => h, fun _ _ => .skip (h.tail rfl), fun _ _ => h.tail rfl⟩
  | one h => exact ⟨fun n => absurd (List.mem_singleton.mpr rfl) n, fun _ e => (by cases e), fun _ _ => h⟩
  | more hc h => exact ⟨fun n => absurd hc n, fun _ _ => h, fun _ e => by cases e⟩

theorem has_iff : ∀ (n : Nat) (p : Product) (w : List Nat), p.length + w.length ≤ n → (has p w = true ↔ InP p w) := by
  intro n
  induction n with
  | zero =>
    intro p w h
    have hw : w = [] := List.eq_nil_of_length_eq_zero (by omega)
    subst hw
    exact ⟨fun _ => InP.empty p, fun _ => has_nil p⟩
  | succ n ih =>
    intro p w h
    cases w with
    | nil => exact ⟨fun _ => InP.empty p, fun _ => has_nil p⟩
    | cons c w =>
      cases p with
      | nil =>
        rw [has_none]
        exact ⟨fun e => (by cases e), fun q => (by cases q)⟩
      | cons a p =>
        have h : p.length + 1 + (w.length + 1) ≤ n + 1 := h
        rw [has_cons]
        by_cases hc : c ∈ a.ls
        · rw [if_pos hc]
          by_cases ha : a.isAny = true
          · rw [if_pos ha, ih (a :: p) w (by simp only [List.length_cons]; omega)]
            refine ⟨fun q => ?_, fun q => q.cut.2.1 hc ha⟩
            cases a with
            | mb x => cases ha
            | an s => exact .more hc q
          · rw [if_neg ha, ih p w (by omega)]
            refine ⟨fun q => ?_, fun q => q.cut.2.2 hc (by simpa using ha)⟩
            cases a with
            | mb x =>
              have e : c = x := List.mem_singleton.mp hc
              subst e
              exact .one q
            | an s => exact absurd rfl ha
        · rw [if_neg hc, ih p (c :: w) (by simp only [List.length_cons]; omega)]
          exact ⟨fun q => .skip q, fun q => q.cut.1 hc⟩
theorem has_inP (p : Product) (w : List Nat) : has p w = true ↔ InP p w := has_iff _ p w (Nat.le_refl _)

theorem InP.append {p q : Product} {u v : List Nat} (h : InP p u) (k : InP q v) : InP (p ++ q) (u ++ v) := by
  induction h with
  | nil => exact k
  | skip _ ih => exact .skip ih
  | one _ ih => exact .one ih
  | more hc _ ih => exact .more hc ih
theorem InP.split : ∀ {p q : Product} {w : List Nat}, InP (p ++ q) w → ∃ u v, w = u ++ v ∧ InP p u ∧ InP q v := by
  intro p q w h
  generalize e : p ++ q = r at h
  induction h generalizing p with
  | nil =>
    obtain ⟨rfl, rfl⟩ := List.append_eq_nil_iff.mp e
    exact ⟨[], [], rfl, .nil, .nil⟩
  | @skip a p' w h ih =>
    cases p with
    | nil => subst e; exact ⟨[], w, rfl, .nil, .skip h⟩
    | cons b p =>
      injection e with e1 e2
      obtain ⟨u, v, e3, k1, k2⟩ := ih e2
      subst e1
      exact ⟨u, v, e3, .skip k1, k2⟩
  | @one c p' w h ih =>
    cases p with
    | nil => subst e; exact ⟨[], c :: w, rfl, .nil, .one h⟩
    | cons b p =>
      injection e with e1 e2
      obtain ⟨u, v, e3, k1, k2⟩ := ih e2
      subst e1 e3
      exact ⟨c :: u, v, rfl, .one k1, k2⟩
  | @more s c p' w hc h ih =>
    cases p with
    | nil => subst e; exact ⟨[], c :: w, rfl, .nil, .more hc h⟩
    | cons b p =>
      have e' := e
      injection e with e1 e2
      obtain ⟨u, v, e3, k1, k2⟩ := ih e'
      subst e1 e3
      exact ⟨c :: u, v, rfl, .more hc k1, k2⟩
theorem inP_append {p q : Product} {w : List Nat} : InP (p ++ q) w ↔ ∃ u v, w = u ++ v ∧ InP p u ∧ InP q v :=
  ⟨InP.split, fun ⟨_, _, e, h, k⟩ => e ▸ h.append k⟩

theorem inP_nil {w : List Nat} : InP [] w ↔ w = [] := ⟨fun h => by cases h; rfl, fun e => e ▸ .nil⟩
theorem inP_mb {c : Nat} {w : List Nat} : InP [.mb c] w ↔ w = [] ∨ w = [c] := by
  constructor
  · intro h
    cases h with
    | skip h => exact .inl (inP_nil.mp h)
    | one h => right; rw [inP_nil.mp h]
  · rintro (e | e)
    · subst e; exact InP.empty _
    · subst e; exact .one .nil
theorem inP_an {s w : List Nat} : InP [.an s] w ↔ ∀ c ∈ w, c ∈ s := by
  induction w with
  | nil => exact ⟨fun _ c h => (by cases h), fun _ => InP.empty _⟩
  | cons c w ih =>
    constructor
    · intro h
      cases h with
      | skip h => cases h
      | more hc h =>
        intro x hx
        rcases List.mem_cons.mp hx with e | hx
        · exact e ▸ hc
        · exact ih.mp h x hx
    · intro h
      exact .more (h c List.mem_cons_self) (ih.mpr fun x hx => h x (List.mem_cons_of_mem _ hx))
/-- a product's words under: what comes of a word by leaving letters out -/
theorem InP.sub {p : Product} {v w : List Nat} (s : w.Sublist v) : InP p v → InP p w := by
  induction s generalizing p with
  | slnil => exact id
  | cons a _ ih => exact fun h => ih (h.tail rfl)
  | @cons_cons l₁ l₂ a _ ih =>
    intro h
    induction p with
    | nil => cases h
    | cons b p ihp =>
      cases h with
      | skip h => exact .skip (ihp h)
      | one h => exact .one (ih h)
      | more hc h => exact .more hc (ih h)

/-! ### swallowing -/
def swallows (a b : Piece) : Bool := a.isAny && b.ls.all fun c => decide (c ∈ a.ls)
theorem swallows_iff {a b : Piece} : swallows a b = true ↔ ∃ s, a = .an s ∧ ∀ c ∈ b.ls, c ∈ s := by
  unfold swallows
  cases a with
  | mb c => exact ⟨fun h => by simp [Piece.isAny] at h, fun ⟨s, e, _⟩ => by cases e⟩
  | an s =>
    constructor
    · intro h
      refine ⟨s, rfl, fun c hc => ?_⟩
      have h2 := (Bool.and_eq_true _ _ ▸ h).2
      exact of_decide_eq_true (List.all_eq_true.mp h2 c hc)
    · rintro ⟨t, e, h⟩
      cases e
      exact Bool.and_eq_true _ _ ▸ ⟨rfl, List.all_eq_true.mpr fun c hc => decide_eq_true (h c hc)⟩
theorem inP_one {a : Piece} {w : List Nat} (h : InP [a] w) : ∀ c ∈ w, c ∈ a.ls := by
  cases a with
  | mb x =>
    rcases inP_mb.mp h with e | e
    · subst e; intro c hc; cases hc
    · subst e; intro c hc; exact hc
  | an s => exact inP_an.mp h
theorem swallow_left {a b : Piece} (h : swallows a b = true) (w : List Nat) : InP [a, b] w ↔ InP [a] w := by
  obtain ⟨s, rfl, hs⟩ := swallows_iff.mp h
  constructor
  · intro k
    obtain ⟨u, v, rfl, k1, k2⟩ := InP.split (p := [.an s]) (q := [b]) k
    refine inP_an.mpr fun c hc => ?_
    rcases List.mem_append.mp hc with hc | hc
    · exact inP_an.mp k1 c hc
    · exact hs c (inP_one k2 c hc)
  · intro k
    have := k.append (InP.empty [b])
    simpa using this
theorem swallow_right {a b : Piece} (h : swallows a b = true) (w : List Nat) : InP [b, a] w ↔ InP [a] w := by
  obtain ⟨s, rfl, hs⟩ := swallows_iff.mp h
  constructor
  · intro k
    obtain ⟨u, v, rfl, k1, k2⟩ := InP.split (p := [b]) (q := [.an s]) k
    refine inP_an.mpr fun c hc => ?_
    rcases List.mem_append.mp hc with hc | hc
    · exact hs c (inP_one k1 c hc)
    · exact inP_an.mp k2 c hc
  · intro k; exact .skip k
theorem mid_iff {x y : Product} {m m' : Product} (h : ∀ w, InP m w ↔ InP m' w) (w : List Nat) : InP (x ++ (m ++ y)) w ↔ InP (x ++ (m' ++ y)) w := by
  rw [inP_append, inP_append]
  constructor
  · rintro ⟨u, v, e, k1, k2⟩
    obtain ⟨v1, v2, e2, k3, k4⟩ := k2.split
    exact ⟨u, v, e, k1, e2 ▸ ((h v1).mp k3).append k4⟩
  · rintro ⟨u, v, e, k1, k2⟩
    obtain ⟨v1, v2, e2, k3, k4⟩ := k2.split
    exact ⟨u, v, e, k1, e2 ▸ ((h v1).mpr k3).append k4⟩

/-! ### the plain form: a stack, its head the last piece -/
def popSw (a : Piece) : List Piece → List Piece
  | [] => []
  | b :: st => if swallows a b then popSw a st else b :: st
def pushP (a : Piece) (st : List Piece) : List Piece :=
  match st with
  | [] => [a]
  | b :: r => if swallows b a then b :: r else a :: b :: r
def plainStep (st : List Piece) (a : Piece) : List Piece := pushP a (popSw a st)
def plainP (p : Product) : Product := (p.foldl plainStep []).reverse

theorem pop_words (a : Piece) (y : Product) : ∀ (st : List Piece) (w : List Nat), InP (st.reverse ++ (a :: y)) w ↔ InP ((popSw a st).reverse ++ (a :: y)) w
  | [], w => Iff.rfl
  | b :: st, w => by
    unfold popSw
    by_cases h : swallows a b = true
    · rw [if_pos h, ← pop_words a y st w, List.reverse_cons, List.append_assoc]
      exact mid_iff (x := st.reverse) (m := [b, a]) (m' := [a]) (y := y) (swallow_right h) w
    · rw [if_neg h]
theorem push_words (a : Piece) (y : Product) (st : List Piece) (w : List Nat) : InP (st.reverse ++ (a :: y)) w ↔ InP ((pushP a st).reverse ++ y) w := by
  unfold pushP
  cases st with
  | nil => exact Iff.rfl
  | cons b r =>
    dsimp only
    by_cases h : swallows b a = true
    · rw [if_pos h, List.reverse_cons, List.append_assoc, List.append_assoc]
      exact mid_iff (x := r.reverse) (m := [b, a]) (m' := [b]) (y := y) (swallow_left h) w
    · rw [if_neg h, List.reverse_cons (a := a), List.append_assoc]
      exact Iff.rfl
theorem fold_words : ∀ (p : Product) (st : List Piece) (w : List Nat), InP (st.reverse ++ p) w ↔ InP (p.foldl plainStep st).reverse w
  | [], st, w => by rw [List.append_nil]; exact Iff.rfl
  | a :: p, st, w => by
    rw [pop_words, push_words, List.foldl_cons]
    exact fold_words p (plainStep st a) w
theorem plainP_words (p : Product) (w : List Nat) : InP (plainP p) w ↔ InP p w := (fold_words p [] w).symm

/-! ### what stays of the pieces -/
theorem popSw_mem {a b : Piece} : ∀ {st : List Piece}, b ∈ popSw a st → b ∈ st
  | [], h => h
  | c :: st, h => by
    unfold popSw at h
    by_cases hs : swallows a c = true
    · rw [if_pos hs] at h; exact List.mem_cons_of_mem _ (popSw_mem h)
    · rw [if_neg hs] at h; exact h
theorem pushP_mem {a b : Piece} {st : List Piece} (h : b ∈ pushP a st) : b = a ∨ b ∈ st := by
  unfold pushP at h
  cases st with
  | nil => exact .inl (List.mem_singleton.mp h)
  | cons c r =>
    dsimp only at h
    by_cases hs : swallows c a = true
    · rw [if_pos hs] at h; exact .inr h
    · rw [if_neg hs] at h; exact List.mem_cons.mp h
theorem fold_mem : ∀ {p : Product} {st : List Piece} {b : Piece}, b ∈ p.foldl plainStep st → b ∈ st ∨ b ∈ p
  | [], _, _, h => .inl h
  | a :: p, st, b, h => by
    rcases fold_mem (p := p) h with h | h
    · rcases pushP_mem h with e | h
      · exact .inr (e ▸ List.mem_cons_self)
      · exact .inl (popSw_mem h)
    · exact .inr (List.mem_cons_of_mem _ h)
theorem plainP_mem {p : Product} {b : Piece} (h : b ∈ plainP p) : b ∈ p := by
  rcases fold_mem (List.mem_reverse.mp h) with h | h
  · cases h
  · exact h
theorem popSw_len (a : Piece) : ∀ st : List Piece, (popSw a st).length ≤ st.length
  | [] => Nat.le_refl _
  | c :: st => by
    unfold popSw
    by_cases hs : swallows a c = true
    · rw [if_pos hs]; exact Nat.le_succ_of_le (popSw_len a st)
    · rw [if_neg hs]; exact Nat.le_refl _
theorem pushP_len (a : Piece) (st : List Piece) : (pushP a st).length ≤ st.length + 1 := by
  unfold pushP
  cases st with
  | nil => exact Nat.le_refl _
  | cons c r =>
    dsimp only
    by_cases hs : swallows c a = true
    · rw [if_pos hs]; exact Nat.le_succ _
    · rw [if_neg hs]; exact Nat.le_refl _
theorem fold_len : ∀ (p : Product) (st : List Piece), (p.foldl plainStep st).length ≤ st.length + p.length
  | [], _ => Nat.le_refl _
  | a :: p, st => by
    have h1 := fold_len p (plainStep st a)
    have h2 := pushP_len a (popSw a st)
    have h3 := popSw_len a st
    show (p.foldl plainStep (plainStep st a)).length ≤ st.length + (p.length + 1)
    have h4 : (plainStep st a).length ≤ st.length + 1 := Nat.le_trans h2 (by omega)
    omega
theorem plainP_len (p : Product) : (plainP p).length ≤ p.length := by
  have := fold_len p []
  unfold plainP
  rw [List.length_reverse]
  simpa using this

/-! ### plain: no piece beside one that swallows it -/
def Plain : Product → Prop
  | [] => True
  | a :: r => (∀ b r', r = b :: r' → swallows a b = false ∧ swallows b a = false) ∧ Plain r
theorem Plain.snoc : ∀ {p : Product} {a : Piece}, Plain p → (∀ b q, p = q ++ [b] → swallows a b = false ∧ swallows b a = false) → Plain (p ++ [a])
  | [], a, _, _ => ⟨fun b r' e => (by cases e), trivial⟩
  | [c], a, _, h => ⟨fun b r' e => by
      have e1 : b = a := by injection e with e _; exact e.symm
      subst e1
      exact (h c [] rfl).symm, ⟨fun b r' e => (by cases e), trivial⟩⟩
  | c :: d :: r, a, hp, h => by
    refine ⟨fun b r' e => ?_, Plain.snoc (p := d :: r) hp.2 fun b q e => h b (c :: q) (by rw [e]; rfl)⟩
    have e1 : d = b := by injection e with e _
    subst e1
    exact hp.1 d r rfl
theorem plain_rev_tail {b : Piece} {st : List Piece} (h : Plain (b :: st).reverse) : Plain st.reverse := by
  rw [List.reverse_cons] at h
  have key : ∀ p : Product, Plain (p ++ [b]) → Plain p := by
    intro p
    induction p with
    | nil => intro _; trivial
    | cons c r ih =>
      intro h
      refine ⟨fun d r' e => ?_, ih h.2⟩
      exact h.1 d (r' ++ [b]) (by rw [e]; rfl)
  exact key _ h
theorem pop_plain (a : Piece) : ∀ st : List Piece, Plain st.reverse → Plain (popSw a st).reverse
  | [], h => h
  | b :: st, h => by
    unfold popSw
    by_cases hs : swallows a b = true
    · rw [if_pos hs]; exact pop_plain a st (plain_rev_tail h)
    · rw [if_neg hs]; exact h
theorem pop_top (a : Piece) : ∀ {st : List Piece} {b : Piece} {r : List Piece}, popSw a st = b :: r → swallows a b = false
  | [], _, _, e => by cases e
  | c :: st, b, r, e => by
    unfold popSw at e
    by_cases hs : swallows a c = true
    · rw [if_pos hs] at e; exact pop_top a e
    · rw [if_neg hs] at e
      injection e with e1 _
      subst e1
      simpa using hs
theorem step_plain (a : Piece) (st : List Piece) (h : Plain st.reverse) : Plain (plainStep st a).reverse := by
  unfold plainStep pushP
  have hp := pop_plain a st h
  cases e : popSw a st with
  | nil => exact ⟨fun b r' e => (by cases e), trivial⟩
  | cons b r =>
    rw [e] at hp
    have ht := pop_top a e
    dsimp only
    by_cases hs : swallows b a = true
    · rw [if_pos hs]; exact hp
    · rw [if_neg hs, List.reverse_cons (a := a)]
      refine Plain.snoc hp fun d q e2 => ?_
      rw [List.reverse_cons] at e2
      have e3 : b = d := by
        have := (List.append_inj' e2 rfl).2
        injection this
      subst e3
      exact ⟨ht, by simpa using hs⟩
theorem plainP_plain (p : Product) : Plain (plainP p) := by
  have key : ∀ (p : Product) (st : List Piece), Plain st.reverse → Plain (p.foldl plainStep st).reverse := by
    intro p
    induction p with
    | nil => intro st h; exact h
    | cons a p ih => intro st h; exact ih _ (step_plain a st h)
  exact key p [] trivial

/-! ### within -/
def mayTake (a b : Piece) : Bool := swallows a b || decide (a = b)
def within : Product → Product → Bool
  | [], _ => true
  | _ :: _, [] => false
  | a :: p, b :: q => if mayTake b a then (if b.isAny then within p (b :: q) else within p q) else within (a :: p) q
termination_by p q => p.length + q.length
theorem within_nil (q : Product) : within [] q = true := by unfold within; rfl
theorem within_none (a : Piece) (p : Product) : within (a :: p) [] = false := by unfold within; rfl
theorem within_cons (a b : Piece) (p q : Product) : within (a :: p) (b :: q) = if mayTake b a then (if b.isAny then within p (b :: q) else within p q) else within (a :: p) q := by rw [within]

inductive Emb : Product → Product → Prop
  | nil {q} : Emb [] q
  | skip {p b q} : Emb p q → Emb p (b :: q)
  | one {a p b q} : mayTake b a = true → b.isAny = false → Emb p q → Emb (a :: p) (b :: q)
  | any {a p b q} : mayTake b a = true → b.isAny = true → Emb p (b :: q) → Emb (a :: p) (b :: q)
theorem Emb.drop {r q : Product} (h : Emb r q) : ∀ {a p}, r = a :: p → Emb p q := by
  induction h with
  | nil => intro a p e; cases e
  | skip _ ih => intro a p e; exact .skip (ih e)
  | one _ _ h _ => intro a p e; cases e; exact .skip h
  | any _ _ h _ => intro a p e; cases e; exact h
theorem within_iff : ∀ (n : Nat) (p q : Product), p.length + q.length ≤ n → (within p q = true ↔ Emb p q) := by
  intro n
  induction n with
  | zero =>
    intro p q h
    have hp : p = [] := List.eq_nil_of_length_eq_zero (by omega)
    subst hp
    exact ⟨fun _ => .nil, fun _ => within_nil q⟩
  | succ n ih =>
    intro p q h
    cases p with
    | nil => exact ⟨fun _ => .nil, fun _ => within_nil q⟩
    | cons a p =>
      cases q with
      | nil => rw [within_none]; exact ⟨fun e => (by cases e), fun e => (by cases e)⟩
      | cons b q =>
        have h : p.length + 1 + (q.length + 1) ≤ n + 1 := h
        rw [within_cons]
        by_cases ht : mayTake b a = true
        · rw [if_pos ht]
          by_cases ha : b.isAny = true
          · rw [if_pos ha, ih p (b :: q) (by simp only [List.length_cons]; omega)]
            refine ⟨fun e => .any ht ha e, fun e => ?_⟩
            cases e with
            | skip e => exact .skip (e.drop rfl)
            | one _ h2 _ => rw [ha] at h2; cases h2
            | any _ _ e => exact e
          · rw [if_neg ha, ih p q (by omega)]
            have ha' : b.isAny = false := by simpa using ha
            refine ⟨fun e => .one ht ha' e, fun e => ?_⟩
            cases e with
            | skip e => exact e.drop rfl
            | one _ _ e => exact e
            | any _ h2 _ => exact absurd h2 ha
        · rw [if_neg ht, ih (a :: p) q (by simp only [List.length_cons]; omega)]
          refine ⟨fun e => .skip e, fun e => ?_⟩
          cases e with
          | skip e => exact e
          | one h2 _ _ => exact absurd h2 ht
          | any h2 _ _ => exact absurd h2 ht
theorem within_emb (p q : Product) : within p q = true ↔ Emb p q := within_iff _ p q (Nat.le_refl _)

theorem mayTake_iff {a b : Piece} : mayTake a b = true ↔ swallows a b = true ∨ a = b := by
  unfold mayTake
  rw [Bool.or_eq_true, decide_eq_true_iff]
theorem mayTake_mb {a b : Piece} (h : mayTake a b = true) (ha : a.isAny = false) : a = b := by
  rcases mayTake_iff.mp h with h | h
  · obtain ⟨s, rfl, _⟩ := swallows_iff.mp h
    cases ha
  · exact h
theorem mayTake_an {a b : Piece} (h : mayTake a b = true) (ha : a.isAny = true) : swallows a b = true := by
  rcases mayTake_iff.mp h with h | h
  · exact h
  · subst h
    cases a with
    | mb c => cases ha
    | an s => exact swallows_iff.mpr ⟨s, rfl, fun c hc => hc⟩
theorem swallows_trans {a b c : Piece} (h : swallows a b = true) (k : swallows b c = true) : swallows a c = true := by
  obtain ⟨s, rfl, h1⟩ := swallows_iff.mp h
  obtain ⟨t, rfl, h2⟩ := swallows_iff.mp k
  exact swallows_iff.mpr ⟨s, rfl, fun x hx => h1 x (h2 x hx)⟩
/-- within is sound -/
theorem Emb.words {p q : Product} (h : Emb p q) : ∀ w, InP p w → InP q w := by
  induction h with
  | nil => intro w k; cases k; exact InP.empty _
  | skip _ ih => intro w k; exact .skip (ih w k)
  | @one a p b q ht hb _ ih =>
    intro w k
    have e := mayTake_mb ht hb
    subst e
    cases k with
    | skip k => exact .skip (ih _ k)
    | one k => exact .one (ih _ k)
    | more _ _ => cases hb
  | @any a p b q ht hb _ ih =>
    intro w k
    obtain ⟨s, rfl, hs⟩ := swallows_iff.mp (mayTake_an ht hb)
    obtain ⟨u, v, rfl, k1, k2⟩ := InP.split (p := [a]) (q := p) k
    have hu : ∀ c ∈ u, c ∈ s := fun c hc => hs c (inP_one k1 c hc)
    have hv := ih v k2
    clear k k1
    induction u with
    | nil => exact hv
    | cons c u ihu => exact .more (hu c List.mem_cons_self) (ihu fun x hx => hu x (List.mem_cons_of_mem _ hx))
theorem Emb.trans {q r : Product} (k : Emb q r) : ∀ {p}, Emb p q → Emb p r := by
  induction k with
  | nil => intro p h; cases h; exact .nil
  | skip _ ih => intro p h; exact .skip (ih h)
  | @one a q b r ht hb _ ih =>
    intro p h
    have e := mayTake_mb ht hb
    subst e
    cases h with
    | nil => exact .nil
    | skip h => exact .skip (ih h)
    | one h1 h2 h3 => exact .one h1 h2 (ih h3)
    | any _ h2 _ => rw [hb] at h2; cases h2
  | @any a q b r ht hb _ ih =>
    intro p h
    generalize e : a :: q = q' at h
    induction h with
    | nil => exact .nil
    | @skip p' b' q'' h _ =>
      injection e with e1 e2
      subst e2
      exact ih h
    | @one x p' b' q'' h1 h2 h3 _ =>
      injection e with e1 e2
      subst e1 e2
      have e3 := mayTake_mb h1 h2
      subst e3
      exact .any ht hb (ih h3)
    | @any x p' b' q'' h1 h2 h3 ih2 =>
      have e' := e
      injection e with e1 e2
      subst e1 e2
      exact .any (mayTake_iff.mpr (.inl (swallows_trans (mayTake_an ht hb) (mayTake_an h1 h2)))) hb (ih2 e')

/-! ### plain forms are the only ones -/
/-- the letters of an any rise -/
def Rising (p : Product) : Prop := ∀ s, Piece.an s ∈ p → s.Pairwise (· < ·)
theorem rising_eq : ∀ {s t : List Nat}, s.Pairwise (· < ·) → t.Pairwise (· < ·) → (∀ c, c ∈ s ↔ c ∈ t) → s = t
  | [], [], _, _, _ => rfl
  | [], b :: t, _, _, h => by have := (h b).mpr List.mem_cons_self; cases this
  | a :: s, [], _, _, h => by have := (h a).mp List.mem_cons_self; cases this
  | a :: s, b :: t, hs, ht, h => by
    obtain ⟨h1, h2⟩ := List.pairwise_cons.mp hs
    obtain ⟨k1, k2⟩ := List.pairwise_cons.mp ht
    have e : a = b := by
      rcases List.mem_cons.mp ((h a).mp List.mem_cons_self) with e | e
      · exact e
      · rcases List.mem_cons.mp ((h b).mpr List.mem_cons_self) with e' | e'
        · exact e'.symm
        · have := k1 a e
          have := h1 b e'
          omega
    subst e
    rw [rising_eq h2 k2 fun c => ?_]
    constructor
    · intro hc
      rcases List.mem_cons.mp ((h c).mp (List.mem_cons_of_mem _ hc)) with e | e
      · have := h1 c hc; omega
      · exact e
    · intro hc
      rcases List.mem_cons.mp ((h c).mpr (List.mem_cons_of_mem _ hc)) with e | e
      · have := k1 c hc; omega
      · exact e
theorem no_tail : ∀ {q' : Product} {f : Piece}, Plain (f :: q') → ¬ Emb (f :: q') q'
  | [], _, _, h => by cases h
  | g :: q, f, hp, h => by
    cases h with
    | skip h => exact no_tail hp.2 (h.drop rfl)
    | one _ _ h => exact no_tail hp.2 h
    | any ht hg _ =>
      have := (hp.1 g q rfl).2
      rw [mayTake_an ht hg] at this
      cases this
theorem emb_anti : ∀ (n : Nat) {p q : Product}, p.length + q.length ≤ n → Plain p → Plain q → Rising p → Rising q → Emb p q → Emb q p → p = q := by
  intro n
  induction n with
  | zero =>
    intro p q h _ _ _ _ _ _
    have hp : p = [] := List.eq_nil_of_length_eq_zero (by omega)
    have hq : q = [] := List.eq_nil_of_length_eq_zero (by omega)
    rw [hp, hq]
  | succ n ih =>
    intro p q h pp pq rp rq h1 h2
    cases p with
    | nil => cases h2; rfl
    | cons e p =>
      cases q with
      | nil => cases h1
      | cons f q =>
        have h : p.length + 1 + (q.length + 1) ≤ n + 1 := h
        have rp' : Rising p := fun s hs => rp s (List.mem_cons_of_mem _ hs)
        have rq' : Rising q := fun s hs => rq s (List.mem_cons_of_mem _ hs)
        have t1 : mayTake f e = true ∧ ((f.isAny = true ∧ Emb p (f :: q)) ∨ (f.isAny = false ∧ Emb p q)) := by
          cases h1 with
          | skip h1 => exact absurd (h1.trans h2) (no_tail pq)
          | one a b c => exact ⟨a, .inr ⟨b, c⟩⟩
          | any a b c => exact ⟨a, .inl ⟨b, c⟩⟩
        have t2 : mayTake e f = true ∧ ((e.isAny = true ∧ Emb q (e :: p)) ∨ (e.isAny = false ∧ Emb q p)) := by
          cases h2 with
          | skip h2 => exact absurd (h2.trans h1) (no_tail pp)
          | one a b c => exact ⟨a, .inr ⟨b, c⟩⟩
          | any a b c => exact ⟨a, .inl ⟨b, c⟩⟩
        obtain ⟨m1, t1⟩ := t1
        obtain ⟨m2, t2⟩ := t2
        have ef : e = f := by
          rcases mayTake_iff.mp m1 with s1 | s1
          · rcases mayTake_iff.mp m2 with s2 | s2
            · obtain ⟨s, rfl, hs⟩ := swallows_iff.mp s1
              obtain ⟨t, rfl, ht⟩ := swallows_iff.mp s2
              rw [rising_eq (rq s List.mem_cons_self) (rp t List.mem_cons_self) fun c => ⟨fun hc => ht c hc, fun hc => hs c hc⟩]
            · exact s2
          · exact s1.symm
        subst ef
        have g1 : Emb p q := by
          rcases t1 with ⟨ha, t1⟩ | ⟨_, t1⟩
          · cases p with
            | nil => exact .nil
            | cons g p =>
              cases t1 with
              | skip t => exact t
              | one _ b _ => rw [ha] at b; cases b
              | any m _ _ =>
                have := (pp.1 g p rfl).1
                rw [mayTake_an m ha] at this
                cases this
          · exact t1
        have g2 : Emb q p := by
          rcases t2 with ⟨ha, t2⟩ | ⟨_, t2⟩
          · cases q with
            | nil => exact .nil
            | cons g q =>
              cases t2 with
              | skip t => exact t
              | one _ b _ => rw [ha] at b; cases b
              | any m _ _ =>
                have := (pq.1 g q rfl).1
                rw [mayTake_an m ha] at this
                cases this
          · exact t2
        rw [ih (by omega) pp.2 pq.2 rp' rq' g1 g2]

/-! ### those that are not within another one -/
def othersOf (S : List Product) (p : Product) : List Product := S.filter fun q => decide (q ≠ p) && within p q
def keepMax (S : List Product) : List Product := S.filter fun p => (othersOf S p).isEmpty
theorem mem_others {S : List Product} {p q : Product} : q ∈ othersOf S p ↔ q ∈ S ∧ q ≠ p ∧ Emb p q := by
  unfold othersOf
  rw [List.mem_filter, Bool.and_eq_true, decide_eq_true_iff, within_emb]
theorem filter_lt {α : Type} (f g : α → Bool) (x : α) : ∀ (l : List α), (∀ y, g y = true → f y = true) → x ∈ l → f x = true → g x = false → (l.filter g).length < (l.filter f).length
  | [], _, hx, _, _ => by cases hx
  | y :: l, h, hx, hf, hg => by
    have le : ∀ l : List α, (l.filter g).length ≤ (l.filter f).length := by
      intro l
      induction l with
      | nil => exact Nat.le_refl _
      | cons z l ih =>
        rw [List.filter_cons, List.filter_cons]
        cases e : g z with
        | true => rw [h z e]; simpa using ih
        | false =>
          cases f z with
          | true => simpa using Nat.le_succ_of_le ih
          | false => simpa using ih
    rw [List.filter_cons, List.filter_cons]
    rcases List.mem_cons.mp hx with e | hx
    · subst e
      rw [hf, hg]
      simpa using Nat.lt_succ_of_le (le l)
    · have ih := filter_lt f g x l h hx hf hg
      cases e : g y with
      | true => rw [h y e]; simpa using ih
      | false =>
        cases f y with
        | true => simpa using Nat.lt_succ_of_lt ih
        | false => simpa using ih
theorem keepMax_above (S : List Product) (hp : ∀ p ∈ S, Plain p) (hr : ∀ p ∈ S, Rising p) : ∀ (n : Nat) (p : Product), p ∈ S → (othersOf S p).length ≤ n → ∃ r ∈ keepMax S, ∀ w, InP p w → InP r w := by
  intro n
  induction n with
  | zero =>
    intro p hS h
    refine ⟨p, List.mem_filter.mpr ⟨hS, ?_⟩, fun _ k => k⟩
    rw [List.eq_nil_of_length_eq_zero (Nat.le_zero.mp h)]
    rfl
  | succ n ih =>
    intro p hS h
    cases e : othersOf S p with
    | nil =>
      refine ⟨p, List.mem_filter.mpr ⟨hS, ?_⟩, fun _ k => k⟩
      rw [e]; rfl
    | cons q rest =>
      have hq : q ∈ othersOf S p := by rw [e]; exact List.mem_cons_self
      obtain ⟨q1, q2, q3⟩ := mem_others.mp hq
      have lt : (othersOf S q).length < (othersOf S p).length := by
        refine filter_lt _ _ q S (fun r hr' => ?_) q1 ?_ ?_
        · rw [Bool.and_eq_true, decide_eq_true_iff, within_emb] at hr'
          rw [Bool.and_eq_true, decide_eq_true_iff, within_emb]
          refine ⟨fun z => ?_, hr'.2.trans q3⟩
          subst z
          exact q2 (emb_anti _ (Nat.le_refl _) (hp q q1) (hp r hS) (hr q q1) (hr r hS) hr'.2 q3)
        · rw [Bool.and_eq_true, decide_eq_true_iff, within_emb]
          exact ⟨q2, q3⟩
        · simp
      obtain ⟨r, r1, r2⟩ := ih q q1 (by omega)
      exact ⟨r, r1, fun w k => r2 w (q3.words w k)⟩
theorem keepMax_words (S : List Product) (hp : ∀ p ∈ S, Plain p) (hr : ∀ p ∈ S, Rising p) (w : List Nat) : (∃ p ∈ keepMax S, InP p w) ↔ ∃ p ∈ S, InP p w := by
  constructor
  · rintro ⟨p, h, k⟩
    exact ⟨p, (List.mem_filter.mp h).1, k⟩
  · rintro ⟨p, h, k⟩
    obtain ⟨r, r1, r2⟩ := keepMax_above S hp hr _ p h (Nat.le_refl _)
    exact ⟨r, r1, r2 w k⟩
theorem plainP_rising {p : Product} (h : Rising p) : Rising (plainP p) := fun s hs => h s (plainP_mem hs)
end K55

/-! M2: grammars, the words under theirs, the knots. Plain Lean, no program in sight. -/
namespace K55

inductive Thing where
  | lt (c : Nat)
  | nm (n : Nat)
  deriving DecidableEq
abbrev Body := List Thing
abbrev Rules := List (Nat × Body)

/-- a word that a body makes -/
inductive Mk (R : Rules) : Body → List Nat → Prop
  | nil : Mk R [] []
  | lt {c b w} : Mk R b w → Mk R (.lt c :: b) (c :: w)
  | nm {n body b u w} : (n, body) ∈ R → Mk R body u → Mk R b w → Mk R (.nm n :: b) (u ++ w)
/-- a word under one that a body makes -/
def Dn (R : Rules) (b : Body) (w : List Nat) : Prop := ∃ W, Mk R b W ∧ w.Sublist W

section
variable {R : Rules}
theorem Mk.append {b1 b2 : Body} {w1 w2 : List Nat} (h : Mk R b1 w1) (k : Mk R b2 w2) : Mk R (b1 ++ b2) (w1 ++ w2) := by
  induction h with
  | nil => exact k
  | lt _ ih => exact .lt ih
  | nm hr h1 _ _ ih =>
    rw [List.append_assoc]
    exact .nm hr h1 ih
theorem Mk.split {b1 b2 : Body} {w : List Nat} (h : Mk R (b1 ++ b2) w) : ∃ u v, w = u ++ v ∧ Mk R b1 u ∧ Mk R b2 v := by
  generalize e : b1 ++ b2 = b at h
  induction h generalizing b1 with
  | nil =>
    obtain ⟨rfl, rfl⟩ := List.append_eq_nil_iff.mp e
    exact ⟨[], [], rfl, .nil, .nil⟩
  | @lt c b w h ih =>
    cases b1 with
    | nil =>
      have e : b2 = .lt c :: b := e
      subst e; exact ⟨[], c :: w, rfl, .nil, .lt h⟩
    | cons x b1 =>
      injection e with e1 e2
      obtain ⟨u, v, e3, k1, k2⟩ := ih e2
      subst e1 e3
      exact ⟨c :: u, v, rfl, .lt k1, k2⟩
  | @nm n body b u w hr h1 h2 _ ih =>
    cases b1 with
    | nil =>
      have e : b2 = .nm n :: b := e
      subst e; exact ⟨[], u ++ w, rfl, .nil, .nm hr h1 h2⟩
    | cons x b1 =>
      injection e with e1 e2
      obtain ⟨u', v, e3, k1, k2⟩ := ih e2
      subst e1 e3
      exact ⟨u ++ u', v, (List.append_assoc ..).symm, .nm hr h1 k1, k2⟩
theorem dn_append {b1 b2 : Body} {w : List Nat} : Dn R (b1 ++ b2) w ↔ ∃ u v, w = u ++ v ∧ Dn R b1 u ∧ Dn R b2 v := by
  constructor
  · rintro ⟨W, h, s⟩
    obtain ⟨U, V, rfl, h1, h2⟩ := h.split
    obtain ⟨u, v, e, s1, s2⟩ := List.sublist_append_iff.mp s
    exact ⟨u, v, e, ⟨U, h1, s1⟩, ⟨V, h2, s2⟩⟩
  · rintro ⟨u, v, rfl, ⟨U, h1, s1⟩, ⟨V, h2, s2⟩⟩
    exact ⟨U ++ V, h1.append h2, s1.append s2⟩
theorem dn_nil {w : List Nat} : Dn R [] w ↔ w = [] := by
  constructor
  · rintro ⟨W, h, s⟩
    cases h
    exact List.sublist_nil.mp s
  · rintro rfl
    exact ⟨[], .nil, List.Sublist.refl _⟩
theorem mk_lt {c : Nat} {w : List Nat} : Mk R [.lt c] w ↔ w = [c] := by
  constructor
  · intro h
    cases h with
    | lt h => cases h; rfl
  · rintro rfl; exact .lt .nil
theorem dn_lt {c : Nat} {w : List Nat} : Dn R [.lt c] w ↔ w = [] ∨ w = [c] := by
  constructor
  · rintro ⟨W, h, s⟩
    rw [mk_lt.mp h] at s
    cases s with
    | cons _ s => exact .inl (List.sublist_nil.mp s)
    | cons_cons _ s => right; rw [List.sublist_nil.mp s]
  · rintro (rfl | rfl)
    · exact ⟨[c], mk_lt.mpr rfl, List.nil_sublist _⟩
    · exact ⟨[c], mk_lt.mpr rfl, List.Sublist.refl _⟩
theorem mk_nm {n : Nat} {w : List Nat} : Mk R [.nm n] w ↔ ∃ body, (n, body) ∈ R ∧ Mk R body w := by
  constructor
  · intro h
    cases h with
    | nm hr h1 h2 =>
      cases h2
      rw [List.append_nil]
      exact ⟨_, hr, h1⟩
  · rintro ⟨body, hr, h⟩
    have := Mk.nm hr h (Mk.nil (R := R))
    rwa [List.append_nil] at this
theorem dn_nm {n : Nat} {w : List Nat} : Dn R [.nm n] w ↔ ∃ body, (n, body) ∈ R ∧ Dn R body w := by
  constructor
  · rintro ⟨W, h, s⟩
    obtain ⟨body, hr, h⟩ := mk_nm.mp h
    exact ⟨body, hr, W, h, s⟩
  · rintro ⟨body, hr, W, h, s⟩
    exact ⟨W, mk_nm.mpr ⟨body, hr, h⟩, s⟩
theorem dn_cons {t : Thing} {b : Body} {w : List Nat} : Dn R (t :: b) w ↔ ∃ u v, w = u ++ v ∧ Dn R [t] u ∧ Dn R b v := dn_append (b1 := [t])
theorem Dn.sub {b : Body} {v w : List Nat} (h : Dn R b w) (s : v.Sublist w) : Dn R b v := let ⟨W, k, z⟩ := h; ⟨W, k, s.trans z⟩
theorem Mk.mono {R' : Rules} (hs : ∀ r ∈ R, r ∈ R') {b : Body} {w : List Nat} (h : Mk R b w) : Mk R' b w := by
  induction h with
  | nil => exact .nil
  | lt _ ih => exact .lt ih
  | nm hr _ _ ih1 ih2 => exact .nm (hs _ hr) ih1 ih2

/-! ### names that make a word -/
def Prod (R : Rules) (n : Nat) : Prop := ∃ W, Mk R [.nm n] W
theorem Mk.prods {b : Body} {w : List Nat} (h : Mk R b w) : ∀ n, Thing.nm n ∈ b → Prod R n := by
  induction h with
  | nil => intro n hn; cases hn
  | lt _ ih =>
    intro n hn
    rcases List.mem_cons.mp hn with e | hn
    · cases e
    · exact ih n hn
  | @nm m body b u w hr h1 h2 _ ih =>
    intro n hn
    rcases List.mem_cons.mp hn with e | hn
    · cases e; exact ⟨u, mk_nm.mpr ⟨body, hr, h1⟩⟩
    · exact ih n hn
theorem prods_mk : ∀ {b : Body}, (∀ n, Thing.nm n ∈ b → Prod R n) → ∃ W, Mk R b W
  | [], _ => ⟨[], .nil⟩
  | .lt c :: b, h => let ⟨W, k⟩ := prods_mk (b := b) fun n hn => h n (List.mem_cons_of_mem _ hn); ⟨_, .lt k⟩
  | .nm m :: b, h => by
    obtain ⟨W, k⟩ := prods_mk (b := b) fun n hn => h n (List.mem_cons_of_mem _ hn)
    obtain ⟨U, k1⟩ := h m List.mem_cons_self
    exact ⟨U ++ W, Mk.append k1 k⟩
theorem prod_rule {n : Nat} {body : Body} (hr : (n, body) ∈ R) (h : ∀ m, Thing.nm m ∈ body → Prod R m) : Prod R n :=
  let ⟨W, k⟩ := prods_mk h; ⟨W, mk_nm.mpr ⟨body, hr, k⟩⟩
/-- what a list of names must keep so that it is just the makers -/
theorem makers_all {F : List Nat} (fix : ∀ n body, (n, body) ∈ R → (∀ m, Thing.nm m ∈ body → m ∈ F) → n ∈ F) {n : Nat} (h : Prod R n) : n ∈ F := by
  have key : ∀ {b : Body} {w : List Nat}, Mk R b w → ∀ m, Thing.nm m ∈ b → m ∈ F := by
    intro b w h
    induction h with
    | nil => intro n hn; cases hn
    | lt _ ih =>
      intro n hn
      rcases List.mem_cons.mp hn with e | hn
      · cases e
      · exact ih n hn
    | nm hr _ _ ih1 ih2 =>
      intro n hn
      rcases List.mem_cons.mp hn with e | hn
      · cases e; exact fix _ _ hr ih1
      · exact ih2 n hn
  obtain ⟨W, k⟩ := h
  exact key k n List.mem_cons_self

/-- the rules all of whose names make a word -/
def AllProd (R : Rules) : Prop := ∀ n body, (n, body) ∈ R → Prod R n ∧ ∀ m, Thing.nm m ∈ body → Prod R m
def namesOf (b : Body) : List Nat := b.filterMap fun t => match t with | .nm n => some n | .lt _ => none
theorem mem_namesOf {b : Body} {n : Nat} : n ∈ namesOf b ↔ Thing.nm n ∈ b := by
  unfold namesOf
  rw [List.mem_filterMap]
  constructor
  · rintro ⟨t, ht, e⟩
    cases t with
    | lt c => cases e
    | nm m => cases e; exact ht
  · intro h
    exact ⟨.nm n, h, rfl⟩
def goodRules (R : Rules) (F : List Nat) : Rules := R.filter fun r => decide (r.1 ∈ F) && (namesOf r.2).all fun m => decide (m ∈ F)
theorem mem_good {F : List Nat} {n : Nat} {body : Body} : (n, body) ∈ goodRules R F ↔ (n, body) ∈ R ∧ n ∈ F ∧ ∀ m, Thing.nm m ∈ body → m ∈ F := by
  unfold goodRules
  rw [List.mem_filter, Bool.and_eq_true, decide_eq_true_iff, List.all_eq_true]
  refine and_congr_right fun _ => and_congr_right fun _ => ?_
  constructor
  · intro h m hm
    exact of_decide_eq_true (h m (mem_namesOf.mpr hm))
  · intro h m hm
    exact decide_eq_true (h m (mem_namesOf.mp hm))
theorem good_mk {F : List Nat} (hF : ∀ n, n ∈ F ↔ Prod R n) {b : Body} {w : List Nat} : Mk (goodRules R F) b w ↔ Mk R b w := by
  constructor
  · exact Mk.mono fun r hr => (List.mem_filter.mp hr).1
  · intro h
    induction h with
    | nil => exact .nil
    | lt _ ih => exact .lt ih
    | @nm n body b u w hr h1 _ ih1 ih2 =>
      refine .nm (mem_good.mpr ⟨hr, (hF n).mpr ⟨u, mk_nm.mpr ⟨body, hr, h1⟩⟩, fun m hm => (hF m).mpr (h1.prods m hm)⟩) ih1 ih2
theorem good_dn {F : List Nat} (hF : ∀ n, n ∈ F ↔ Prod R n) {b : Body} {w : List Nat} : Dn (goodRules R F) b w ↔ Dn R b w := by
  unfold Dn
  constructor
  · rintro ⟨W, h, s⟩; exact ⟨W, (good_mk hF).mp h, s⟩
  · rintro ⟨W, h, s⟩; exact ⟨W, (good_mk hF).mpr h, s⟩
theorem good_all {F : List Nat} (hF : ∀ n, n ∈ F ↔ Prod R n) : AllProd (goodRules R F) := by
  intro n body hr
  obtain ⟨_, h2, h3⟩ := mem_good.mp hr
  have up : ∀ m, m ∈ F → Prod (goodRules R F) m := fun m hm => let ⟨W, k⟩ := (hF m).mp hm; ⟨W, (good_mk hF).mpr k⟩
  exact ⟨up n h2, fun m hm => up m (h3 m hm)⟩

/-! ### reaching -/
inductive Reach (R : Rules) : Nat → Nat → Prop
  | one {a b body} : (a, body) ∈ R → Thing.nm b ∈ body → Reach R a b
  | trans {a b c} : Reach R a b → Reach R b c → Reach R a c
/-- a itself, or reached -/
def Reach0 (R : Rules) (a b : Nat) : Prop := a = b ∨ Reach R a b
theorem Reach.step {a c : Nat} (h : Reach R a c) : ∃ b body, (a, body) ∈ R ∧ Thing.nm b ∈ body ∧ Reach0 R b c := by
  induction h with
  | @one a b body hr hb => exact ⟨b, body, hr, hb, .inl rfl⟩
  | @trans a b c h1 h2 ih1 _ =>
    obtain ⟨x, body, hr, hx, h⟩ := ih1
    refine ⟨x, body, hr, hx, ?_⟩
    rcases h with e | h
    · subst e; exact .inr h2
    · exact .inr (h.trans h2)
theorem Reach0.trans {a b c : Nat} (h : Reach0 R a b) (k : Reach0 R b c) : Reach0 R a c := by
  rcases h with e | h
  · subst e; exact k
  · rcases k with e | k
    · subst e; exact .inr h
    · exact .inr (h.trans k)
theorem Reach0.reach {a b c : Nat} (h : Reach0 R a b) (k : Reach R b c) : Reach R a c := by
  rcases h with e | h
  · subst e; exact k
  · exact h.trans k
theorem Reach.to0 {a b : Nat} (h : Reach R a b) : Reach0 R a b := .inr h
/-- a set that holds what is reached -/
theorem reach_in {S : Nat → Prop} {a : Nat} (h0 : ∀ body, (a, body) ∈ R → ∀ b, Thing.nm b ∈ body → S b) (hs : ∀ x, S x → ∀ body, (x, body) ∈ R → ∀ b, Thing.nm b ∈ body → S b) {c : Nat} (h : Reach R a c) : S c := by
  have key : ∀ {x y}, Reach R x y → (∀ body, (x, body) ∈ R → ∀ b, Thing.nm b ∈ body → S b) → S y := by
    intro x y h
    induction h with
    | one hr hb => intro k; exact k _ hr _ hb
    | trans _ _ ih1 ih2 => intro k; exact ih2 (hs _ (ih1 k))
  exact key h h0

/-! ### contexts: what is under a reached name's words is under the name's -/
theorem split_at {t : Thing} {b : Body} (h : t ∈ b) : ∃ p s, b = p ++ t :: s := List.append_of_mem h
theorem dn_prods {b : Body} (h : ∀ n, Thing.nm n ∈ b → Prod R n) : Dn R b [] := let ⟨W, k⟩ := prods_mk h; ⟨W, k, List.nil_sublist _⟩
theorem dn_mid {p s : Body} {t : Thing} {w : List Nat} (hp : Dn R p []) (hs : Dn R s []) (h : Dn R [t] w) : Dn R (p ++ t :: s) w :=
  dn_append.mpr ⟨[], w, rfl, hp, dn_cons.mpr ⟨w, [], (List.append_nil _).symm, h, hs⟩⟩
theorem Reach.dn (AP : AllProd R) {a b : Nat} (h : Reach R a b) : ∀ {w}, Dn R [.nm b] w → Dn R [.nm a] w := by
  induction h with
  | @one a b body hr hb =>
    intro w k
    obtain ⟨p, s, rfl⟩ := split_at hb
    have hb := (AP a _ hr).2
    refine dn_nm.mpr ⟨_, hr, dn_mid (dn_prods fun n hn => hb n ?_) (dn_prods fun n hn => hb n ?_) k⟩
    · exact List.mem_append_left _ hn
    · exact List.mem_append_right _ (List.mem_cons_of_mem _ hn)
  | trans _ _ ih1 ih2 => intro w k; exact ih1 (ih2 k)
theorem Reach0.dn (AP : AllProd R) {a b : Nat} (h : Reach0 R a b) {w : List Nat} (k : Dn R [.nm b] w) : Dn R [.nm a] w := by
  rcases h with e | h
  · subst e; exact k
  · exact h.dn AP k

/-! ### letters -/
/-- the letters that come in what things make -/
def LetterOf (R : Rules) (b : Body) (c : Nat) : Prop := Thing.lt c ∈ b ∨ ∃ a, Thing.nm a ∈ b ∧ ∃ a' body, Reach0 R a a' ∧ (a', body) ∈ R ∧ Thing.lt c ∈ body
theorem LetterOf.left {b1 b2 : Body} {c : Nat} (h : LetterOf R b1 c) : LetterOf R (b1 ++ b2) c := by
  rcases h with h | ⟨a, ha, r⟩
  · exact .inl (List.mem_append_left _ h)
  · exact .inr ⟨a, List.mem_append_left _ ha, r⟩
theorem LetterOf.right {b1 b2 : Body} {c : Nat} (h : LetterOf R b2 c) : LetterOf R (b1 ++ b2) c := by
  rcases h with h | ⟨a, ha, r⟩
  · exact .inl (List.mem_append_right _ h)
  · exact .inr ⟨a, List.mem_append_right _ ha, r⟩
theorem letterOf_append {b1 b2 : Body} {c : Nat} : LetterOf R (b1 ++ b2) c ↔ LetterOf R b1 c ∨ LetterOf R b2 c := by
  constructor
  · rintro (h | ⟨a, ha, r⟩)
    · rcases List.mem_append.mp h with h | h
      · exact .inl (.inl h)
      · exact .inr (.inl h)
    · rcases List.mem_append.mp ha with h | h
      · exact .inl (.inr ⟨a, h, r⟩)
      · exact .inr (.inr ⟨a, h, r⟩)
  · rintro (h | h)
    · exact h.left
    · exact h.right
theorem Mk.letters {b : Body} {w : List Nat} (h : Mk R b w) : ∀ c ∈ w, LetterOf R b c := by
  induction h with
  | nil => intro c hc; cases hc
  | @lt x b w _ ih =>
    intro c hc
    rcases List.mem_cons.mp hc with e | hc
    · subst e; exact .inl List.mem_cons_self
    · exact (ih c hc).right (b1 := [.lt x])
  | @nm n body b u w hr _ _ ih1 ih2 =>
    intro c hc
    rcases List.mem_append.mp hc with hc | hc
    · refine LetterOf.left (b1 := [.nm n]) (.inr ⟨n, List.mem_cons_self, ?_⟩)
      rcases ih1 c hc with h | ⟨a, ha, a', body', r, hb, hc⟩
      · exact ⟨n, body, .inl rfl, hr, h⟩
      · exact ⟨a', body', (Reach.one hr ha).to0.trans r, hb, hc⟩
    · exact (ih2 c hc).right (b1 := [.nm n])
theorem Dn.letters {b : Body} {w : List Nat} (h : Dn R b w) : ∀ c ∈ w, LetterOf R b c := fun c hc => let ⟨_, k, s⟩ := h; k.letters c (s.subset hc)
theorem LetterOf.dn (AP : AllProd R) {b : Body} (hb : ∀ n, Thing.nm n ∈ b → Prod R n) {c : Nat} (h : LetterOf R b c) : Dn R b [c] := by
  have one : ∀ {t : Thing} {b : Body}, (∀ n, Thing.nm n ∈ b → Prod R n) → t ∈ b → Dn R [t] [c] → Dn R b [c] := by
    intro t b hb ht k
    obtain ⟨p, s, rfl⟩ := split_at ht
    exact dn_mid (dn_prods fun n hn => hb n (List.mem_append_left _ hn)) (dn_prods fun n hn => hb n (List.mem_append_right _ (List.mem_cons_of_mem _ hn))) k
  rcases h with h | ⟨a, ha, a', body, r, hr, hc⟩
  · exact one hb h (dn_lt.mpr (.inr rfl))
  · refine one hb ha (r.dn AP (dn_nm.mpr ⟨body, hr, one (AP a' body hr).2 hc (dn_lt.mpr (.inr rfl))⟩))

/-! ### the knot of a name -/
/-- the names that n reaches and that reach n -/
def InKnot (R : Rules) (n m : Nat) : Prop := Reach R n m ∧ Reach R m n
/-- n itself, or of its knot -/
def Knot0 (R : Rules) (n m : Nat) : Prop := m = n ∨ InKnot R n m
theorem Knot0.to (n : Nat) {m : Nat} (h : Knot0 R n m) : Reach0 R n m := by
  rcases h with e | h
  · exact .inl e.symm
  · exact .inr h.1
theorem Knot0.back (n : Nat) {m : Nat} (h : Knot0 R n m) : Reach0 R m n := by
  rcases h with e | h
  · exact .inl e
  · exact .inr h.2
theorem InKnot.zero {n m : Nat} (h : InKnot R n m) : Knot0 R n m := .inr h

/-- two of the knot in one body: all words of the letters -/
theorem knot_many (AP : AllProd R) {n m x y : Nat} {p q s : Body} (hm : Knot0 R n m) (hr : (m, p ++ .nm x :: (q ++ .nm y :: s)) ∈ R) (hx : InKnot R n x) (hy : InKnot R n y) (w : List Nat) :
    Dn R [.nm n] w ↔ ∀ c ∈ w, LetterOf R [.nm n] c := by
  refine ⟨fun h => h.letters, ?_⟩
  have hb := (AP m _ hr).2
  have hn : Prod R n := by
    rcases hm with e | h
    · subst e; exact (AP _ _ hr).1
    · obtain ⟨b, body, h1, _, _⟩ := h.1.step
      exact (AP _ _ h1).1
  have dup : ∀ {u v : List Nat}, Dn R [.nm n] u → Dn R [.nm n] v → Dn R [.nm n] (u ++ v) := by
    intro u v h1 h2
    refine hm.to.dn AP (dn_nm.mpr ⟨_, hr, dn_append.mpr ⟨[], u ++ v, rfl, dn_prods fun k hk => hb k (List.mem_append_left _ hk), dn_cons.mpr ⟨u, v, rfl, hx.2.dn AP h1, ?_⟩⟩⟩)
    refine dn_mid (dn_prods fun k hk => hb k ?_) (dn_prods fun k hk => hb k ?_) (hy.2.dn AP h2)
    · exact List.mem_append_right _ (List.mem_cons_of_mem _ (List.mem_append_left _ hk))
    · exact List.mem_append_right _ (List.mem_cons_of_mem _ (List.mem_append_right _ (List.mem_cons_of_mem _ hk)))
  have hp : ∀ k, Thing.nm k ∈ ([.nm n] : Body) → Prod R k := fun k hk => by
    have := List.mem_singleton.mp hk
    cases this
    exact hn
  induction w with
  | nil => intro _; exact dn_prods hp
  | cons c w ih =>
    intro h
    have := dup (LetterOf.dn AP hp (h c List.mem_cons_self)) (ih fun x hx => h x (List.mem_cons_of_mem _ hx))
    simpa using this

/-- what stands ahead of and behind the knot's one name in the bodies of the knot's rules, and the bodies without one -/
structure Linear (R : Rules) (n : Nat) (ahead behind : Body) (exits : List Body) : Prop where
  each : ∀ m body, Knot0 R n m → (m, body) ∈ R →
    (body ∈ exits ∧ ∀ x, Thing.nm x ∈ body → ¬ InKnot R n x) ∨
    ∃ p x s, body = p ++ .nm x :: s ∧ InKnot R n x ∧ (∀ t ∈ p, t ∈ ahead) ∧ ∀ t ∈ s, t ∈ behind
  ahd : ∀ c, LetterOf R ahead c → ∃ m p x s, Knot0 R n m ∧ (m, p ++ .nm x :: s) ∈ R ∧ InKnot R n x ∧ LetterOf R p c
  bhd : ∀ c, LetterOf R behind c → ∃ m p x s, Knot0 R n m ∧ (m, p ++ .nm x :: s) ∈ R ∧ InKnot R n x ∧ LetterOf R s c
  ext : ∀ e ∈ exits, ∃ m, Knot0 R n m ∧ (m, e) ∈ R
theorem LetterOf.mono {b1 b2 : Body} (h : ∀ t ∈ b1, t ∈ b2) {c : Nat} (k : LetterOf R b1 c) : LetterOf R b2 c := by
  rcases k with k | ⟨a, ha, r⟩
  · exact .inl (h _ k)
  · exact .inr ⟨a, h _ ha, r⟩

/-- letters ahead, a word under an exit's, letters behind -/
def Cut (R : Rules) (ahead behind : Body) (exits : List Body) (w : List Nat) : Prop :=
  ∃ e ∈ exits, ∃ a x b, w = a ++ (x ++ b) ∧ (∀ c ∈ a, LetterOf R ahead c) ∧ Dn R e x ∧ ∀ c ∈ b, LetterOf R behind c
theorem knot_cut {n : Nat} {ahead behind : Body} {exits : List Body} (L : Linear R n ahead behind exits) {b : Body} {W : List Nat} (h : Mk R b W) :
    ∀ p x s, b = p ++ .nm x :: s → ∃ Wp Wx Ws, W = Wp ++ (Wx ++ Ws) ∧ Mk R p Wp ∧ Mk R s Ws ∧ (Knot0 R n x → ∀ w, w.Sublist Wx → Cut R ahead behind exits w) := by
  induction h with
  | nil => intro p x s e; exact absurd e (by simp)
  | @lt c b w h ih =>
    intro p x s e
    cases p with
    | nil => cases e
    | cons t p =>
      injection e with e1 e2
      subst e1
      obtain ⟨Wp, Wx, Ws, e3, k1, k2, k3⟩ := ih p x s e2
      subst e3
      exact ⟨c :: Wp, Wx, Ws, rfl, .lt k1, k2, k3⟩
  | @nm m body b u w hr h1 h2 ih1 ih2 =>
    intro p x s e
    cases p with
    | cons t p =>
      injection e with e1 e2
      subst e1
      obtain ⟨Wp, Wx, Ws, e3, k1, k2, k3⟩ := ih2 p x s e2
      subst e3
      exact ⟨u ++ Wp, Wx, Ws, (List.append_assoc ..).symm, .nm hr h1 k1, k2, k3⟩
    | nil =>
      injection e with e1 e2
      cases e1
      subst e2
      refine ⟨[], u, w, rfl, .nil, h2, fun hx v hv => ?_⟩
      rcases L.each m body hx hr with ⟨he, _⟩ | ⟨p, y, s, rfl, hy, ha, hb⟩
      · exact ⟨body, he, [], v, [], (List.append_nil _).symm, fun c hc => (by cases hc), ⟨u, h1, hv⟩, fun c hc => (by cases hc)⟩
      · obtain ⟨Wp, Wx, Ws, rfl, k1, k2, k3⟩ := ih1 p y s rfl
        obtain ⟨v1, v', rfl, s1, s2⟩ := List.sublist_append_iff.mp hv
        obtain ⟨v2, v3, rfl, s3, s4⟩ := List.sublist_append_iff.mp s2
        obtain ⟨e, he, a, z, b', rfl, c1, c2, c3⟩ := k3 hy.zero v2 s3
        refine ⟨e, he, v1 ++ a, z, b' ++ v3, by simp only [List.append_assoc], fun c hc => ?_, c2, fun c hc => ?_⟩
        · rcases List.mem_append.mp hc with hc | hc
          · exact (k1.letters c (s1.subset hc)).mono ha
          · exact c1 c hc
        · rcases List.mem_append.mp hc with hc | hc
          · exact c3 c hc
          · exact (k2.letters c (s4.subset hc)).mono hb
theorem knot_one (AP : AllProd R) {n : Nat} {ahead behind : Body} {exits : List Body} (L : Linear R n ahead behind exits) (w : List Nat) : Dn R [.nm n] w ↔ Cut R ahead behind exits w := by
  constructor
  · rintro ⟨W, h, s⟩
    obtain ⟨Wp, Wx, Ws, rfl, k1, k2, k3⟩ := knot_cut L h [] n [] rfl
    cases k1
    cases k2
    rw [List.nil_append, List.append_nil] at s
    exact k3 (.inl rfl) w s
  · rintro ⟨e, he, a, x, b, rfl, ha, hx, hb⟩
    obtain ⟨m, hm, hr⟩ := L.ext e he
    have h0 : Dn R [.nm n] x := hm.to.dn AP (dn_nm.mpr ⟨e, hr, hx⟩)
    have parts : ∀ {m p x s}, (m, p ++ Thing.nm x :: s) ∈ R → (∀ k, Thing.nm k ∈ p → Prod R k) ∧ ∀ k, Thing.nm k ∈ s → Prod R k := by
      intro m p x s hr
      have hb := (AP m _ hr).2
      exact ⟨fun k hk => hb k (List.mem_append_left _ hk), fun k hk => hb k (List.mem_append_right _ (List.mem_cons_of_mem _ hk))⟩
    have left : ∀ {c v}, LetterOf R ahead c → Dn R [.nm n] v → Dn R [.nm n] (c :: v) := by
      intro c v hc hv
      obtain ⟨m, p, y, s, hm, hr, hy, hc⟩ := L.ahd c hc
      obtain ⟨q1, q2⟩ := parts hr
      refine hm.to.dn AP (dn_nm.mpr ⟨_, hr, dn_append.mpr ⟨[c], v, rfl, hc.dn AP q1, dn_cons.mpr ⟨v, [], (List.append_nil _).symm, hy.2.dn AP hv, dn_prods q2⟩⟩⟩)
    have right : ∀ {c v}, LetterOf R behind c → Dn R [.nm n] v → Dn R [.nm n] (v ++ [c]) := by
      intro c v hc hv
      obtain ⟨m, p, y, s, hm, hr, hy, hc⟩ := L.bhd c hc
      obtain ⟨q1, q2⟩ := parts hr
      refine hm.to.dn AP (dn_nm.mpr ⟨_, hr, dn_append.mpr ⟨[], v ++ [c], rfl, dn_prods q1, dn_cons.mpr ⟨v, [c], rfl, hy.2.dn AP hv, hc.dn AP q2⟩⟩⟩)
    have hr' : ∀ (b v : List Nat), (∀ c ∈ b, LetterOf R behind c) → Dn R [.nm n] v → Dn R [.nm n] (v ++ b) := by
      intro b
      induction b with
      | nil => intro v _ h; rw [List.append_nil]; exact h
      | cons c b ih =>
        intro v hb h
        have := ih (v ++ [c]) (fun x hx => hb x (List.mem_cons_of_mem _ hx)) (right (hb c List.mem_cons_self) h)
        rw [List.append_assoc] at this
        exact this
    have h1 := hr' b x hb h0
    clear hr'
    induction a with
    | nil => exact h1
    | cons c a ih => exact left (ha c List.mem_cons_self) (ih fun x hx => ha x (List.mem_cons_of_mem _ hx))
end
end K55

/-! M3: trees, the table of least trees, its bound and its fixpoint. Plain Lean, no program in sight. -/
namespace K55

inductive Tree where
  | nd (r : Nat) (ks : List Tree)
mutual
def Tree.size : Tree → Nat
  | .nd _ ks => 1 + sizes ks
def sizes : List Tree → Nat
  | [] => 0
  | t :: ts => t.size + sizes ts
end
mutual
def Tree.depth : Tree → Nat
  | .nd _ ks => 1 + depths ks
def depths : List Tree → Nat
  | [] => 0
  | t :: ts => max t.depth (depths ts)
end
theorem size_nd (r : Nat) (ks : List Tree) : (Tree.nd r ks).size = 1 + sizes ks := by rw [Tree.size]
theorem depth_nd (r : Nat) (ks : List Tree) : (Tree.nd r ks).depth = 1 + depths ks := by rw [Tree.depth]
theorem sizes_nil : sizes [] = 0 := by rw [sizes]
theorem sizes_cons (t : Tree) (ts : List Tree) : sizes (t :: ts) = t.size + sizes ts := by rw [sizes]
theorem depths_nil : depths [] = 0 := by rw [depths]
theorem depths_cons (t : Tree) (ts : List Tree) : depths (t :: ts) = max t.depth (depths ts) := by rw [depths]
theorem size_pos (t : Tree) : 1 ≤ t.size := by cases t; rw [size_nd]; omega
theorem sizes_append : ∀ (a b : List Tree), sizes (a ++ b) = sizes a + sizes b
  | [], b => by rw [List.nil_append, sizes_nil, Nat.zero_add]
  | t :: a, b => by rw [List.cons_append, sizes_cons, sizes_cons, sizes_append a b, Nat.add_assoc]

/-- a body's word, its kids' words in the places of names -/
def build : Body → List (List Nat) → List Nat
  | [], _ => []
  | .lt c :: b, ws => c :: build b ws
  | .nm _ :: b, w :: ws => w ++ build b ws
  | .nm _ :: b, [] => build b []
def bodyAt (R : Rules) (r : Nat) : Body := match R[r]? with
  | some (_, b) => b
  | none => []
mutual
def wordOf (R : Rules) : Tree → List Nat
  | .nd r ks => build (bodyAt R r) (wordsOf R ks)
def wordsOf (R : Rules) : List Tree → List (List Nat)
  | [] => []
  | t :: ts => wordOf R t :: wordsOf R ts
end
theorem wordOf_nd (R : Rules) (r : Nat) (ks : List Tree) : wordOf R (.nd r ks) = build (bodyAt R r) (wordsOf R ks) := by rw [wordOf]
theorem wordsOf_nil (R : Rules) : wordsOf R [] = [] := by rw [wordsOf]
theorem wordsOf_cons (R : Rules) (t : Tree) (ts : List Tree) : wordsOf R (t :: ts) = wordOf R t :: wordsOf R ts := by rw [wordsOf]
theorem wordsOf_length (R : Rules) : ∀ ts, (wordsOf R ts).length = ts.length
  | [] => by rw [wordsOf_nil]; rfl
  | t :: ts => by rw [wordsOf_cons, List.length_cons, List.length_cons, wordsOf_length R ts]
mutual
inductive IsTree (R : Rules) : Nat → Tree → Prop
  | nd {n r body ks} : R[r]? = some (n, body) → AreTrees R (namesOf body) ks → IsTree R n (.nd r ks)
inductive AreTrees (R : Rules) : List Nat → List Tree → Prop
  | nil : AreTrees R [] []
  | cons {n t ns ts} : IsTree R n t → AreTrees R ns ts → AreTrees R (n :: ns) (t :: ts)
end
theorem AreTrees.length {R : Rules} : ∀ {ts : List Tree} {ns : List Nat}, AreTrees R ns ts → ns.length = ts.length
  | [], _, h => by cases h; rfl
  | t :: ts, _, h => by
    cases h with
    | cons _ h => rw [List.length_cons, List.length_cons, AreTrees.length h]
theorem AreTrees.get {R : Rules} : ∀ {ts : List Tree} {ns : List Nat} {i : Nat} {n : Nat} {t : Tree}, AreTrees R ns ts → ns[i]? = some n → ts[i]? = some t → IsTree R n t
  | [], _, _, _, _, h, h1, h2 => by simp at h2
  | t :: ts, _, 0, _, _, h, h1, h2 => by
    cases h with
    | cons h _ =>
      simp at h1 h2
      subst h1 h2
      exact h
  | t :: ts, _, i + 1, _, _, h, h1, h2 => by
    cases h with
    | cons _ h => exact AreTrees.get h (by simpa using h1) (by simpa using h2)
/-- a tree's word is one of the name's -/
theorem trees_mk {R : Rules} : ∀ (N : Nat), (∀ t n, t.size ≤ N → IsTree R n t → Mk R [.nm n] (wordOf R t)) ∧ ∀ b ts, sizes ts ≤ N → AreTrees R (namesOf b) ts → (∀ t n, t.size ≤ N → IsTree R n t → Mk R [.nm n] (wordOf R t)) → Mk R b (build b (wordsOf R ts)) := by
  have body : ∀ N, (∀ t n, t.size ≤ N → IsTree R n t → Mk R [.nm n] (wordOf R t)) → ∀ b ts, sizes ts ≤ N → AreTrees R (namesOf b) ts → Mk R b (build b (wordsOf R ts)) := by
    intro N hN b
    induction b with
    | nil => intro ts _ _; exact .nil
    | cons x b ih =>
      intro ts hs h
      cases x with
      | lt c => exact .lt (ih ts hs h)
      | nm n =>
        have h' : AreTrees R (n :: namesOf b) ts := h
        cases h' with
        | @cons _ t _ ts h1 h2 =>
          rw [sizes_cons] at hs
          rw [wordsOf_cons]
          exact Mk.append (b1 := [.nm n]) (hN t n (by omega) h1) (ih ts (by omega) h2)
  intro N
  induction N with
  | zero => exact ⟨fun t n h _ => absurd (size_pos t) (by omega), fun b ts hs h k => body 0 k b ts hs h⟩
  | succ N ih =>
    refine ⟨fun t n h k => ?_, fun b ts hs h k => body _ k b ts hs h⟩
    cases k with
    | @nd _ r b ks hr hk =>
      rw [size_nd] at h
      rw [wordOf_nd]
      have e : bodyAt R r = b := by unfold bodyAt; rw [hr]
      rw [e]
      exact mk_nm.mpr ⟨b, List.mem_of_getElem? hr, ih.2 b ks (by omega) hk ih.1⟩
theorem tree_mk {R : Rules} {n : Nat} {t : Tree} (h : IsTree R n t) : Mk R [.nm n] (wordOf R t) := (trees_mk t.size).1 t n (Nat.le_refl _) h

/-! ### how long a tree's word is -/
theorem build_len : ∀ (b : Body) (ws : List (List Nat)), (build b ws).length ≤ b.length + (ws.map List.length).sum
  | [], _ => Nat.zero_le _
  | .lt c :: b, ws => by
    have := build_len b ws
    simp only [build, List.length_cons]
    omega
  | .nm _ :: b, w :: ws => by
    have := build_len b ws
    simp only [build, List.length_cons, List.length_append, List.map_cons, List.sum_cons]
    omega
  | .nm _ :: b, [] => by
    have := build_len b []
    simp only [build, List.length_cons]
    omega
theorem word_len {R : Rules} {B : Nat} (hB : ∀ r, (bodyAt R r).length ≤ B) : ∀ N, (∀ t, t.size ≤ N → (wordOf R t).length ≤ B * t.size) ∧ ∀ ts, sizes ts ≤ N → ((wordsOf R ts).map List.length).sum ≤ B * sizes ts := by
  have key : ∀ N, (∀ t, t.size ≤ N → (wordOf R t).length ≤ B * t.size) → ∀ ts, sizes ts ≤ N → ((wordsOf R ts).map List.length).sum ≤ B * sizes ts := by
    intro N hN ts
    induction ts with
    | nil => intro _; rw [wordsOf_nil, sizes_nil]; exact Nat.le_refl _
    | cons t ts ih =>
      intro h
      rw [sizes_cons] at h
      rw [wordsOf_cons, sizes_cons, List.map_cons, List.sum_cons, Nat.mul_add]
      exact Nat.add_le_add (hN t (by omega)) (ih (by omega))
  intro N
  induction N with
  | zero => exact ⟨fun t h => absurd (size_pos t) (by omega), key 0 fun t h => absurd (size_pos t) (by omega)⟩
  | succ N ih =>
    have h1 : ∀ t : Tree, t.size ≤ N + 1 → (wordOf R t).length ≤ B * t.size := by
      intro t h
      cases t with
      | nd r ks =>
        rw [size_nd] at h ⊢
        rw [wordOf_nd, Nat.mul_add, Nat.mul_one]
        exact Nat.le_trans (build_len _ _) (Nat.add_le_add (hB r) (ih.2 ks (by omega)))
    exact ⟨h1, key _ h1⟩

/-! ### the table of trees -/
abbrev Tab := Nat → Nat → Nat → Option Tree
def Tab.put (T : Tab) (n p q : Nat) (t : Tree) : Tab := fun n' p' q' => if n' = n ∧ p' = p ∧ q' = q then some t else T n' p' q'
theorem Tab.put_same (T : Tab) (n p q : Nat) (t : Tree) : T.put n p q t n p q = some t := by unfold Tab.put; rw [if_pos ⟨rfl, rfl, rfl⟩]
theorem Tab.put_ne (T : Tab) {n p q n' p' q' : Nat} (t : Tree) (h : ¬ (n' = n ∧ p' = p ∧ q' = q)) : T.put n p q t n' p' q' = T n' p' q' := by unfold Tab.put; rw [if_neg h]
/-- more keys, trees no larger -/
def Tab.le (T T' : Tab) : Prop := ∀ n p q t, T n p q = some t → ∃ t', T' n p q = some t' ∧ t'.size ≤ t.size
theorem Tab.le_refl (T : Tab) : T.le T := fun _ _ _ t h => ⟨t, h, Nat.le_refl _⟩
theorem Tab.le_trans {T T' T'' : Tab} (h : T.le T') (k : T'.le T'') : T.le T'' := fun n p q t e =>
  let ⟨t1, e1, s1⟩ := h n p q t e
  let ⟨t2, e2, s2⟩ := k n p q t1 e1
  ⟨t2, e2, Nat.le_trans s2 s1⟩

mutual
/-- a tree, its key, the keys of all that stands in it; none comes again below itself -/
inductive Gho (T : Tab) : Tree → Nat → Nat → Nat → List (Nat × Nat × Nat) → Prop
  | nd {r ks n p q keys} : n < 3 → ks.length ≤ 2 → GhoL T ks p q keys → (n, p, q) ∉ keys → (∃ t', T n p q = some t' ∧ t'.size ≤ (Tree.nd r ks).size) → Gho T (.nd r ks) n p q ((n, p, q) :: keys)
inductive GhoL (T : Tab) : List Tree → Nat → Nat → List (Nat × Nat × Nat) → Prop
  | nil {p q} : p ≤ q → GhoL T [] p q []
  | cons {t ts n p p' q' q k1 k2} : p ≤ p' → p' ≤ q' → q' ≤ q → Gho T t n p' q' k1 → GhoL T ts q' q k2 → GhoL T (t :: ts) p q (k1 ++ k2)
end
theorem gho_mono {T T' : Tab} (hT : T.le T') : ∀ N, (∀ t n p q keys, t.size ≤ N → Gho T t n p q keys → Gho T' t n p q keys) ∧ ∀ ts p q keys, sizes ts ≤ N → GhoL T ts p q keys → GhoL T' ts p q keys := by
  have key : ∀ N, (∀ t n p q keys, t.size ≤ N → Gho T t n p q keys → Gho T' t n p q keys) → ∀ ts p q keys, sizes ts ≤ N → GhoL T ts p q keys → GhoL T' ts p q keys := by
    intro N hN ts
    induction ts with
    | nil => intro p q keys _ h; cases h with | nil h => exact .nil h
    | cons t ts ih =>
      intro p q keys hs h
      rw [sizes_cons] at hs
      cases h with
      | cons h1 h2 h3 h4 h5 => exact .cons h1 h2 h3 (hN _ _ _ _ _ (by omega) h4) (ih _ _ _ (by omega) h5)
  intro N
  induction N with
  | zero => exact ⟨fun t _ _ _ _ h => absurd (size_pos t) (by omega), key 0 fun t _ _ _ _ h => absurd (size_pos t) (by omega)⟩
  | succ N ih =>
    have h1 : ∀ t n p q keys, t.size ≤ N + 1 → Gho T t n p q keys → Gho T' t n p q keys := by
      intro t n p q keys hs h
      cases h with
      | @nd r ks _ _ _ keys a b c d e =>
        rw [size_nd] at hs
        obtain ⟨t', e1, e2⟩ := e
        obtain ⟨t2, e3, e4⟩ := hT _ _ _ _ e1
        exact .nd a b (ih.2 _ _ _ _ (by omega) c) d ⟨t2, e3, Nat.le_trans e4 e2⟩
    exact ⟨h1, key _ h1⟩
theorem Gho.mono {T T' : Tab} (hT : T.le T') {t n p q keys} (h : Gho T t n p q keys) : Gho T' t n p q keys := (gho_mono hT _).1 t n p q keys (Nat.le_refl _) h
theorem GhoL.mono {T T' : Tab} (hT : T.le T') {ts p q keys} (h : GhoL T ts p q keys) : GhoL T' ts p q keys := (gho_mono hT _).2 ts p q keys (Nat.le_refl _) h
/-- each key in a tree has a tree in the table that is no larger -/
theorem gho_dom {T : Tab} : ∀ N, (∀ t n p q keys, t.size ≤ N → Gho T t n p q keys → ∀ k ∈ keys, ∃ t', T k.1 k.2.1 k.2.2 = some t' ∧ t'.size ≤ t.size) ∧
    ∀ ts p q keys, sizes ts ≤ N → GhoL T ts p q keys → ∀ k ∈ keys, ∃ t', T k.1 k.2.1 k.2.2 = some t' ∧ t'.size ≤ sizes ts := by
  have key : ∀ N, (∀ t n p q keys, t.size ≤ N → Gho T t n p q keys → ∀ k ∈ keys, ∃ t', T k.1 k.2.1 k.2.2 = some t' ∧ t'.size ≤ t.size) →
      ∀ ts p q keys, sizes ts ≤ N → GhoL T ts p q keys → ∀ k ∈ keys, ∃ t', T k.1 k.2.1 k.2.2 = some t' ∧ t'.size ≤ sizes ts := by
    intro N hN ts
    induction ts with
    | nil => intro p q keys _ h k hk; cases h; cases hk
    | cons t ts ih =>
      intro p q keys hs h k hk
      rw [sizes_cons] at hs ⊢
      cases h with
      | cons h1 h2 h3 h4 h5 =>
        rcases List.mem_append.mp hk with hk | hk
        · obtain ⟨t', e1, e2⟩ := hN _ _ _ _ _ (by omega) h4 k hk
          exact ⟨t', e1, by omega⟩
        · obtain ⟨t', e1, e2⟩ := ih _ _ _ (by omega) h5 k hk
          exact ⟨t', e1, by omega⟩
  intro N
  induction N with
  | zero => exact ⟨fun t _ _ _ _ h => absurd (size_pos t) (by omega), key 0 fun t _ _ _ _ h => absurd (size_pos t) (by omega)⟩
  | succ N ih =>
    have h1 : ∀ t n p q keys, t.size ≤ N + 1 → Gho T t n p q keys → ∀ k ∈ keys, ∃ t', T k.1 k.2.1 k.2.2 = some t' ∧ t'.size ≤ t.size := by
      intro t n p q keys hs h k hk
      cases h with
      | @nd r ks _ _ _ keys a b c d e =>
        rcases List.mem_cons.mp hk with e1 | hk
        · subst e1; exact e
        · rw [size_nd] at hs ⊢
          obtain ⟨t', e1, e2⟩ := ih.2 _ _ _ _ (by omega) c k hk
          exact ⟨t', e1, by omega⟩
    exact ⟨h1, key _ h1⟩
theorem GhoL.dom {T : Tab} {ts p q keys} (h : GhoL T ts p q keys) {n' p' q' : Nat} (hk : (n', p', q') ∈ keys) : ∃ t', T n' p' q' = some t' ∧ t'.size ≤ sizes ts := (gho_dom _).2 ts p q keys (Nat.le_refl _) h _ hk
theorem GhoL.append {T : Tab} : ∀ {ts p m keys}, GhoL T ts p m keys → ∀ {us q keys2}, GhoL T us m q keys2 → m ≤ q → ∃ k, GhoL T (ts ++ us) p q k := by
  intro ts
  induction ts with
  | nil =>
    intro p m keys h us q keys2 h2 hm
    cases h with
    | nil h =>
      cases h2 with
      | nil h' => exact ⟨_, .nil (by omega)⟩
      | cons h1 h2 h3 h4 h5 => exact ⟨_, .cons (Nat.le_trans h h1) h2 h3 h4 h5⟩
  | cons t ts ih =>
    intro p m keys h us q keys2 hu hm
    cases h with
    | cons h1 h2 h3 h4 h5 =>
      obtain ⟨k, hk⟩ := ih h5 hu hm
      exact ⟨_, .cons h1 h2 (by omega) h4 hk⟩

/-! ### the bound: at most 271 rules, 21 deep, for six letters -/
def cnt (keys : List (Nat × Nat × Nat)) (p q : Nat) : Nat := ((List.range 3).filter fun m => decide ((m, p, q) ∈ keys)).length
theorem cnt_le (keys : List (Nat × Nat × Nat)) (p q : Nat) : cnt keys p q ≤ 3 := by
  have := List.length_filter_le (fun m => decide ((m, p, q) ∈ keys)) (List.range 3)
  rw [List.length_range] at this
  exact this
theorem cnt_mono {k1 k2 : List (Nat × Nat × Nat)} (h : ∀ x ∈ k1, x ∈ k2) (p q : Nat) : cnt k1 p q ≤ cnt k2 p q := by
  unfold cnt
  have : ∀ l : List Nat, (l.filter fun m => decide ((m, p, q) ∈ k1)).length ≤ (l.filter fun m => decide ((m, p, q) ∈ k2)).length := by
    intro l
    induction l with
    | nil => exact Nat.le_refl _
    | cons a l ih =>
      rw [List.filter_cons, List.filter_cons]
      by_cases c : (a, p, q) ∈ k1
      · rw [if_pos (decide_eq_true c), if_pos (decide_eq_true (h _ c))]
        exact Nat.succ_le_succ ih
      · rw [if_neg (by simpa using c)]
        split
        · exact Nat.le_succ_of_le ih
        · exact ih
  exact this _
/-- a further name at the same places -/
theorem cnt_more {k1 : List (Nat × Nat × Nat)} {n p q : Nat} (hn : n < 3) (h : (n, p, q) ∉ k1) : cnt k1 p q + 1 ≤ cnt ((n, p, q) :: k1) p q := by
  unfold cnt
  exact filter_lt _ _ n (List.range 3) (fun y hy => decide_eq_true (List.mem_cons_of_mem _ (of_decide_eq_true hy))) (List.mem_range.mpr hn) (decide_eq_true List.mem_cons_self) (decide_eq_false h)

/-- the bound's two sides at l letters and c names -/
def Bd (l c s d : Nat) : Prop := (l = 0 → s + 1 ≤ 2 ^ c) ∧ (1 ≤ l → s + 41 ≤ 8 * c + 48 * l) ∧ d ≤ 3 * l + c
theorem pow_bound {c : Nat} (h : c ≤ 3) : 2 ^ c ≤ 8 := by
  have : c = 0 ∨ c = 1 ∨ c = 2 ∨ c = 3 := by omega
  rcases this with e | e | e | e <;> subst e <;> decide
theorem Bd.top {l c s d : Nat} (h : Bd l c s d) (hc : c ≤ 3) : (l = 0 → s ≤ 7) ∧ (1 ≤ l → s + 17 ≤ 48 * l) ∧ d ≤ 3 * l + 3 := by
  obtain ⟨h1, h2, h3⟩ := h
  have := pow_bound hc
  exact ⟨fun e => by have := h1 e; omega, fun e => by have := h2 e; omega, by omega⟩
theorem bd_none {l c : Nat} (hc : 1 ≤ c) : Bd l c 1 1 := by
  refine ⟨fun e => ?_, fun h => by omega, by omega⟩
  have : 2 ^ 1 ≤ 2 ^ c := Nat.pow_le_pow_right (by decide) hc
  omega
/-- one kid -/
theorem bd_one {l c l1 c1 s1 d1 : Nat} (hc : 1 ≤ c) (h1 : l1 ≤ l) (b1 : Bd l1 c1 s1 d1) (hc1 : c1 ≤ 3) (same : l1 = l → c1 + 1 ≤ c) : Bd l c (1 + s1) (1 + d1) := by
  obtain ⟨t1, t2, t3⟩ := b1.top hc1
  obtain ⟨a1, a2, a3⟩ := b1
  refine ⟨fun e => ?_, fun h => ?_, ?_⟩
  · have e1 : l1 = 0 := by omega
    have := a1 e1
    have h2 : 2 ^ (c1 + 1) ≤ 2 ^ c := Nat.pow_le_pow_right (by decide) (same (by omega))
    rw [Nat.pow_succ] at h2
    have : 1 ≤ 2 ^ c1 := Nat.one_le_two_pow
    omega
  · by_cases e : l1 = l
    · have := same e
      have := a2 (by omega)
      omega
    · by_cases e0 : l1 = 0
      · have := t1 e0; omega
      · have := t2 (by omega); omega
  · by_cases e : l1 = l
    · have := same e; omega
    · omega
theorem bd_two {l c l1 c1 s1 d1 l2 c2 s2 d2 : Nat} (hc : 1 ≤ c) (hl : l1 + l2 ≤ l) (b1 : Bd l1 c1 s1 d1) (hc1 : c1 ≤ 3) (same1 : l1 = l → c1 + 1 ≤ c) (b2 : Bd l2 c2 s2 d2) (hc2 : c2 ≤ 3) (same2 : l2 = l → c2 + 1 ≤ c) :
    Bd l c (1 + (s1 + s2)) (1 + max d1 d2) := by
  obtain ⟨t1, t2, t3⟩ := b1.top hc1
  obtain ⟨a1, a2, a3⟩ := b1
  obtain ⟨u1, u2, u3⟩ := b2.top hc2
  obtain ⟨z1, z2, z3⟩ := b2
  refine ⟨fun e => ?_, fun h => ?_, ?_⟩
  · have e1 : l1 = 0 := by omega
    have e2 : l2 = 0 := by omega
    have q1 := a1 e1
    have q2 := z1 e2
    have m1 : 2 ^ c1 ≤ 2 ^ (c - 1) := Nat.pow_le_pow_right (by decide) (by have := same1 (by omega); omega)
    have m2 : 2 ^ c2 ≤ 2 ^ (c - 1) := Nat.pow_le_pow_right (by decide) (by have := same2 (by omega); omega)
    have h2 : 2 ^ c = 2 ^ (c - 1) * 2 := by rw [← Nat.pow_succ]; congr 1; omega
    omega
  · by_cases e1 : l1 = l
    · have := same1 e1
      have := a2 (by omega)
      have := u1 (by omega)
      omega
    · by_cases e2 : l2 = l
      · have := same2 e2
        have := z2 (by omega)
        have := t1 (by omega)
        omega
      · by_cases f1 : l1 = 0
        · have := t1 f1
          by_cases f2 : l2 = 0
          · have := u1 f2; omega
          · have := u2 (by omega); omega
        · have := t2 (by omega)
          by_cases f2 : l2 = 0
          · have := u1 f2; omega
          · have := u2 (by omega); omega
  · by_cases e1 : l1 = l
    · have := same1 e1
      by_cases e2 : l2 = l
      · have := same2 e2; omega
      · omega
    · by_cases e2 : l2 = l
      · have := same2 e2; omega
      · omega
theorem gho_bound {T : Tab} : ∀ N (t : Tree) (n p q : Nat) keys, t.size ≤ N → p ≤ q → Gho T t n p q keys → Bd (q - p) (cnt keys p q) t.size t.depth := by
  intro N
  induction N with
  | zero => intro t _ _ _ _ h; exact absurd (size_pos t) (by omega)
  | succ N ih =>
    intro t n p q keys hs hpq h
    cases h with
    | @nd r ks _ _ _ keys hn h2 h3 h4 _ =>
      rw [size_nd] at hs ⊢
      rw [depth_nd]
      have more := cnt_more (k1 := keys) hn h4
      have c1 : 1 ≤ cnt ((n, p, q) :: keys) p q := by omega
      cases h3 with
      | nil _ => rw [sizes_nil, depths_nil]; exact bd_none c1
      | @cons ta ts na _ pa qa _ ka k2 g1 g2 g3 ga h3 =>
        rw [sizes_cons] at hs ⊢
        rw [depths_cons]
        have ba := ih ta na pa qa ka (by omega) g2 ga
        have sa : qa - pa = q - p → cnt ka pa qa + 1 ≤ cnt ((n, p, q) :: (ka ++ k2)) p q := by
          intro e
          have ep : pa = p := by omega
          have eq : qa = q := by omega
          subst ep eq
          exact Nat.le_trans (Nat.succ_le_succ (cnt_mono (fun x hx => List.mem_append_left _ hx) _ _)) more
        cases h3 with
        | nil _ =>
          rw [sizes_nil, depths_nil, Nat.add_zero, Nat.max_zero]
          exact bd_one c1 (by omega) ba (cnt_le _ _ _) sa
        | @cons tb ts nb _ pb qb _ kb k3 g4 g5 g6 gb h3 =>
          cases h3 with
          | cons _ _ _ _ _ =>
            simp only [List.length_cons] at h2
            omega
          | nil _ =>
            rw [sizes_cons, sizes_nil, Nat.add_zero] at hs ⊢
            rw [depths_cons, depths_nil, Nat.max_zero]
            have bb := ih tb nb pb qb kb (by omega) g5 gb
            have sb : qb - pb = q - p → cnt kb pb qb + 1 ≤ cnt ((n, p, q) :: (ka ++ (kb ++ []))) p q := by
              intro e
              have ep : pb = p := by omega
              have eq : qb = q := by omega
              subst ep eq
              exact Nat.le_trans (Nat.succ_le_succ (cnt_mono (fun x hx => List.mem_append_right _ (List.mem_append_left _ hx)) _ _)) more
            exact bd_two c1 (by omega) ba (cnt_le _ _ _) sa bb (cnt_le _ _ _) sb
theorem Gho.bound {T : Tab} {t n p q keys} (h : Gho T t n p q keys) (hpq : p ≤ q) (hq : q ≤ 6) : t.size ≤ 271 ∧ t.depth ≤ 21 := by
  have b := gho_bound _ t n p q keys (Nat.le_refl _) hpq h
  obtain ⟨h1, h2, h3⟩ := b.top (cnt_le _ _ _)
  refine ⟨?_, by omega⟩
  by_cases e : q - p = 0
  · have := h1 e; omega
  · have := h2 (by omega); omega

/-! ### reading a body -/
def seg (w : List Nat) (p q : Nat) : List Nat := (w.drop p).take (q - p)
inductive Rd (w : List Nat) (T : Tab) : Body → Nat → Nat → List Tree → Prop
  | nil {p} : p ≤ w.length → Rd w T [] p p []
  | skip {c b p q ks} : Rd w T b p q ks → Rd w T (.lt c :: b) p q ks
  | take {c b p q ks} : w[p]? = some c → Rd w T b (p + 1) q ks → Rd w T (.lt c :: b) p q ks
  | name {n b p m q t ks} : T n p m = some t → p ≤ m → Rd w T b m q ks → Rd w T (.nm n :: b) p q (t :: ks)
section
variable {w : List Nat} {T : Tab} {R : Rules}
theorem Rd.le {b : Body} {p q : Nat} {ks : List Tree} (h : Rd w T b p q ks) : p ≤ q ∧ q ≤ w.length := by
  induction h with
  | nil h => exact ⟨Nat.le_refl _, h⟩
  | skip _ ih => exact ih
  | take _ _ ih => exact ⟨by omega, ih.2⟩
  | name _ h _ ih => exact ⟨by omega, ih.2⟩
theorem Rd.append {b1 b2 : Body} {p m q : Nat} {k1 k2 : List Tree} (h : Rd w T b1 p m k1) (k : Rd w T b2 m q k2) : Rd w T (b1 ++ b2) p q (k1 ++ k2) := by
  induction h with
  | nil _ => exact k
  | skip _ ih => exact .skip (ih k)
  | take h _ ih => exact .take h (ih k)
  | name h1 h2 _ ih => exact .name h1 h2 (ih k)
theorem Rd.split : ∀ {b1 b2 : Body} {p q : Nat} {ks : List Tree}, Rd w T (b1 ++ b2) p q ks → ∃ m k1 k2, ks = k1 ++ k2 ∧ Rd w T b1 p m k1 ∧ Rd w T b2 m q k2
  | [], b2, p, q, ks, h => ⟨p, [], ks, rfl, .nil (by have := h.le; omega), h⟩
  | .lt c :: b1, b2, p, q, ks, h => by
    cases h with
    | skip h =>
      obtain ⟨m, k1, k2, e, h1, h2⟩ := Rd.split h
      exact ⟨m, k1, k2, e, .skip h1, h2⟩
    | take h0 h =>
      obtain ⟨m, k1, k2, e, h1, h2⟩ := Rd.split h
      exact ⟨m, k1, k2, e, .take h0 h1, h2⟩
  | .nm n :: b1, b2, p, q, ks, h => by
    cases h with
    | @name _ _ _ _ _ t _ h0 h00 h =>
      obtain ⟨m, k1, k2, e, h1, h2⟩ := Rd.split h
      exact ⟨m, t :: k1, k2, by rw [e]; rfl, .name h0 h00 h1, h2⟩
theorem seg_nil (w : List Nat) (p : Nat) : seg w p p = [] := by unfold seg; rw [Nat.sub_self]; rfl
theorem seg_cut {w : List Nat} {p m q : Nat} (h1 : p ≤ m) (h2 : m ≤ q) : seg w p q = seg w p m ++ seg w m q := by
  unfold seg
  have e : q - p = (m - p) + (q - m) := by omega
  rw [e, List.take_add, List.drop_drop]
  congr 3
  omega
theorem seg_cons {w : List Nat} {p q c : Nat} (h : w[p]? = some c) (hq : p + 1 ≤ q) : seg w p q = c :: seg w (p + 1) q := by
  obtain ⟨hp, e⟩ := List.getElem?_eq_some_iff.mp h
  unfold seg
  rw [List.drop_eq_getElem_cons hp, e]
  have e2 : q - p = (q - (p + 1)) + 1 := by omega
  rw [e2, List.take_succ_cons]

/-- what the table keeps -/
def GoodT (R : Rules) (w : List Nat) (T : Tab) : Prop := ∀ n p q t, T n p q = some t →
  p ≤ q ∧ q ≤ w.length ∧ n < 3 ∧ IsTree R n t ∧ (seg w p q).Sublist (wordOf R t) ∧ ∃ keys, Gho T t n p q keys
theorem Rd.sound (G : GoodT R w T) {b : Body} {p q : Nat} {ks : List Tree} (h : Rd w T b p q ks) :
    AreTrees R (namesOf b) ks ∧ (seg w p q).Sublist (build b (wordsOf R ks)) ∧ ∃ keys, GhoL T ks p q keys := by
  induction h with
  | @nil p _ => exact ⟨.nil, by rw [seg_nil]; exact List.nil_sublist _, _, .nil (Nat.le_refl _)⟩
  | skip _ ih => exact ⟨ih.1, ih.2.1.cons _, ih.2.2⟩
  | @take c b p q ks h k ih =>
    obtain ⟨i1, i2, keys, i3⟩ := ih
    have hle := k.le
    refine ⟨i1, ?_, ?_⟩
    · rw [seg_cons h (by omega)]
      exact i2.cons_cons _
    · cases i3 with
      | nil _ => exact ⟨_, .nil (by omega)⟩
      | cons h1 h2 h3 h4 h5 => exact ⟨_, .cons (by omega) h2 h3 h4 h5⟩
  | @name n b p m q t ks h h1 k ih =>
    obtain ⟨i1, i2, keys, i3⟩ := ih
    obtain ⟨g1, g2, g3, g4, g5, k1, g6⟩ := G _ _ _ _ h
    have hle := k.le
    refine ⟨.cons g4 i1, ?_, _, .cons (Nat.le_refl _) h1 hle.1 g6 i3⟩
    rw [seg_cut h1 hle.1, wordsOf_cons]
    exact g5.append i2
theorem Rd.mono {T' : Tab} (hT : ∀ n p q t, T n p q = some t → ∃ t', T' n p q = some t') {b : Body} {p q : Nat} {ks : List Tree} (h : Rd w T b p q ks) : ∃ ks', Rd w T' b p q ks' := by
  induction h with
  | nil h => exact ⟨_, .nil h⟩
  | skip _ ih => obtain ⟨k, h⟩ := ih; exact ⟨_, .skip h⟩
  | take h _ ih => obtain ⟨k, h'⟩ := ih; exact ⟨_, .take h h'⟩
  | name h h1 _ ih =>
    obtain ⟨k, h'⟩ := ih
    obtain ⟨t', e⟩ := hT _ _ _ _ h
    exact ⟨_, .name e h1 h'⟩

/-- a new or a smaller tree is put into the table -/
theorem GoodT.put {T0 : Tab} (G : GoodT R w T) (G0 : GoodT R w T0) (h0 : T0.le T) {r n p q : Nat} {body : Body} {ks : List Tree} (hr : R[r]? = some (n, body)) (hn : n < 3) (h2 : (namesOf body).length ≤ 2)
    (h : Rd w T0 body p q ks) (less : ∀ t, T n p q = some t → sizes ks + 1 < t.size) :
    GoodT R w (T.put n p q (.nd r ks)) ∧ T.le (T.put n p q (.nd r ks)) := by
  obtain ⟨a1, a2, keys, a3⟩ := h.sound G0
  have hle := h.le
  have le1 : T.le (T.put n p q (.nd r ks)) := by
    intro n' p' q' t e
    by_cases c : n' = n ∧ p' = p ∧ q' = q
    · obtain ⟨rfl, rfl, rfl⟩ := c
      refine ⟨_, Tab.put_same .., ?_⟩
      have := less t e
      rw [size_nd]
      omega
    · exact ⟨t, by rw [Tab.put_ne _ _ c]; exact e, Nat.le_refl _⟩
  refine ⟨fun n' p' q' t e => ?_, le1⟩
  by_cases c : n' = n ∧ p' = p ∧ q' = q
  · obtain ⟨rfl, rfl, rfl⟩ := c
    rw [Tab.put_same] at e
    cases e
    have a4 := a3.mono h0
    refine ⟨hle.1, hle.2, hn, .nd hr a1, ?_, _, .nd hn (by rw [← a1.length]; exact h2) (a4.mono le1) (fun hk => ?_) ⟨_, Tab.put_same .., Nat.le_refl _⟩⟩
    · rw [wordOf_nd]
      have e : bodyAt R r = body := by unfold bodyAt; rw [hr]
      rw [e]
      exact a2
    · obtain ⟨t', e1, e2⟩ := a4.dom hk
      have := less t' e1
      omega
  · rw [Tab.put_ne _ _ c] at e
    obtain ⟨g1, g2, g3, g4, g5, k1, g6⟩ := G _ _ _ _ e
    exact ⟨g1, g2, g3, g4, g5, k1, g6.mono le1⟩
theorem GoodT.bound (G : GoodT R w T) (hw : w.length ≤ 6) {n p q : Nat} {t : Tree} (h : T n p q = some t) : t.size ≤ 271 ∧ t.depth ≤ 21 := by
  obtain ⟨g1, g2, _, _, _, _, g6⟩ := G _ _ _ _ h
  exact g6.bound g1 (by omega)
theorem goodT_empty : GoodT R w (fun _ _ _ => none) := fun _ _ _ _ h => by cases h

/-! ### the fixpoint -/
def FixT (R : Rules) (w : List Nat) (T : Tab) : Prop := ∀ n body, (n, body) ∈ R → ∀ p q ks, Rd w T body p q ks → ∃ t, T n p q = some t
theorem FixT.all (F : FixT R w T) {b : Body} {W : List Nat} (h : Mk R b W) : ∀ p q, p ≤ q → q ≤ w.length → (seg w p q).Sublist W → ∃ ks, Rd w T b p q ks := by
  induction h with
  | nil =>
    intro p q h1 h2 s
    have e := List.sublist_nil.mp s
    have e2 : (seg w p q).length = 0 := by rw [e]; rfl
    unfold seg at e2
    rw [List.length_take, List.length_drop] at e2
    have : p = q := by omega
    subst this
    exact ⟨_, .nil h2⟩
  | @lt c b W _ ih =>
    intro p q h1 h2 s
    by_cases e : p = q
    · subst e
      obtain ⟨ks, k⟩ := ih p p (Nat.le_refl _) h2 (by rw [seg_nil]; exact List.nil_sublist _)
      exact ⟨ks, .skip k⟩
    · have hp : p < w.length := by omega
      have hg : w[p]? = some w[p] := List.getElem?_eq_getElem hp
      have hc := seg_cons hg (by omega : p + 1 ≤ q)
      rw [hc] at s
      cases s with
      | cons _ s =>
        obtain ⟨ks, k⟩ := ih p q h1 h2 (by rw [hc]; exact s)
        exact ⟨ks, .skip k⟩
      | cons_cons _ s =>
        obtain ⟨ks, k⟩ := ih (p + 1) q (by omega) h2 s
        exact ⟨ks, .take hg k⟩
  | @nm n body b u W hr _ _ ih1 ih2 =>
    intro p q h1 h2 s
    obtain ⟨v1, v2, e, s1, s2⟩ := List.sublist_append_iff.mp s
    have hl : (seg w p q).length = q - p := by
      unfold seg
      rw [List.length_take, List.length_drop]
      omega
    have hl2 : v1.length + v2.length = q - p := by rw [← hl, e, List.length_append]
    have hm := seg_cut (w := w) (p := p) (m := p + v1.length) (q := q) (by omega) (by omega)
    have hlm : (seg w p (p + v1.length)).length = v1.length := by
      unfold seg
      rw [List.length_take, List.length_drop]
      omega
    rw [e] at hm
    obtain ⟨e1, e2⟩ := List.append_inj hm hlm.symm
    obtain ⟨ks1, k1⟩ := ih1 p (p + v1.length) (by omega) (by omega) (by rw [← e1]; exact s1)
    obtain ⟨ks2, k2⟩ := ih2 (p + v1.length) q (by omega) h2 (by rw [← e2]; exact s2)
    obtain ⟨t, ht⟩ := F n body hr _ _ _ k1
    exact ⟨t :: ks2, .name ht (by omega) k2⟩
theorem seg_all (w : List Nat) : seg w 0 w.length = w := by unfold seg; rw [List.drop_zero, Nat.sub_zero, List.take_length]
theorem FixT.iff (F : FixT R w T) (G : GoodT R w T) (n : Nat) : (∃ t, T n 0 w.length = some t) ↔ Dn R [.nm n] w := by
  constructor
  · rintro ⟨t, h⟩
    obtain ⟨_, _, _, g4, g5, _⟩ := G _ _ _ _ h
    rw [seg_all] at g5
    exact ⟨_, tree_mk g4, g5⟩
  · rintro ⟨W, h, s⟩
    obtain ⟨body, hr, h⟩ := mk_nm.mp h
    obtain ⟨ks, k⟩ := F.all h 0 w.length (Nat.zero_le _) (Nat.le_refl _) (by rw [seg_all]; exact s)
    exact F n body hr _ _ _ k

/-! ### what falls from pass to pass -/
def allKeys (m : Nat) : List (Nat × Nat × Nat) := (List.range 3).flatMap fun n => (List.range (m + 1)).flatMap fun p => (List.range (m + 1)).map fun q => (n, p, q)
theorem mem_allKeys {m n p q : Nat} (hn : n < 3) (hp : p ≤ m) (hq : q ≤ m) : (n, p, q) ∈ allKeys m := by
  unfold allKeys
  refine List.mem_flatMap.mpr ⟨n, List.mem_range.mpr hn, List.mem_flatMap.mpr ⟨p, List.mem_range.mpr (by omega), List.mem_map.mpr ⟨q, List.mem_range.mpr (by omega), rfl⟩⟩⟩
def wt (T : Tab) (k : Nat × Nat × Nat) : Nat := match T k.1 k.2.1 k.2.2 with
  | none => 300
  | some t => t.size
def mu (m : Nat) (T : Tab) : Nat := ((allKeys m).map (wt T)).sum
theorem sum_lt {α : Type} (f g : α → Nat) (x : α) : ∀ l : List α, (∀ y, f y ≤ g y) → x ∈ l → f x < g x → (l.map f).sum < (l.map g).sum
  | [], _, hx, _ => by cases hx
  | y :: l, h, hx, hl => by
    have le : ∀ l : List α, (l.map f).sum ≤ (l.map g).sum := by
      intro l
      induction l with
      | nil => exact Nat.le_refl _
      | cons z l ih => rw [List.map_cons, List.map_cons, List.sum_cons, List.sum_cons]; have := h z; omega
    rw [List.map_cons, List.map_cons, List.sum_cons, List.sum_cons]
    rcases List.mem_cons.mp hx with e | hx
    · subst e; have := le l; omega
    · have := sum_lt f g x l h hx hl
      have := h y
      omega
theorem mu_put {m n p q : Nat} {t : Tree} (hn : n < 3) (hp : p ≤ m) (hq : q ≤ m) (ht : t.size < 300) (less : ∀ t', T n p q = some t' → t.size < t'.size) : mu m (T.put n p q t) < mu m T := by
  have here : wt (T.put n p q t) (n, p, q) < wt T (n, p, q) := by
    unfold wt
    dsimp only
    rw [Tab.put_same]
    cases e : T n p q with
    | none => exact ht
    | some t' => exact less t' e
  refine sum_lt _ _ (n, p, q) _ (fun k => ?_) (mem_allKeys hn hp hq) here
  by_cases c : k.1 = n ∧ k.2.1 = p ∧ k.2.2 = q
  · obtain ⟨k1, k2, k3⟩ := k
    obtain ⟨rfl, rfl, rfl⟩ := c
    exact Nat.le_of_lt here
  · unfold wt
    rw [Tab.put_ne _ _ c]
    exact Nat.le_refl _
end

/-! ### the law's own look, whether a word lies under another -/
def eatB (c : Nat) : List Nat → List Nat
  | [] => []
  | x :: r => if x = c then r else x :: r
def eat (less : List Nat) (more : List Nat) : List Nat := more.foldl (fun r c => eatB c r) less
theorem eat_nil : ∀ more : List Nat, eat [] more = []
  | [] => rfl
  | _ :: m => eat_nil m
theorem eat_sub : ∀ (more less : List Nat), less.Sublist more → eat less more = []
  | [], less, h => by rw [List.sublist_nil.mp h]; rfl
  | c :: more, less, h => by
    cases less with
    | nil => exact eat_nil _
    | cons x r =>
      show eat (if x = c then r else x :: r) more = []
      by_cases e : x = c
      · rw [if_pos e]
        subst e
        refine eat_sub more r ?_
        cases h with
        | cons _ h => exact (List.sublist_cons_self ..).trans h
        | cons_cons _ h => exact h
      · rw [if_neg e]
        refine eat_sub more (x :: r) ?_
        cases h with
        | cons _ h => exact h
        | cons_cons _ h => exact absurd rfl e
end K55

namespace K55
section
open Classical
/-- how many names a name reaches, itself among them -/
noncomputable def rank (R : Rules) (n : Nat) : Nat := ((List.range 3).filter fun m => decide (Reach0 R n m)).length
/-- how many rules a name's words may use -/
noncomputable def kc (R : Rules) (n : Nat) : Nat := (R.filter fun r => decide (Reach0 R n r.1)).length
noncomputable def kn (R : Rules) (n : Nat) : Nat := (R.filter fun r => decide (Knot0 R n r.1)).length
theorem filter_two {α : Type} (f g h : α → Bool) : ∀ l : List α, (∀ y, f y = true → h y = true) → (∀ y, g y = true → h y = true) → (∀ y, f y = true → g y = true → False) → (l.filter f).length + (l.filter g).length ≤ (l.filter h).length
  | [], _, _, _ => Nat.le_refl _
  | x :: l, h1, h2, h3 => by
    have ih := filter_two f g h l h1 h2 h3
    cases ef : f x with
    | true =>
      have eg : g x = false := by
        cases eg : g x with
        | false => rfl
        | true => exact (h3 x ef eg).elim
      rw [List.filter_cons_of_pos ef, List.filter_cons_of_neg (by rw [eg]; decide), List.filter_cons_of_pos (h1 x ef), List.length_cons, List.length_cons]
      omega
    | false =>
      rw [List.filter_cons_of_neg (by rw [ef]; decide)]
      cases eg : g x with
      | true =>
        rw [List.filter_cons_of_pos eg, List.filter_cons_of_pos (h2 x eg), List.length_cons, List.length_cons]
        omega
      | false =>
        rw [List.filter_cons_of_neg (by rw [eg]; decide)]
        cases eh : h x with
        | true => rw [List.filter_cons_of_pos eh, List.length_cons]; omega
        | false => rw [List.filter_cons_of_neg (by rw [eh]; decide)]; exact ih
theorem exit_out {R : Rules} {n m x : Nat} {e : Body} (hm : Knot0 R n m) (hr : (m, e) ∈ R) (hx : Thing.nm x ∈ e) (no : ¬ InKnot R n x) : Reach R n x ∧ ¬ Reach0 R x n := by
  have r : Reach R n x := hm.to.reach (.one hr hx)
  refine ⟨r, fun h => ?_⟩
  rcases h with h | h
  · subst h; exact no ⟨r, r⟩
  · exact no ⟨r, h⟩
theorem rank_lt {R : Rules} {n x : Nat} (hn : n < 3) (r : Reach R n x) (no : ¬ Reach0 R x n) : rank R x < rank R n := by
  unfold rank
  refine filter_lt _ _ n _ (fun y hy => ?_) (List.mem_range.mpr hn) (decide_eq_true (.inl rfl)) (decide_eq_false no)
  exact decide_eq_true (r.to0.trans (of_decide_eq_true hy))
theorem kc_add {R : Rules} {n x : Nat} (r : Reach R n x) (no : ¬ Reach0 R x n) : kc R x + kn R n ≤ kc R n := by
  unfold kc kn
  refine filter_two _ _ _ R (fun y hy => ?_) (fun y hy => ?_) (fun y h1 h2 => ?_)
  · exact decide_eq_true (r.to0.trans (of_decide_eq_true hy))
  · exact decide_eq_true ((of_decide_eq_true hy : Knot0 R n y.1).to)
  · exact no ((of_decide_eq_true h1 : Reach0 R x y.1).trans ((of_decide_eq_true h2 : Knot0 R n y.1).back))
theorem kn_le {R : Rules} (n : Nat) : kn R n ≤ kc R n := by
  have := filter_two (fun r : Nat × Body => decide (Knot0 R n r.1)) (fun _ => false) (fun r => decide (Reach0 R n r.1)) R (fun y hy => decide_eq_true ((of_decide_eq_true hy : Knot0 R n y.1).to)) (fun _ z => nomatch z) (fun _ _ z => nomatch z)
  unfold kn kc
  omega
theorem kc_le (R : Rules) (n : Nat) : kc R n ≤ R.length := List.length_filter_le _ _
theorem rank_le (R : Rules) (n : Nat) : rank R n ≤ 3 := by
  have := List.length_filter_le (fun m => decide (Reach0 R n m)) (List.range 3)
  rw [List.length_range] at this
  exact this
end
/-- how many products a name can have -/
def cnB : Nat → Nat → Nat
  | 0, _ => 1
  | r + 1, k => ((List.range (k + 1)).map fun a => a * (cnB r (k - a) * cnB r (k - a))).foldl max 1
theorem cnB_all : ∀ r, r < 3 → ∀ k, k < 6 → ∀ a, a < 6 → ∀ k', k' < 6 → a + k' ≤ k → a * (cnB r k' * cnB r k') ≤ cnB (r + 1) k := by decide +kernel
theorem cnB_step {r k a k' : Nat} (hr : r < 3) (hk : k ≤ 5) (h : a + k' ≤ k) : a * (cnB r k' * cnB r k') ≤ cnB (r + 1) k := cnB_all r hr k (by omega) a (by omega) k' (by omega) h
theorem cnB_one : ∀ r, r < 4 → ∀ k, k < 6 → 1 ≤ cnB r k := by decide +kernel
theorem cnB_pos {r k : Nat} (hr : r ≤ 3) (hk : k ≤ 5) : 1 ≤ cnB r k := cnB_one r (by omega) k (by omega)
def cnOk : Bool := (List.range 4).all fun r => (List.range 4).all fun r' => (List.range 6).all fun k => (List.range 6).all fun k' => decide (r ≤ r' → k ≤ k' → cnB r k ≤ cnB r' k')
theorem cnB_m : ∀ r, r < 4 → ∀ r', r' < 4 → ∀ k, k < 6 → ∀ k', k' < 6 → r ≤ r' → k ≤ k' → cnB r k ≤ cnB r' k' := by
  have h : cnOk = true := by decide +kernel
  unfold cnOk at h
  simp only [List.all_eq_true, List.mem_range, decide_eq_true_eq] at h
  exact h
theorem cnB_mono {r r' k k' : Nat} (h : r ≤ r') (hr : r' ≤ 3) (h2 : k ≤ k') (hk : k' ≤ 5) : cnB r k ≤ cnB r' k' := cnB_m r (by omega) r' (by omega) k (by omega) k' (by omega) h h2
theorem cnB_top {r k : Nat} (hr : r ≤ 3) (hk : k ≤ 5) : cnB r k ≤ 81 := Nat.le_trans (cnB_mono hr (Nat.le_refl _) hk (Nat.le_refl _)) (by decide +kernel)
/-- how long they are -/
def plB : Nat → Nat
  | 0 => 0
  | r + 1 => 2 * plB r + 5
theorem plB_top {r : Nat} (h : r ≤ 3) : plB r ≤ 35 := by
  match r, h with
  | 0, _ => decide
  | 1, _ => decide
  | 2, _ => decide
  | 3, _ => decide
theorem plB_mono {r r' : Nat} (h : r ≤ r') : plB r ≤ plB r' := by
  induction h with
  | refl => exact Nat.le_refl _
  | step _ ih => show _ ≤ 2 * plB _ + 5; omega
end K55

/-! KX1: small rules that the layer lacks: enumerate over a tuple, extend by a tuple, not in range, list(text), text * int, a dict walked where it was just made, a walk of one of two kinds. -/
namespace KX
open PySem PySem.Spec PyProof.Rows L2

/-! ### two walks, two operators -/
theorem pi_or {X : Cx} {tg e : Expr} {wi wj : TI} (h : PI X tg e wi) (k : PI X tg e wj) : PI X tg e (fun st H R => wi st H R ∨ wj st H R) :=
  ⟨fun pins s st H R I q => q.elim (h.run pins s st H R I) (k.run pins s st H R I)⟩
/-- a list or a tuple that is walked -/
theorem pi_seq {X : Cx} {tg e : Expr} {t : TE} (h : PE X e t) : PI X tg e (fun st H R => iList X.K t st H R ∨ iTup X.K t st H R) := pi_or (pi_list h) (pi_tup h)

/-! ### a dict that is told by an expression, frozen from then on -/
def tFreeze (t : TE) : TE := fun st H Q => t st H fun x H1 => ∃ (d : Addr) (kvs : List (Key × V)), x = .ref d ∧ H1 d = some (.dK kvs) ∧ ∀ od : Obj, Q x (upd H1 d (.frz od (.dK kvs)))
theorem pe_freeze {X : Cx} {e : Expr} {t : TE} (h : PE X e t) : PE X e (tFreeze t) := ⟨fun pins s st H Q I q =>
  thn (h.run pins s st H _ I q) fun u s1 ⟨x, H1, I1, r, d, kvs, ex, hd, k⟩ => by
    obtain ⟨od, I2⟩ := I1.lock hd trivial
    exact ⟨x, _, I2, r, k od⟩⟩

/-! ### xs.extend(a tuple) -/
def rExtT (K : PySem.W.Frag) : V → List V → Hp → VK → Prop := fun x vs H Q => ∃ l b xs zs, x = .ref l ∧ vs = [.ref b] ∧ H l = some (.lst xs) ∧ H b = some (.tup zs) ∧
  xs.length + zs.length ≤ sizeLine ∧ Q .non (upd H l (.lst (xs ++ zs)))
theorem ext_tup (l b : Addr) (items items2 : Array Value) (n n2 : Nat) (dd : Option Addr) (sl : Array (Option Value)) (h0 : ¬(!items.isEmpty && Builtin.List.listTooLong (items.size + items2.size)) = true) (h1 : items.size ≤ sizeLine) (h2 : items.size + items2.size ≤ sizeLine + 1) :
    Meets (Builtin.«list.extend» ⟨[.ref l, .ref b], []⟩) (fun _ R s => (s.heap.get? l = some { cls := .type "list", dict := none, data := .seq items n, slots := #[] } ∧
      s.heap.get? b = some { cls := .type "tuple", dict := dd, data := .seq items2 n2, slots := sl }) ∧ R (.ok (.ret Value.none)) { s with heap := s.heap.update l (Obj.mapSeq fun z => z ++ items2) }) :=
  .of_wp fun prog w A R s h => by
    obtain ⟨hp, g, d, tk, os⟩ := s
    obtain ⟨⟨hl, hb⟩, h⟩ := h
    have f1 := AutoSeq1.idx_int
    have f2 := AutoSeq1.sub_tuple_tuple
    have f3 := AutoSeq1.sub_list_list
    have f4 := AutoSeq1.sub_tuple_list
    have f5 := AutoSeq1.sub_list_tuple
    have hz : (items ++ items2).size ≤ sizeLine + 1 := by rw [Array.size_append]; exact h2
    wp_walk using (wpAny_updateSeq hl rfl (hz := h1) (_hz' := hz)), AutoSeq1.wpAny_loadPart' hl, AutoSeq1.wpAny_loadPart' hb
    exact ⟨_, rfl, h⟩
theorem mt_extT {X : Cx} : MtM X "list.extend" (rExtT X.K) := by
  intro pins s st H x vs v us Q I rx rv h
  obtain ⟨l, b, xs, zs, rfl, rfl, hH, hB, hz, q⟩ := h
  obtain rfl : v = Value.ref l := rx
  obtain ⟨u, rfl, ru⟩ := rv.one
  obtain rfl : u = Value.ref b := ru
  obtain ⟨_, its, n, r, hl, e⟩ := I.lstM hH
  obtain ⟨its2, r2, ⟨⟨cls, dd, data, sl⟩, e2, c2, n2, d2⟩, hz2⟩ := I.tuple (SqT.of hB)
  obtain rfl : cls = Value.type "tuple" := c2
  obtain rfl : data = Data.seq its2.toArray n2 := d2
  have l2 := r2.length
  have both : its.toArray.size + its2.toArray.size ≤ sizeLine := by rw [List.size_toArray, List.size_toArray]; omega
  have short : ¬ (!its.toArray.isEmpty && Builtin.List.listTooLong (its.toArray.size + its2.toArray.size)) = true := by
    rw [notLongL both, Bool.and_false]
    decide
  refine call_meets F.slot_list_extend ⟨_, e, rfl⟩ F.entry_list_extend (F.args_list_extend_2 _ _)
    (ext_tup l b its.toArray its2.toArray n n2 dd sl short (by rw [List.size_toArray]; omega) (by omega)) ⟨⟨e, e2⟩, .non, _, I.lset (its' := its ++ its2) hH e (by simp) (r.append r2) ?_, rfl, q⟩
  rw [List.length_append]
  exact hz

/-! ### i not in r -/
theorem op_notIn_rng {X : Cx} : OpR X (compareOp .NotIn) (fun x y H Q => ∃ i a lo hi, x = V.int i ∧ y = V.ref a ∧ H a = some (.rng lo hi) ∧ Q (.bl (!decide (lo ≤ i ∧ i < hi))) H) := by
  intro pins s st H x y v u Q I rx ry h
  obtain ⟨i, a, lo, hi, rfl, rfl, ha, q⟩ := h
  obtain ⟨k, rfl⟩ := rx
  obtain rfl : u = Value.ref a := ry
  obtain ⟨t1, t2, t3, ho⟩ := I.hok a _ ha
  show wpAny _ _ (do return Value.bool (!(← contains (Value.ref a) (Value.int i k)))) _ _ s
  refine wpAny_bind (wpAny_contains_slot (T := "range") ⟨_, ho, rfl⟩ F.slot_range_contains (call_meets F.slot_range_contains ⟨_, ho, rfl⟩ F.entry_range_contains (F.args_range_contains_2 _ _) (q_contains a lo hi i t1 t2 t3 k)
    ⟨ho, wpAny_truthy_bool (wpAny_pure ⟨.bl (!decide (lo ≤ i ∧ i < hi)), H, I, ?_, q⟩)⟩))
  rw [place1]
  rfl
/-- range(n) as a value -/
theorem cr_range1 {X : Cx} : CallR X (.type "range") (fun vs H Q => ∃ j, vs = [V.int j] ∧ ∀ p, H p = none → Q (.ref p) (upd H p (.rng 0 j))) := by
  intro pins s st H vs us Q I r h
  obtain ⟨j, rfl, q⟩ := h
  obtain ⟨u, rfl, t, rfl⟩ := vals1 r
  refine call_range_1 ⟨.ref s.heap.objs.size, _, I.laid (t' := _) (fun b o e => Heap.get?_push_of_some _ e) (Nat.le_refl _) ?_, rfl, q _ (I.hok.fresh (Nat.le_refl _))⟩
  exact ⟨_, _, _, Heap.get?_push_size _ rfl⟩

/-! ### list(a text) -/
def signsV (z : Str) : List V := z.cps.toList.map fun c => V.str ⟨#[c]⟩
theorem call_list_text {X : Cx} (hc : X.calm = true) : CallR X (.type "list") (fun vs H Q => ∃ z : Str, vs = [V.str z] ∧ z.cps.size ≤ sizeLine ∧ ∀ p, H p = none → Q (.ref p) (upd H p (.lst (signsV z)))) := by
  intro pins s st H vs us Q I r h
  obtain ⟨z, rfl, hz, q⟩ := h
  obtain ⟨u, rfl, t, rfl⟩ := vals1 r
  refine PySem.call_list_str (hn := hz) (I.ok.hd hc) z t fun h' tk acc c' hk hp hacc => ?_
  have hl : (signsV z).length = acc.toList.length := by
    unfold signsV
    rw [List.length_map, Array.length_toList, Array.length_toList]
    exact hacc.1.symm
  have hv : Vals (signsV z) acc.toList := by
    refine vals_of_at hl fun j x v e1 e2 => ?_
    obtain ⟨c, tk, e3, e4⟩ := hacc.2 j v (by rw [← Array.getElem?_toList]; exact e2)
    unfold signsV at e1
    rw [List.getElem?_map, Array.getElem?_toList, e3] at e1
    cases e1
    exact ⟨tk, e4⟩
  refine ⟨.ref s.heap.objs.size, upd H s.heap.objs.size (.lst (signsV z)), I.laid (t' := tk) hk (Nat.le_refl _) ⟨?_, acc.toList, c', hv, by rw [Array.toArray_toList]; exact hp⟩, rfl, q _ (I.hok.fresh (Nat.le_refl _))⟩
  unfold signsV
  rw [List.length_map, Array.length_toList]
  exact hz
end KX

/-! KX2: enumerate over a tuple; list(reversed(a list)); a text times an int. -/
namespace KX
open PySem PySem.Spec PyProof.Rows L2

/-! ### enumerate(a tuple) -/
set_option maxHeartbeats 2000000 in
theorem enum_newB {v : Value} {o : Obj} {HH : Heap → Prop} (B : Begins v o HH) :
    Meets (Builtin.«enumerate.__new__» ⟨[.type "enumerate", v], []⟩) (fun _ R s => HH s.heap ∧
      R (.ok (.ret (.ref (s.heap.push o).objs.size))) { s with heap := (s.heap.push o).push { cls := .type "enumerate", data := .fields #[.none, .bool false, .ref s.heap.objs.size, rawInt 0, .none, .none] } }) :=
  .of_wp fun prog w A R s h => by
    obtain ⟨hp, g, d, tk, os⟩ := s
    obtain ⟨h1, h⟩ := h
    have isub := sub_enumerate
    have step : ∀ {A' : Around} {E : Value → Shared → Prop} {Q : Value → Shared → Prop}, Q (.ref hp.objs.size) ⟨hp.push o, g, d, tk, os⟩ → wpAny (model prog w) A' (pyIter v) Q E ⟨hp, g, d, tk, os⟩ :=
      fun q => B.iter prog w _ _ ⟨hp, g, d, tk, os⟩ _ h1 q
    wp_walk using step
    refine wpAny_stack_any fun st => wpAny_pure ?_
    split
    · rename_i c _ _ _ _ _
      cases (c == Value.type "enumerate") <;> (wp_walk using step; exact ⟨_, rfl, h⟩)
    · wp_walk using step
      exact ⟨_, rfl, h⟩
def enumCell (it : Addr) : Obj := { cls := .type "enumerate", data := .fields #[.none, .bool false, .ref it, rawInt 0, .none, .none] }
theorem call_enumB {prog : Program} {w : World} {A : Around} {E : Value → Shared → Prop} {s : Shared} {v : Value} {o : Obj} {HH : Heap → Prop} {Q : Value → Shared → Prop} (B : Begins v o HH) (h1 : HH s.heap)
    (h : Q (.ref (s.heap.objs.size + 1)) { s with heap := (s.heap.push o).push (enumCell s.heap.objs.size) }) : wpAny (model prog w) A (call (.type "enumerate") [v]) Q E s := by
  have z : (s.heap.push o).objs.size = s.heap.objs.size + 1 := Heap.size_push ..
  refine callType_new F.called_enumerate (by decide) (F.typeCall_enumerate_1 _) (F.newCall_enumerate_1 _) (fun obj => F.args_object_init_2 obj _) F.entry_enumerate_new (enum_newB B) ⟨h1, ?_⟩
  show _ ∧ _
  rw [z]
  have g : ((s.heap.push o).push (enumCell s.heap.objs.size)).get? (s.heap.objs.size + 1) = some (enumCell s.heap.objs.size) := by
    rw [← z]
    exact Heap.get?_push_size _ rfl
  exact ⟨⟨_, g, rfl⟩, h⟩

/-- the tuple at a, its items with their numbers in new pairs -/
def IteT (K : PySem.W.Frag) (a : Addr) : It where
  go := fun i H => ∃ (xs : List V) (x : V), SqT K H a xs ∧ xs[i]? = some x
  yld := fun i H v H' => ∃ T x, v = .ref T ∧ H T = none ∧ H' = upd H T (.tup [.int (i : Nat), x]) ∧ ∀ xs, SqT K H a xs → xs[i]? = some x
  stop := fun i H => ∃ xs : List V, SqT K H a xs ∧ xs.length = i
theorem turn_enumT {P : Program} {w : World} {K : PySem.W.Frag} {elts : List Expr} {kk : Nat} {tpos : Pos} (a e it : Addr) :
    Turn P w K (.Tuple elts kk tpos) (IteT K a) [e, it] e (fun i h => (∃ old, IsEnum h e it ((i : Nat) : Int) old) ∧ h.IsTupleIter it a i ∧ e ≠ it ∧ a ≠ it ∧ a ≠ e) where
  mem := List.mem_cons_self
  obj := by
    rintro i h ⟨⟨old, he⟩, ⟨o, ho, hc, hd⟩, _⟩ b hb
    rcases List.mem_cons.mp hb with z | hb
    · subst z
      refine ⟨_, he, fun v q => ?_⟩
      cases q
    · have z := List.mem_singleton.mp hb
      exact ⟨o, z ▸ ho, fun v q => by rw [hd] at q; cases q⟩
  keep := by
    rintro i h h' ⟨⟨old, he⟩, hi, hne⟩ k
    exact ⟨⟨old, k e List.mem_cons_self _ he⟩, hi.at fun o q => k it (List.mem_cons_of_mem _ List.mem_cons_self) o q, hne⟩
  item := by
    rintro X rfl rfl rfl hc i pins s st H E I hf ⟨⟨old, he⟩, hit, hne, hai, hae⟩ ⟨xs, x, hq, hx⟩
    obtain ⟨its, rv, p, hz⟩ := I.tuple hq
    obtain ⟨u, hu, ru⟩ := rv.get hx
    have el : e < s.heap.objs.size := Heap.lt_size he
    have il : it < s.heap.objs.size := by obtain ⟨_, q, _⟩ := hit; exact Heap.lt_size q
    have D := Draws.tuple (prog := X.prog) (w := X.w) (A := X.A.in1) (I.ok.hd hc) it a hai its.toArray
    have hsz : i < its.toArray.size := by
      rw [List.size_toArray]
      exact (List.getElem?_eq_some_iff.mp hu).1
    refine wpAny_pyNext_enum_itemD D he ⟨hit, p⟩ hsz hne (by simp only [List.mem_cons, List.not_mem_nil, or_false, not_or]; exact ⟨hne, Ne.symm hae⟩) fun y h1 tk hy ho hst hT _ hk => ?_
    have ey : y = u := by
      rw [List.getElem?_toArray] at hy
      exact Option.some.inj (hy.symm.trans hu)
    subst ey
    refine ⟨_, rfl, wpAny_letOwnedTupleGo_enum (s := { s with heap := h1, toks := tk + 1 }) ho fun h2 he2 sb => ?_⟩
    have hT2 : h2.get? s.heap.objs.size = some { cls := .type "tuple", data := .seq #[.int i tk, y] } := (sb.2 _ (Nat.ne_of_gt el)).trans hT
    have new : ObjOk X.prog X.w (upd H s.heap.objs.size (.tup [.int (i : Nat), x])) h2 s.heap.objs.size (.tup [.int (i : Nat), x]) :=
      ⟨by show 2 ≤ sizeLine; decide, [.int i tk, y], .cons ⟨_, rfl⟩ (.cons ru .nil), ⟨_, hT2, rfl, _, rfl⟩⟩
    have I1 : Inv X pins st (upd H s.heap.objs.size (.tup [.int (i : Nat), x])) { s with heap := h2, toks := tk + 1 } :=
      I.turnedNew (ch := [e, it]) (fun b ob hb q => by
        simp only [List.mem_cons, List.not_mem_nil, or_false, not_or] at hb
        exact (sb.2 b hb.1).trans (hk b ob hb.1 hb.2 q)) hf (Nat.le_refl _) new
    refine ⟨.ref s.heap.objs.size, _, I1, rfl, ⟨_, x, rfl, I.hok.fresh (Nat.le_refl _), rfl, fun ys hy => by rw [I.tuple_inj hy hq]; exact hx⟩, ⟨⟨y, ?_⟩, hst.1.at fun o q => (sb.2 it (Ne.symm hne)).trans q, hne, hai, hae⟩, fun b hb => ?_⟩
    · have e1 : ((i + 1 : Nat) : Int) = (i : Int) + 1 := by omega
      rw [e1]
      exact he2
    · have lt : b < s.heap.objs.size := by
        rcases List.mem_cons.mp hb with z | hb
        · exact z ▸ el
        · exact List.mem_singleton.mp hb ▸ il
      rw [upd_ne (Nat.ne_of_lt lt)]
      rcases List.mem_cons.mp hb with z | hb
      · exact (hf b (z ▸ List.mem_cons_self)).1
      · exact (hf b (List.mem_cons_of_mem _ hb)).1
  done := by
    rintro X rfl rfl rfl hc i pins s st H E I hf ⟨⟨old, he⟩, hit, hne, hai, hae⟩ ⟨xs, hq, hx⟩
    obtain ⟨its, rv, p, hz⟩ := I.tuple hq
    obtain ⟨f0, f1, f2, f3, f4, f5⟩ := hf it (List.mem_cons_of_mem _ List.mem_cons_self)
    have hl := rv.length
    have D := Draws.tuple (prog := X.prog) (w := X.w) (A := X.A.in1) (I.ok.hd hc) it a hai its.toArray
    have ei : i = its.toArray.size := by rw [List.size_toArray]; omega
    refine wpAny_pyNext_enum_endD (n := its.toArray.size) D he ⟨by rw [← ei]; exact hit, p⟩ fun h' hx' => ⟨rfl, ?_⟩
    exact I.turned (t' := s.toks) (fun b o hb q => hx' b o hb q) f0 f1 f3 f4 f5
  self := fun A i s Q E st h => let ⟨⟨_, he⟩, _⟩ := st; wpAny_pyIter_enum he h
def iEnumT (K : PySem.W.Frag) (ta : TA) : TI := fun st H R => ta st H fun vs H1 => ∃ a xs, vs = [.ref a] ∧ SqT K H1 a xs ∧ R (IteT K a) H1
theorem pi_enumT {X : Cx} {e : Expr} {ta : TA} {p pos tpos : Pos} {elts : List Expr} {kk : Nat} (hg : Gl X "enumerate") (hm : X.mg "enumerate" = none) (ha : PA X [e] ta) (hs : starEach [e] X.env = [(false, eval e X.env)] := by rfl) :
    PI X (.Tuple elts kk tpos) (.Call (.Name "enumerate" p) [e] [] pos) (iEnumT X.K ta) := by
  constructor
  intro pins s st H R I h
  refine Call_ (ld_blt I hg hm boot_enumerate (PyProof.Rows.callWith_type1 (thn (ha.run pos pins s st H _ I h) ?_) hs rfl))
  rintro us s1 ⟨vs, H1, I1, r1, a, xs, rfl, hq, q⟩
  obtain ⟨u, rfl, ru⟩ := vals1 r1
  obtain rfl : u = Value.ref a := ru
  obtain ⟨its, rv, p', hz⟩ := I1.tuple hq
  have al : a < s1.heap.objs.size := p'.lt
  refine call_enumB (begins_tuple a its.toArray) p' (wpAny_pyIter_enum (it := s1.heap.objs.size) (i := 0) (old := .none) ?_ ?_)
  · show ((s1.heap.push _).push _).get? (s1.heap.objs.size + 1) = _
    have z : (s1.heap.push { cls := .type "tuple_iterator", data := .fields #[.ref a, .int 0 0] }).objs.size = s1.heap.objs.size + 1 := Heap.size_push ..
    rw [← z]
    exact Heap.get?_push_size _ rfl
  · have z : (s1.heap.push { cls := .type "tuple_iterator", data := .fields #[.ref a, .int 0 0] }).objs.size = s1.heap.objs.size + 1 := Heap.size_push ..
    have up : ∀ b o, s1.heap.get? b = some o → ((s1.heap.push { cls := .type "tuple_iterator", data := .fields #[.ref a, .int 0 0] }).push (enumCell s1.heap.objs.size)).get? b = some o :=
      fun b o e => Heap.get?_push_of_some _ (Heap.get?_push_of_some _ e)
    refine ⟨s1.heap.objs.size + 1, [s1.heap.objs.size + 1, s1.heap.objs.size], _, _, H1, rfl, I1.kept (t' := s1.toks) up, turn_enumT a _ s1.heap.objs.size, ⟨⟨.none, ?_⟩, ⟨_, Heap.get?_push_of_some _ (Heap.get?_push_size _ rfl), rfl, rfl⟩, Nat.succ_ne_self _, Nat.ne_of_lt al, Nat.ne_of_lt (Nat.lt_succ_of_lt al)⟩, fun b hb => ?_, q⟩
    · show ((s1.heap.push _).push _).get? (s1.heap.objs.size + 1) = _
      rw [← z]
      exact Heap.get?_push_size _ rfl
    · have le : s1.heap.objs.size ≤ b := by
        rcases List.mem_cons.mp hb with e | hb
        · exact e ▸ Nat.le_succ _
        · exact Nat.le_of_eq (List.mem_singleton.mp hb).symm
      exact I1.fpOk le (I1.hok.fresh le)
/-- over a tuple, by number and item -/
theorem for_enumT {K : PySem.W.Frag} {a : Addr} {xs : List V} {g : TG} {tb : TS} {D : Ends} {st : L2.St} {H : Hp} (Pv : Nat → L2.St → Hp → Prop) (h0 : Pv 0 st H) (hl : ∀ i st H, i ≤ xs.length → Pv i st H → SqT K H a xs)
    (hs : ∀ i x st H T, xs[i]? = some x → Pv i st H → H T = none → g (.ref T) st (upd H T (.tup [.int (i : Nat), x])) fun st2 H2 => tb { D with nx := Pv (i + 1), ct := Pv (i + 1), bk := D.nx } st2 H2) (hd : ∀ st H, Pv xs.length st H → D.nx st H) :
    ∃ W : Nat → Nat → L2.St → Hp → Prop, (∃ m, W 0 m st H) ∧ ∀ i m st H, W i m st H →
      ((IteT K a).stop i H ∧ D.nx st H) ∨ ((IteT K a).go i H ∧ ∃ N : L2.St → Hp → Prop, (∀ st' H', N st' H' → ∃ m', m' < m ∧ W (i + 1) m' st' H') ∧ ∀ x H', (IteT K a).yld i H x H' → g x st H' fun st2 H2 => tb { D with nx := N, ct := N, bk := D.nx } st2 H2) := by
  refine ⟨fun i m st H => m = xs.length - i ∧ i ≤ xs.length ∧ Pv i st H, ⟨xs.length, rfl, Nat.zero_le _, h0⟩, ?_⟩
  rintro i m st H ⟨rfl, hi, p⟩
  have q := hl i st H hi p
  rcases Nat.lt_or_ge i xs.length with lt | ge
  · refine .inr ⟨⟨xs, xs[i], q, List.getElem?_eq_getElem lt⟩, Pv (i + 1), fun st' H' p' => ⟨xs.length - (i + 1), by omega, rfl, lt, p'⟩, ?_⟩
    rintro x H' ⟨T, y, rfl, hT, rfl, hy⟩
    exact hs i y st _ T (hy xs q) p hT
  · have e : i = xs.length := Nat.le_antisymm hi ge
    subst e
    exact .inl ⟨⟨xs, q, rfl⟩, hd st H p⟩
theorem lc_enumT {K : PySem.W.Frag} {a : Addr} {xs : List V} {g : TG} {tt : TT} {te : TE} {vs : List Nat} {st : L2.St} {H1 : Hp} {D : Addr} {Qd : Hp → Prop} (Pv : Nat → Hp → Prop) (h0 : Pv 0 (upd H1 D (.lst []))) (hl : ∀ i H, i ≤ xs.length → Pv i H → SqT K H a xs)
    (hs : ∀ i x H T, xs[i]? = some x → Pv i H → H T = none → g (.ref T) (wipe st vs) (upd H T (.tup [.int (i : Nat), x])) fun st2 H2 => wipe st2 vs = wipe st vs ∧ tt st2 H2 fun b H3 =>
      if b = true then te st2 H3 fun y H4 => ∃ acc, H4 D = some (.lst acc) ∧ acc.length < sizeLine ∧ Pv (i + 1) (upd H4 D (.lst (acc ++ [y]))) else Pv (i + 1) H3) (hd : ∀ H, Pv xs.length H → Qd H) :
    ∃ W : Nat → Nat → Hp → Prop, (∃ m, W 0 m (upd H1 D (.lst []))) ∧ ∀ i m H, W i m H →
      ((IteT K a).stop i H ∧ Qd H) ∨ ((IteT K a).go i H ∧ ∃ Nx : Hp → Prop, (∀ H', Nx H' → ∃ m', m' < m ∧ W (i + 1) m' H') ∧ ∀ x H', (IteT K a).yld i H x H' → g x (wipe st vs) H' fun st2 H2 => wipe st2 vs = wipe st vs ∧ tt st2 H2 fun b H3 =>
        if b = true then te st2 H3 fun y H4 => ∃ acc, H4 D = some (.lst acc) ∧ acc.length < sizeLine ∧ Nx (upd H4 D (.lst (acc ++ [y]))) else Nx H3) := by
  refine ⟨fun i m H => m = xs.length - i ∧ i ≤ xs.length ∧ Pv i H, ⟨xs.length, rfl, Nat.zero_le _, h0⟩, ?_⟩
  rintro i m H ⟨rfl, hi, p⟩
  have q := hl i H hi p
  rcases Nat.lt_or_ge i xs.length with lt | ge
  · refine .inr ⟨⟨xs, xs[i], q, List.getElem?_eq_getElem lt⟩, Pv (i + 1), fun H' p' => ⟨xs.length - (i + 1), by omega, rfl, lt, p'⟩, ?_⟩
    rintro x H' ⟨T, y, rfl, hT, rfl, hy⟩
    exact hs i y _ T (hy xs q) p hT
  · have e : i = xs.length := Nat.le_antisymm hi ge
    subst e
    exact .inl ⟨⟨xs, q, rfl⟩, hd H p⟩

/-! ### text * int -/
def repS (z : Str) (n : Nat) : Str := ⟨(List.replicate n z.cps).foldl (· ++ ·) #[]⟩
theorem op_mul_text {X : Cx} : OpR X (binaryOp .Mult) (fun x y H Q => ∃ (z : Str) (n : Nat), x = .str z ∧ y = .int n ∧ n ≤ 1 ∧ z.length ≤ sizeLine ∧ Q (.str (if n = 0 then Str.empty else z)) H) := by
  intro pins s st H x y v u Q I rx ry h
  obtain ⟨z, n, rfl, rfl, hn, hz, q⟩ := h
  obtain ⟨t, rfl⟩ := rx
  obtain ⟨t', rfl⟩ := ry
  have e : n = 0 ∨ n = 1 := by omega
  rcases e with e | e
  · subst e
    exact P.mul_str_none (by decide) (by decide) ⟨.str Str.empty, H, I.tok _, ⟨_, rfl⟩, q⟩
  · subst e
    refine P.mul_str (by decide) (fun _ h => ?_) (fun _ h => ?_) ?_
    · exact absurd h (by simp)
    · exact absurd h (by simp)
    · exact ⟨.str z, H, I, ⟨t, rfl⟩, q⟩
end KX

/-! KX3: list(reversed(a list)). -/
namespace KX
open PySem PySem.Spec PyProof.Rows L2

section
variable {prog : Program} {w : World} {A : Around} {E : Value → Shared → Prop} {s : Shared}
/-- the list at S filled from a reversed iterator -/
theorem ext_rev {R : Result → Shared → Prop} {it l S : Addr} {items : Array Value} {c0 : Nat} {res : Value} (hh : A.handled = none) (hit : s.heap.IsRevIter it l ((items.size : Int) - 1)) (hl : s.heap.IsList l items)
    (hne : l ≠ it) (hSi : S ≠ it) (hSl : S ≠ l) (hn : items.size ≤ sizeLine) (hS : s.heap.get? S = some { cls := .type "list", data := .seq #[] c0 })
    (hR : ∀ (h' : Heap) (tk : Nat) (acc : Array Value) (c' : Nat), (∀ b o, b ≠ S → b ≠ it → s.heap.get? b = some o → h'.get? b = some o) → h'.get? S = some { cls := .type "list", dict := none, data := .seq acc c', slots := #[] } →
      ItemsOf (fun i v => items[items.size - 1 - i]? = some v) acc items.size → R (.ok (.ret res)) { s with heap := h', toks := tk }) :
    wpAny (model prog w) A.in1 (Builtin.List.listExtendWith (.ref S) (.ref it) res)
      (fun fin s' => match fin with | .done f => R (.ok f) s' | .again c' => c'.quiet = true ∧ codeAny (model prog w) A c' R s') (fun e s' => R (.error e) s') s := by
  have W := (Walks.listRev (prog := prog) (w := w) (A := A.in1) hh it l hne items).toS
  have out : S ∉ [it, l] := by
    intro m
    rcases List.mem_cons.mp m with m | m
    · exact hSi m
    · exact hSl (List.mem_singleton.mp m)
  have same : Builtin.List.listSameRef (.ref S) (.ref it) = false := by simp [Builtin.List.listSameRef, hSi]
  have ty : s.TypeIs (.ref it) "list_reverseiterator" := Heap.IsRevIter.typeIs hit
  unfold Builtin.List.listExtendWith
  refine wpAny_bind (wpAny_typeOf ty ?_)
  rw [same, if_neg (by decide)]
  refine wpAny_bind (wpAny_pyIter_revIter hit (wpAny_bind (wpAny_holding ?_)))
  unfold Builtin.List.listLengthHint
  refine wpAny_bind (wpAny_specialOf ty RT.nolen_lri (wpAny_bind (wpAny_specialOf ty RT.hint_lri ?_)))
  generalize hid : ("list_reverseiterator.__length_hint__" : String) = name
  wp_delta
  rw [show splitId name = some ("list_reverseiterator", "__length_hint__") from by subst hid; decide +kernel]
  subst hid
  refine wpAny_bind (wpAny_isInstance (b := true) ty (by rw [isSubtype_type]; kernel_rfl) (wpAny_pure ?_))
  rw [if_neg (by decide)]
  have at0 : ((items.size : Nat) : Int) - 1 - ((0 : Nat) : Int) = (items.size : Int) - 1 := by omega
  refine wpAny_pure ⟨plainId_quiet F.plain_extend_loop _, codeAny_extend_loopS W hn _ out _ items.size 0 _ _ _ rfl (Nat.zero_le _) ⟨Nat.zero_le _, by rw [at0]; exact hit, hl⟩ hS (ItemsOf.nil _) fun s' acc c' hm hS' hacc => ?_⟩
  rw [Moved.eq_with hm]
  refine hR s'.heap s'.toks acc c' (fun b o hb hb2 e => hm.heap b o (fun m => ?_) e) hS' hacc
  rcases List.mem_cons.mp m with m | m
  · exact hb m
  · exact hb2 (List.mem_singleton.mp m)
theorem call_list_rev {Q : Value → Shared → Prop} {it l : Addr} {items : Array Value} (hh : A.handled = none) (hit : s.heap.IsRevIter it l ((items.size : Int) - 1)) (hl : s.heap.IsList l items) (hne : l ≠ it) (hn : items.size ≤ sizeLine)
    (hQ : ∀ (h' : Heap) (tk : Nat) (acc : Array Value) (c' : Nat), (∀ b o, b ≠ it → s.heap.get? b = some o → h'.get? b = some o) → h'.get? s.heap.objs.size = some { cls := .type "list", dict := none, data := .seq acc c', slots := #[] } →
      ItemsOf (fun i v => items[items.size - 1 - i]? = some v) acc items.size → Q (.ref s.heap.objs.size) { s with heap := h', toks := tk }) :
    wpAny (model prog w) A (call (.type "list") [.ref it]) Q E s := by
  refine callType_codes (Q₁ := fun obj s1 => obj = .ref s.heap.objs.size ∧ s1 = { s with heap := s.heap.push { cls := .type "list", data := .seq #[] } }) F.called_list (F.typeCall_list_1 _) F.entry_list_init (code_list_new _ ⟨rfl, rfl⟩) ?_
  rintro obj s1 ⟨rfl, rfl⟩
  have up : ∀ b o, s.heap.get? b = some o → (s.heap.push { cls := .type "list", data := .seq #[] }).get? b = some o := fun b o e => Heap.get?_push_of_some _ e
  have hS : (s.heap.push { cls := .type "list", data := .seq #[] }).get? s.heap.objs.size = some { cls := .type "list", data := .seq #[] } := Heap.get?_push_size _ rfl
  have hit1 : (s.heap.push { cls := .type "list", data := .seq #[] }).IsRevIter it l ((items.size : Int) - 1) := hit.at fun o e => up _ _ e
  obtain ⟨oi, hoi, _⟩ := id hit
  obtain ⟨ol, hol, _⟩ := id hl
  have ni : s.heap.objs.size ≠ it := Nat.ne_of_gt (Heap.lt_size hoi)
  have nl : s.heap.objs.size ≠ l := Nat.ne_of_gt (Heap.lt_size hol)
  refine ⟨⟨_, hS, rfl⟩, F.args_list_init_2 _ _, ?_⟩
  show wpAny _ _ (do let old ← Builtin.List.listItems (.ref s.heap.objs.size); Builtin.List.listUpdate (.ref s.heap.objs.size) (fun _ => #[]); letGo old.toList.reverse; Builtin.List.listExtendWith (.ref s.heap.objs.size) (.ref it) .none) _ _ _
  refine wpAny_bind ?_
  unfold Builtin.List.listItems
  refine wpAny_bind (wpAny_seqItems hS rfl (wpAny_pure ?_))
  show wpAny _ _ (updateSeq s.heap.objs.size (fun _ => #[]) >>= fun _ => letGo (#[] : Array Value).toList.reverse >>= fun _ => Builtin.List.listExtendWith (.ref s.heap.objs.size) (.ref it) .none) _ _ _
  refine wpAny_bind (wpAny_updateSeq hS rfl (wpAny_bind (wpAny_letGo ?_)))
  have keep : ∀ b o, b ≠ s.heap.objs.size → (s.heap.push { cls := .type "list", data := .seq #[] }).get? b = some o → ((s.heap.push { cls := .type "list", data := .seq #[] }).update s.heap.objs.size (Obj.mapSeq fun _ => #[])).get? b = some o :=
    fun b o hb e => (Heap.get?_update_other _ _ (Ne.symm hb)).trans e
  refine ext_rev (A := A.in1) (l := l) (items := items) hh ?_ ?_ hne ni nl hn (Heap.get?_update_self (Obj.mapSeq (fun _ => (#[] : Array Value))) hS rfl) fun h' tk acc c' hk hS' hacc => ?_
  · exact hit1.at fun o e => keep _ _ (Ne.symm ni) e
  · exact (hl.push _).at fun o e => keep _ _ (Ne.symm nl) e
  · refine ⟨rfl, hQ h' tk acc c' (fun b o hb e => ?_) hS' hacc⟩
    have nb : b ≠ s.heap.objs.size := Nat.ne_of_lt (Heap.lt_size e)
    exact hk b o nb hb (keep b o nb (up b o e))
end
def tListRev (K : PySem.W.Frag) (te : TE) : TE := fun st H Q => te st H fun v H1 => ∃ (a : Addr) (xs : List V), v = .ref a ∧ SqL K H1 a xs ∧ ∀ q, H1 q = none → Q (.ref q) (upd H1 q (.lst xs.reverse))
theorem pe_listRev {X : Cx} {e : Expr} {te : TE} {p p2 pos pos2 : Pos} (hc : X.calm = true) (hg : Gl X "list") (hm : X.mg "list" = none) (hg2 : Gl X "reversed") (hm2 : X.mg "reversed" = none) (he : PE X e te)
    (hs : starEach [e] X.env = (false, eval e X.env) :: starEach [] X.env := by rfl)
    (hs2 : starEach [.Call (.Name "reversed" p2) [e] [] pos2] X.env = (false, eval (.Call (.Name "reversed" p2) [e] [] pos2) X.env) :: starEach [] X.env := by rfl) :
    PE X (.Call (.Name "list" p) [.Call (.Name "reversed" p2) [e] [] pos2] [] pos) (tListRev X.K te) := by
  constructor
  intro pins s st H Q I h
  refine Call_ (ld_blt I hg hm boot_list (PyProof.Rows.callWith_type1 (args_cons (Call_ (ld_blt I hg2 hm2 PyProof.Rows.boot_reversed (PyProof.Rows.callWith_type1 (args_cons (thn (he.run pins s st H _ I h) ?_) hs) hs rfl))) hs2) hs2 rfl))
  rintro u s1 ⟨v, H1, I1, r1, a, xs, rfl, hq, q⟩
  obtain rfl : u = Value.ref a := r1
  obtain ⟨its, rv, p', hz⟩ := I1.list hq
  have hl := p'.isList
  obtain ⟨ol, hol, _⟩ := id hl
  have al : a < s1.heap.objs.size := Heap.lt_size hol
  refine args_nil (call_reversed_list hl (args_nil ?_))
  have up : ∀ b o, s1.heap.get? b = some o → (s1.heap.push (revObj a ((its.toArray.size : Int) - 1))).get? b = some o := fun b o e => Heap.get?_push_of_some _ e
  have hn : its.toArray.size ≤ sizeLine := by rw [List.size_toArray, ← rv.length]; exact hz
  have z : (s1.heap.push (revObj a ((its.toArray.size : Int) - 1))).objs.size = s1.heap.objs.size + 1 := Heap.size_push ..
  have I2 : Inv X pins st H1 { s1 with heap := s1.heap.push (revObj a ((its.toArray.size : Int) - 1)) } := I1.kept (t' := s1.toks) up
  obtain ⟨f0, f1, f2, f3, f4, f5⟩ := I1.fpOk (H' := H1) (b := s1.heap.objs.size) (Nat.le_refl _) (I1.hok.fresh (Nat.le_refl _))
  refine call_list_rev (s := { s1 with heap := s1.heap.push (revObj a ((its.toArray.size : Int) - 1)) }) (it := s1.heap.objs.size) (l := a) (items := its.toArray) (I1.ok.hd hc) ⟨_, Heap.get?_push_size _ rfl, rfl, rfl⟩ (hl.push _) (Nat.ne_of_lt al) hn fun h' tk acc c' hk hS hi => ?_
  rw [z] at hS ⊢
  have fresh : H1 (s1.heap.objs.size + 1) = none := I1.hok.fresh (Nat.le_succ _)
  refine ⟨.ref (s1.heap.objs.size + 1), upd H1 (s1.heap.objs.size + 1) (.lst xs.reverse), ?_, rfl, q _ fresh⟩
  have new : ObjOk X.prog X.w (upd H1 (s1.heap.objs.size + 1) (.lst xs.reverse)) h' (s1.heap.objs.size + 1) (.lst xs.reverse) :=
    ⟨by rw [List.length_reverse]; exact hz, acc.toList, c', RT.vals_rev rv hi, by rw [Array.toArray_toList]; exact hS⟩
  exact I2.turnedNew (t' := tk) (ch := [s1.heap.objs.size]) (fun b o hb e => hk b o (fun m => hb (by rw [m]; exact List.mem_singleton.mpr rfl)) e)
    (fun b hb => by have e := List.mem_singleton.mp hb; subst e; exact ⟨f0, f1, f2, f3, f4, f5⟩) (by show (s1.heap.push _).objs.size ≤ _; rw [z]; exact Nat.le_refl _) new
end KX

/-! KX4: the table of a set of up to 300 things, whatever their hashes: masks 7, 31, 127, 511. -/
namespace KX
open PySem PySem.Spec PyProof.Rows L2

/-! ### the round of i -> 5 i + 1 over a mask -/
/-- from anywhere each slot is met within a round -/
def FP (m : Nat) : Prop := ∀ i j, i ≤ m → j ≤ m → ∃ k, k ≤ m ∧ lcgI m i k = j
theorem fp_ok {m : Nat} (h : MaskOk m) : FP m := fun _ _ hi hj => lcgI_all h hi hj
/-- the slots of n steps from x, as bits -/
def orb (m : Nat) : Nat → Nat → Nat → Nat
  | 0, _, acc => acc
  | n + 1, x, acc => orb m n ((x * 5 + 1) % (m + 1)) (acc ||| 2 ^ x)
theorem lcgI_front (m i : Nat) : ∀ k, lcgI m ((i * 5 + 1) % (m + 1)) k = lcgI m i (k + 1)
  | 0 => rfl
  | k + 1 => by
    show (lcgI m ((i * 5 + 1) % (m + 1)) k * 5 + 1) % (m + 1) = (lcgI m i (k + 1) * 5 + 1) % (m + 1)
    rw [lcgI_front m i k]
theorem orb_bit (m : Nat) : ∀ (n x acc j : Nat), (orb m n x acc).testBit j = true → acc.testBit j = true ∨ ∃ k, k < n ∧ lcgI m x k = j
  | 0, _, _, _, h => .inl h
  | n + 1, x, acc, j, h => by
    rcases orb_bit m n _ _ j h with h | ⟨k, hk, e⟩
    · rw [Nat.testBit_or, Bool.or_eq_true] at h
      rcases h with h | h
      · exact .inl h
      · rw [Nat.testBit_two_pow] at h
        exact .inr ⟨0, Nat.succ_pos _, of_decide_eq_true h⟩
    · exact .inr ⟨k + 1, Nat.succ_lt_succ hk, by rw [← lcgI_front]; exact e⟩
set_option exponentiation.threshold 600 in
theorem orb_511 : orb 511 512 0 0 = 2 ^ 512 - 1 := by decide +kernel
theorem round_511 : lcgI 511 0 512 = 0 := by decide +kernel
theorem lcgI_two (m i a : Nat) : ∀ b, lcgI m (lcgI m i a) b = lcgI m i (a + b)
  | 0 => rfl
  | b + 1 => by
    show (lcgI m (lcgI m i a) b * 5 + 1) % (m + 1) = (lcgI m i (a + b) * 5 + 1) % (m + 1)
    rw [lcgI_two m i a b]
set_option exponentiation.threshold 600 in
theorem fp_511 : FP 511 := by
  have from0 : ∀ j, j ≤ 511 → ∃ k, k < 512 ∧ lcgI 511 0 k = j := by
    intro j hj
    have h : (orb 511 512 0 0).testBit j = true := by
      rw [orb_511, Nat.testBit_two_pow_sub_one]
      exact decide_eq_true (by omega)
    rcases orb_bit 511 512 0 0 j h with h | h
    · rw [Nat.zero_testBit] at h; cases h
    · exact h
  intro i j hi hj
  obtain ⟨a, ha, ea⟩ := from0 i hi
  obtain ⟨b, hb, eb⟩ := from0 j hj
  rcases Nat.lt_or_ge b a with c | c
  · refine ⟨512 - a + b, by omega, ?_⟩
    rw [← ea, lcgI_two, show a + (512 - a + b) = 512 + b by omega, ← lcgI_two, round_511, eb]
  · refine ⟨b - a, by omega, ?_⟩
    rw [← ea, lcgI_two, show a + (b - a) = b by omega, eb]

/-! ### each slot is met within the search's bound -/
section
variable {m : Nat}
theorem meets_run (fp : FP m) (h : Int) {j : Nat} (hj : j ≤ m) : ∃ n, n ≤ m + 12 ∧ runI m (SetTable.bits h) n = j := by
  obtain ⟨k, hk, e⟩ := fp _ j (runI_le m (SetTable.bits h) 12) hj
  exact ⟨12 + k, by omega, (runI_tail (bits_lt h) k).trans e⟩
theorem meets_way (fp : FP m) (h : Int) {j : Nat} (hj : j ≤ m) : ∃ k, k < 10 * SetTable.turns m ∧ way m h k = j := by
  obtain ⟨n, hn, e⟩ := meets_run fp h hj
  obtain ⟨k, hk, e2⟩ := run_nth m (SetTable.bits h) n
  refine ⟨k, ?_, ?_⟩
  · unfold SetTable.turns
    omega
  · show (nth m _ k).j = j
    rw [e2]
    exact e
theorem way_in (h : Int) (k : Nat) : way m h k ≤ m := by
  have a : SetTable.bits h % (m + 1) ≤ m := Nat.lt_succ_iff.mp (Nat.mod_lt _ (Nat.succ_pos m))
  have b := runEnd_bd a
  have c := nth_in (m := m) k (runAt m (SetTable.bits h % (m + 1)) (SetTable.bits h)) (by unfold runAt; dsimp only; omega)
  exact Nat.le_trans (Nat.le_add_right _ _) c
end

/-- a table in which each thing is found again from its hash -/
structure TabF (t : SetTable) (hs : List Int) : Prop where
  ris : Ris t.place.toList
  dm : t.dummies = #[]
  sz : t.place.size = hs.length
  odd : t.mask % 2 = 1
  fp : FP t.mask
  bd : ∀ x ∈ t.place.toList, x ≤ t.mask
  reach : ∀ (i : Nat) (h : Int) (j : Nat), hs[i]? = some h → t.place.toList[i]? = some j → ∃ k, way t.mask h k = j ∧ ∀ k', k' < k → way t.mask h k' ∈ t.place.toList
section
variable {t : SetTable} {hs : List Int}
theorem TabF.empty_slot (T : TabF t hs) (hl : hs.length ≤ t.mask) (h : Int) : ∃ n, n < 10 * SetTable.turns t.mask ∧ way t.mask h n ∉ t.place.toList ∧ ∀ k, k < n → way t.mask h k ∈ t.place.toList := by
  obtain ⟨j, hj, out⟩ := st_missing t.place.toList (t.mask + 1) (by rw [Array.length_toList, T.sz]; omega)
  obtain ⟨k, hk, e⟩ := meets_way T.fp h (Nat.lt_succ_iff.mp hj)
  obtain ⟨n, h1, h2, h3⟩ := st_least (p := fun k => way t.mask h k ∉ t.place.toList) k (by rw [e]; exact out)
  exact ⟨n, Nat.lt_of_le_of_lt h1 hk, h2, fun k' lt => Classical.byContradiction fun z => h3 k' lt z⟩
theorem TabF.ahead (T : TabF t hs) {h : Int} {n i j : Nat} (hn : way t.mask h n ∉ t.place.toList) (hi : hs[i]? = some h) (hj : t.place.toList[i]? = some j) : ∃ k, k < n ∧ way t.mask h k = j := by
  obtain ⟨k, e, hb⟩ := T.reach i h j hi hj
  refine ⟨k, ?_, e⟩
  rcases Nat.lt_or_ge k n with c | c
  · exact c
  · rcases Nat.lt_or_eq_of_le c with c | c
    · exact absurd (hb n c) hn
    · subst c
      exact absurd (e ▸ List.mem_of_getElem? hj) hn
/-- one more is put in, at the first empty slot of its way -/
theorem TabF.put (T : TabF t hs) {h : Int} {n j p : Nat} (ej : way t.mask h n = j) (ep : SetTable.below t.place j = p) (hn : j ∉ t.place.toList) (hb : ∀ k, k < n → way t.mask h k ∈ t.place.toList) :
    (t.put j).2 = p ∧ p ≤ hs.length ∧ TabF (t.put j).1 (hs.take p ++ h :: hs.drop p) ∧ (t.put j).1.mask = t.mask ∧ (t.put j).1.led = t.led ∧ (t.put j).1.fill = hs.length + 1 := by
  have hjm : j ≤ t.mask := ej ▸ way_in h n
  have hp : p ≤ t.place.size := ep ▸ (below_cut T.ris j).1
  have hpl : p ≤ t.place.toList.length := by rw [Array.length_toList]; exact hp
  have hph : p ≤ hs.length := T.sz ▸ hp
  have new : (t.put j).1.place.toList = t.place.toList.take p ++ j :: t.place.toList.drop p := ep ▸ put_place t j
  have old : ∀ {x}, x ∈ t.place.toList → x ∈ (t.put j).1.place.toList := fun {x} hx => by rw [new]; exact mem_ins.2 (.inr hx)
  have size : (t.put j).1.place.size = hs.length + 1 := by rw [← Array.length_toList, new, len_ins _ hpl, Array.length_toList, T.sz]
  have dm := put_dm T.dm j
  have none_there : t.place[SetTable.below t.place j]? ≠ some j := fun e => hn (List.mem_of_getElem? (by rw [Array.getElem?_toList]; exact e))
  refine ⟨ep, hph, ⟨ris_insert T.ris none_there, dm, by rw [size, len_ins _ hph], T.odd, T.fp, fun x hx => ?_, fun i h' j' h1 h2 => ?_⟩, rfl, rfl, ?_⟩
  · rw [new] at hx
    rcases mem_ins.1 hx with e | hx
    · exact e ▸ hjm
    · exact T.bd x hx
  · rw [tins_get hs hph] at h1
    rw [new, tins_get _ hpl] at h2
    show ∃ k, way t.mask h' k = j' ∧ ∀ k', k' < k → way t.mask h' k' ∈ (t.put j).1.place.toList
    by_cases c : i = p
    · rw [if_neg (by omega), if_pos c] at h1 h2
      cases h1
      cases h2
      exact ⟨n, ej, fun k lt => old (hb k lt)⟩
    · have back : ∃ i' : Nat, hs[i']? = some h' ∧ t.place.toList[i']? = some j' := by
        by_cases d : i < p
        · rw [if_pos d] at h1 h2
          exact ⟨i, h1, h2⟩
        · rw [if_neg d, if_neg c] at h1 h2
          exact ⟨i - 1, h1, h2⟩
      obtain ⟨i', g1, g2⟩ := back
      obtain ⟨k, e, z⟩ := T.reach i' h' j' g1 g2
      exact ⟨k, e, fun k' lt => old (z k' lt)⟩
  · show (t.put j).1.place.size + (t.put j).1.dummies.size = _
    rw [size, dm]
    rfl
end

/-! ### all laid anew -/
section
variable {m : Nat}
theorem free_slot_found (fp : FP m) (owner : Array (Option Nat)) (h : Int) {j : Nat} (hj : j ≤ m) (hf : oAt owner j = none) :
    ∃ n, SetTable.layClean.free m owner (SetTable.turns m) (SetTable.bits h % (m + 1)) (SetTable.bits h) = some (way m h n) ∧ oAt owner (way m h n) = none ∧ ∀ k, k < n → oAt owner (way m h k) ≠ none := by
  obtain ⟨r, hr, e⟩ := meets_run fp h hj
  have there : way m h (off m (SetTable.bits h % (m + 1)) (SetTable.bits h) r) = j := by
    show (nth m (runAt m _ _) _).j = j
    rw [nth_off, itL_run]
    exact e
  obtain ⟨n, n1, n2, n3⟩ := st_least (p := fun k => oAt owner (way m h k) = none) _ (show oAt owner (way m h (off m (SetTable.bits h % (m + 1)) (SetTable.bits h) r)) = none by rw [there]; exact hf)
  refine ⟨n, free_spec m owner (SetTable.turns m) r _ _ n ?_ n1 (fun k lt => ?_) ?_, n2, n3⟩
  · unfold SetTable.turns
    omega
  · exact Option.isNone_eq_false_iff.mpr (Option.isSome_iff_ne_none.mpr (n3 k lt))
  · exact Option.isNone_iff_eq_none.mpr n2
theorem own_step (fp : FP m) {done : List Int} {owner : Array (Option Nat)} (W : Own m done owner) (hl : done.length ≤ m) (h : Int) :
    ∃ j, SetTable.layClean.free m owner (SetTable.turns m) (SetTable.bits h % (m + 1)) (SetTable.bits h) = some j ∧ Own m (done ++ [h]) (owner.setIfInBounds j (some done.length)) := by
  obtain ⟨ps, hps, cov⟩ := W.ps
  obtain ⟨j0, lt0, out0⟩ := st_missing ps (m + 1) (by omega)
  have free0 : oAt owner j0 = none := Classical.byContradiction fun z => out0 (cov j0 (Nat.lt_succ_iff.mp lt0) z)
  obtain ⟨n, e1, e2, e3⟩ := free_slot_found fp owner h (Nat.lt_succ_iff.mp lt0) free0
  generalize ej : way m h n = j at e1 e2
  have jm : j ≤ m := ej ▸ way_in h n
  have js : j < owner.size := by rw [W.sz]; omega
  have self := oAt_set_self (some done.length) js
  have other : ∀ {i}, i ≠ j → oAt (owner.setIfInBounds j (some done.length)) i = oAt owner i := fun c => oAt_set_ne _ c
  have stays : ∀ {i}, oAt owner i ≠ none → oAt (owner.setIfInBounds j (some done.length)) i ≠ none := by
    intro i hi
    by_cases c : i = j
    · subst c
      rw [self]
      exact Option.some_ne_none _
    · rw [other c]
      exact hi
  refine ⟨j, e1, by rw [Array.size_setIfInBounds]; exact W.sz, fun i k hi e => ?_, fun k hk => ?_, j :: ps, by simp [hps], fun i hi e => ?_⟩
  · by_cases c : i = j
    · subst c
      rw [self] at e
      cases e
      exact ⟨h, n, by simp, ej, fun k' lt => stays (e3 k' lt)⟩
    · rw [other c] at e
      obtain ⟨h', n', a1, a2, a3⟩ := W.at_ i k hi e
      exact ⟨h', n', by rw [List.getElem?_append_left (List.getElem?_eq_some_iff.mp a1).1]; exact a1, a2, fun k' lt => stays (a3 k' lt)⟩
  · rw [List.length_append, List.length_singleton] at hk
    rcases Nat.lt_or_eq_of_le (Nat.lt_succ_iff.mp hk) with c | c
    · obtain ⟨i, hi, e⟩ := W.all k c
      have ne : i ≠ j := fun z => by rw [z, e2] at e; cases e
      exact ⟨i, hi, by rw [other ne]; exact e⟩
    · exact ⟨j, jm, by rw [self, c]⟩
  · by_cases c : i = j
    · exact c ▸ List.mem_cons_self
    · rw [other c] at e
      exact List.mem_cons_of_mem _ (cov i hi e)
theorem lay_all (fp : FP m) : ∀ (rest done : List Int) (owner : Array (Option Nat)), Own m done owner → done.length + rest.length ≤ m →
    ∃ owner', rest.foldl (stepF m) (some (owner, done.length)) = some (owner', done.length + rest.length) ∧ Own m (done ++ rest) owner'
  | [], done, owner, W, _ => ⟨owner, rfl, by rw [List.append_nil]; exact W⟩
  | h :: rest, done, owner, W, hl => by
    rw [List.length_cons] at hl
    obtain ⟨j, e, W1⟩ := own_step fp W (by omega) h
    have l1 : (done ++ [h]).length = done.length + 1 := by simp
    obtain ⟨owner', f, W2⟩ := lay_all fp rest (done ++ [h]) _ W1 (by rw [l1]; omega)
    rw [l1] at f
    rw [List.append_assoc] at W2
    refine ⟨owner', ?_, W2⟩
    rw [List.foldl_cons, stepF_some e, f, List.length_cons]
    congr 2
    omega
theorem lay_clean (fp : FP m) {hs : Array Int} (hn : hs.size ≤ m) : ∃ owner, SetTable.layClean m hs = some owner ∧ Own m hs.toList owner := by
  obtain ⟨owner, f, W⟩ := lay_all fp hs.toList [] _ (Own.init m) (by rw [Array.length_toList]; simpa using hn)
  have f : hs.toList.foldl (stepF m) (some (Array.replicate (m + 1) none, 0)) = some (owner, _) := f
  exact ⟨owner, by rw [layClean_eq, f]; rfl, W⟩
/-- the table laid anew over a greater mask -/
theorem relaid_F (t : SetTable) {hs : Array Int} {wanted : Nat} (hw : SetTable.sizeAbove wanted - 1 = m) (fp : FP m) (odd : m % 2 = 1) (hn : hs.size ≤ m) :
    ∃ t' order, t.relaid hs wanted = some (t', order) ∧ order.toList.Perm (List.range hs.size) ∧ TabF t' (order.toList.map fun i => hs.getD i 0) ∧ t'.mask = m ∧ t'.led = t.led := by
  obtain ⟨owner, e, W⟩ := lay_clean fp hn
  have told : t.relaid hs wanted = some (tabOf t m owner, ((liveOf m owner).map (·.2)).toArray) := by rw [relaid_eq, hw, e]; rfl
  have rise := ris_live (fun j => owner.getD j none) (List.range (m + 1)) List.pairwise_lt_range
  have r1 : Ris ((liveOf m owner).map (·.1)) := rise.1
  have r2 : ∀ x ∈ (liveOf m owner).map (·.1), x ∈ List.range (m + 1) := rise.2
  have covers : ∀ k, k < hs.size → k ∈ (liveOf m owner).map (·.2) := by
    intro k hk
    obtain ⟨j, b1, b2⟩ := W.all k (by rw [Array.length_toList]; exact hk)
    exact List.mem_map.mpr ⟨(j, k), (mem_live W.sz).2 ⟨b1, b2⟩, rfl⟩
  have len : (liveOf m owner).length = hs.size := by
    obtain ⟨ps, p1, p2⟩ := W.ps
    have nd : ((liveOf m owner).map (·.1)).Nodup := List.Pairwise.imp (fun lt => Nat.ne_of_lt lt) r1
    have a := nat_nodup_len ((liveOf m owner).map (·.1)) ps nd fun x hx => by
      obtain ⟨⟨y, k⟩, hq, rfl⟩ := List.mem_map.mp hx
      obtain ⟨b1, b2⟩ := (mem_live W.sz).1 hq
      exact p2 y b1 (by rw [b2]; exact Option.some_ne_none _)
    have b := nat_nodup_len (List.range hs.size) ((liveOf m owner).map (·.2)) List.nodup_range fun k hk => covers k (List.mem_range.mp hk)
    have z : hs.toList.length = hs.size := Array.length_toList
    rw [List.length_map, p1] at a
    rw [List.length_map, List.length_range] at b
    omega
  refine ⟨_, _, told, perm_range hs.size _ (by rw [List.toList_toArray, List.length_map]; exact len) (by rw [List.toList_toArray]; exact covers), ⟨r1, rfl, ?_, odd, fp, fun x hx => Nat.lt_succ_iff.mp (List.mem_range.mp (r2 x hx)), fun i h j h1 h2 => ?_⟩, rfl, rfl⟩
  · show ((liveOf m owner).map (·.1)).toArray.size = _
    simp
  · have h2 : ((liveOf m owner).map (·.1))[i]? = some j := h2
    rw [List.getElem?_map] at h2
    obtain ⟨⟨y, k⟩, hq, rfl⟩ := Option.map_eq_some_iff.mp h2
    have eh : hs.getD k 0 = h := by
      rw [List.toList_toArray, List.getElem?_map, List.getElem?_map, hq] at h1
      exact Option.some.inj h1
    obtain ⟨b1, b2⟩ := (mem_live W.sz).1 (List.mem_of_getElem? hq)
    obtain ⟨h0, n, a1, a2, a3⟩ := W.at_ y k b1 b2
    have e0 : h0 = h := by
      rw [← eh, Array.getD_eq_getD_getElem?, ← Array.getElem?_toList, a1]
      rfl
    subst e0
    refine ⟨n, a2, fun k' lt => ?_⟩
    show way m h0 k' ∈ (liveOf m owner).map (·.1)
    obtain ⟨k2, e2⟩ := Option.ne_none_iff_exists'.mp (a3 k' lt)
    exact List.mem_map.mpr ⟨(way m h0 k', k2), (mem_live W.sz).2 ⟨way_in _ _, e2⟩, rfl⟩
end
/-- the masks that come for fewer than 300 things -/
def Mask4 (m : Nat) : Prop := m = 7 ∨ m = 31 ∨ m = 127 ∨ m = 511
theorem Mask4.fp {m : Nat} (h : Mask4 m) : FP m := by
  rcases h with e | e | e | e
  · exact fp_ok (.inl e)
  · exact fp_ok (.inr (.inl e))
  · exact fp_ok (.inr (.inr e))
  · exact e ▸ fp_511
theorem Mask4.odd {m : Nat} (h : Mask4 m) : m % 2 = 1 := by
  rcases h with e | e | e | e <;> subst e <;> rfl
/-- when a table grows: the next mask -/
theorem grow4 {m n : Nat} (h : Mask4 m) (room : n * 5 < m * 3) (full : (n + 1) * 5 ≥ m * 3) (few : n + 1 < 300) :
    ∃ M, SetTable.sizeAbove (SetTable.grown (n + 1)) - 1 = M ∧ Mask4 M ∧ SetTable.sizeAbove (SetTable.grown (n + 1)) ≤ 512 ∧ (n + 1) * 5 < M * 3 ∧ n + 1 ≤ m := by
  rcases h with e | e | e | e
  · have en : n + 1 = 5 := by omega
    rw [en, e]
    exact ⟨31, by decide +kernel, .inr (.inl rfl), by decide +kernel, by decide, by decide⟩
  · have en : n + 1 = 19 := by omega
    rw [en, e]
    exact ⟨127, by decide +kernel, .inr (.inr (.inl rfl)), by decide +kernel, by decide, by decide⟩
  · have en : n + 1 = 77 := by omega
    rw [en, e]
    exact ⟨511, by decide +kernel, .inr (.inr (.inr rfl)), by decide +kernel, by decide, by decide⟩
  · omega
end KX

/-! KX5: a set of nested tuples (texts, ints, None) at the library's level: search, add, lay anew, set(a list). -/
namespace KX
open PySem PySem.Spec PyProof.Rows L2

abbrev NK := NestedKey
/-- at a stands the key k -/
def IsN (h : Heap) (k : NK) (a : Addr) : Prop := NestedIs h k (.ref a) ∧ k.depth ≤ 8
theorem IsN.inj {h : Heap} {k k' : NK} {a : Addr} (x : IsN h k a) (y : IsN h k' a) : k = k' := NestedIs.inj _ _ _ x.1 y.1
theorem IsN.keep {h h' : Heap} {k : NK} {a : Addr} (x : IsN h k a) (up : ∀ b o, h.get? b = some o → h'.get? b = some o) : IsN h' k a := ⟨NestedIs.at (fun b o _ _ e _ => up b o e) k _ x.1, x.2⟩
theorem IsN.same {h h' : Heap} {k : NK} {a b : Addr} {o : Obj} {es : Array (Int × Value)} {ep : Nat} {t : SetTable} (x : IsN h k b) (ho : h.get? a = some o) (hd : o.data = .set es ep t) (hs : Heap.SameBut a h h') : IsN h' k b :=
  ⟨NestedIs.at (fun c u vs n e ed => (hs.2 c fun z => by subst z; rw [ho] at e; cases e; rw [hd] at ed; cases ed).trans e) k _ x.1, x.2⟩
theorem IsN.tup {h : Heap} {k : NK} {a : Addr} (x : IsN h k a) : ∃ ks o vs n, k = .tup ks ∧ h.get? a = some o ∧ o.cls = .type "tuple" ∧ o.data = .seq vs n ∧ NestedAll h ks vs.toList := by
  obtain ⟨x, _⟩ := x
  cases x with
  | tup h1 h2 h3 h4 => exact ⟨_, _, _, _, rfl, h1, h2, h3, h4⟩

section
variable {P : Program} {w : World} {E : Value → Shared → Prop}
/-! ### small questions -/
/-- v is of no class statement, n levels down -/
def NoCls (P : Program) (w : World) (n : Nat) (s : Shared) (v : Value) : Prop := ∀ (A : Around) (E : Value → Shared → Prop) (Q : Bool → Shared → Prop), Q false s → wpAny (model P w) A (ofAClassStatement n v) Q E s
theorem NoCls.flat {n : Nat} {s : Shared} {v : Value} (h : ∀ n, ofAClassStatement n v = pure false) : NoCls P w n s v := fun A E Q q => by rw [h]; exact wpAny_pure q
theorem NoCls.tuple {n : Nat} {s : Shared} {a : Addr} {o : Obj} {vs : Array Value} {m : Nat} (ho : s.heap.get? a = some o) (hc : o.cls = .type "tuple") (hd : o.data = .seq vs m) (hq : ∀ v ∈ vs.toList, NoCls P w n s v) : NoCls P w (n + 1) s (.ref a) := by
  intro A E Q q
  unfold ofAClassStatement
  refine wpAny_bind (wpAny_typeOf (T := "tuple") ⟨o, ho, hc⟩ ?_)
  dsimp only
  simp only [show (("tuple" : String) == "tuple") = true from by decide, if_true]
  try refine wpAny_bind (wpAny_pure ?_)
  try simp only [Bool.not_true, Bool.false_eq_true, if_false]
  refine wpAny_bind (wpAny_seqItems ho hd ?_)
  dsimp only
  refine wpAny_bind ?_
  show wpAny _ _ (forIn vs _ _) _ _ s
  rw [← Array.forIn_toList]
  refine wpAny_forIn_list _ (fun rest r s' => r.1 = none ∧ s' = s ∧ ∀ v ∈ rest, NoCls P w n s v) _ ?_ ?_ _ _ ⟨rfl, rfl, hq⟩
  · rintro v rest r s' ⟨hr, rfl, all⟩
    refine wpAny_bind (all v List.mem_cons_self _ _ _ ?_)
    simp only [Bool.false_eq_true, if_false]
    exact wpAny_pure ⟨rfl, rfl, fun u hu => all u (List.mem_cons_of_mem _ hu)⟩
  · rintro ⟨r1, r2⟩ s' ⟨hr, rfl, _⟩
    cases hr
    exact wpAny_pure q
mutual
theorem noCls_key : ∀ (k : NK) (v : Value) (n : Nat) (s : Shared), NestedIs s.heap k v → k.depth ≤ n → NoCls P w n s v
  | .none, _, n, s, x, _ => by cases x; exact .flat fun n => by cases n <;> rfl
  | .num i, _, n, s, x, _ => by cases x <;> exact .flat fun n => by cases n <;> rfl
  | .text y, _, n, s, x, _ => by cases x; exact .flat fun n => by cases n <;> rfl
  | .tup ks, _, n, s, x, hn => by
    simp only [NestedKey.depth] at hn
    cases x with
    | tup h1 h2 h3 h4 =>
      cases n with
      | zero => omega
      | succ n => exact .tuple h1 h2 h3 (noCls_keys ks _ n s h4 (by omega))
theorem noCls_keys : ∀ (ks : List NK) (vs : List Value) (n : Nat) (s : Shared), NestedAll s.heap ks vs → NestedKey.depthAll ks ≤ n → ∀ v ∈ vs, NoCls P w n s v
  | [], _, n, s, x, _, v, hv => by cases x; cases hv
  | k :: ks, _, n, s, x, hn, v, hv => by
    simp only [NestedKey.depthAll] at hn
    cases x with
    | cons x1 x2 =>
      rcases List.mem_cons.mp hv with e | hv
      · exact e ▸ noCls_key k _ n s x1 (by omega)
      · exact noCls_keys ks _ n s x2 (by omega) v hv
end
/-- whether v's hash hangs on its value alone: one of the two -/
def TellsHash (P : Program) (w : World) (n : Nat) (s : Shared) (v : Value) : Prop := ∀ (A : Around) (E : Value → Shared → Prop) (Q : Bool → Shared → Prop), (∀ b, Q b s) → wpAny (model P w) A (hashByValue n v) Q E s
theorem TellsHash.flat {n : Nat} {s : Shared} {v : Value} (b : Bool) (h : ∀ n, hashByValue n v = pure b) : TellsHash P w n s v := fun A E Q q => by rw [h]; exact wpAny_pure (q b)
theorem TellsHash.tuple {n : Nat} {s : Shared} {a : Addr} {o : Obj} {vs : Array Value} {m : Nat} (ho : s.heap.get? a = some o) (hc : o.cls = .type "tuple") (hd : o.data = .seq vs m) (hq : ∀ v ∈ vs.toList, TellsHash P w n s v) : TellsHash P w (n + 1) s (.ref a) := by
  intro A E Q q
  unfold hashByValue
  refine wpAny_bind (wpAny_specialOf (T := "tuple") ⟨o, ho, hc⟩ F.slot_tuple_hash.lookup ?_)
  show wpAny _ _ (seqItems? (.ref a) >>= _) _ _ s
  refine wpAny_bind (wpAny_seqItems ho hd ?_)
  refine wpAny_bind ?_
  show wpAny _ _ (forIn vs _ _) _ _ s
  rw [← Array.forIn_toList]
  refine wpAny_forIn_list _ (fun rest r s' => r.1 = none ∧ s' = s ∧ ∀ v ∈ rest, TellsHash P w n s v) _ ?_ ?_ _ _ ⟨rfl, rfl, hq⟩
  · rintro v rest r s' ⟨hr, rfl, all⟩
    refine wpAny_bind (all v List.mem_cons_self _ _ _ fun b => ?_)
    cases b with
    | true =>
      simp only [Bool.not_true, Bool.false_eq_true, if_false]
      exact wpAny_pure ⟨rfl, rfl, fun u hu => all u (List.mem_cons_of_mem _ hu)⟩
    | false =>
      simp only [Bool.not_false, if_true]
      refine wpAny_pure ?_
      exact wpAny_pure (q false)
  · rintro ⟨r1, r2⟩ s' ⟨hr, rfl, _⟩
    cases hr
    exact wpAny_pure (q true)
mutual
theorem tells_key : ∀ (k : NK) (v : Value) (n : Nat) (s : Shared), NestedIs s.heap k v → k.depth ≤ n → TellsHash P w n s v
  | .none, _, n, s, x, _ => by cases x; exact .flat true fun n => by cases n <;> rfl
  | .num i, _, n, s, x, _ => by cases x <;> exact .flat true fun n => by cases n <;> rfl
  | .text y, _, n, s, x, _ => by cases x; exact .flat false fun n => by cases n <;> rfl
  | .tup ks, _, n, s, x, hn => by
    simp only [NestedKey.depth] at hn
    cases x with
    | tup h1 h2 h3 h4 =>
      cases n with
      | zero => omega
      | succ n => exact .tuple h1 h2 h3 (tells_keys ks _ n s h4 (by omega))
theorem tells_keys : ∀ (ks : List NK) (vs : List Value) (n : Nat) (s : Shared), NestedAll s.heap ks vs → NestedKey.depthAll ks ≤ n → ∀ v ∈ vs, TellsHash P w n s v
  | [], _, n, s, x, _, v, hv => by cases x; cases hv
  | k :: ks, _, n, s, x, hn, v, hv => by
    simp only [NestedKey.depthAll] at hn
    cases x with
    | cons x1 x2 =>
      rcases List.mem_cons.mp hv with e | hv
      · exact e ▸ tells_key k _ n s x1 (by omega)
      · exact tells_keys ks _ n s x2 (by omega) v hv
end
section
variable {A : Around} {s : Shared}
theorem quietN {k : NK} {b : Addr} {Q : Bool → Shared → Prop} (x : IsN s.heap k b) (q : Q true s) : wpAny (model P w) A (eqIsQuiet 8 (.ref b)) Q E s := quiet_key k _ 8 s x.1 x.2 A E Q q
/-- a search among such keys shows nothing -/
theorem unseenN {k : NK} {b : Addr} {Q : Bool → Shared → Prop} (x : IsN s.heap k b) {ys : List Value} (hy : ∀ y ∈ ys, ∃ k' c, y = Value.ref c ∧ IsN s.heap k' c) (q : Q false s) : wpAny (model P w) A (searchCouldBeSeen (.ref b) ys) Q E s := by
  unfold searchCouldBeSeen
  refine wpAny_bind ?_
  refine wpAny_forIn_list _ (fun rest r s' => r.1 = none ∧ s' = s ∧ ∀ y ∈ rest, ∃ k' c, y = Value.ref c ∧ IsN s.heap k' c) _ ?_ ?_ _ _ ⟨rfl, rfl, hy⟩
  · rintro v rest r s' ⟨hr, rfl, all⟩
    obtain ⟨k', c, rfl, y⟩ := all v List.mem_cons_self
    have more : ∀ y ∈ rest, ∃ k' c, y = Value.ref c ∧ IsN s'.heap k' c := fun u hu => all u (List.mem_cons_of_mem _ hu)
    dsimp only
    by_cases hv : (b == c || (carriedByValue (.ref b) && carriedByValue (.ref c))) = true
    · exact wp_if_pos hv (wpAny_pure ⟨rfl, rfl, more⟩)
    · refine wp_if_neg hv (wpAny_bind (quietN x ?_))
      simp only [Bool.not_true, Bool.false_eq_true, if_false]
      refine wpAny_bind (quietN y ?_)
      simp only [Bool.not_true, Bool.false_eq_true, if_false]
      refine wpAny_bind (noCls_key k _ 8 s' x.1 x.2 _ _ _ ?_)
      simp only [Bool.false_eq_true, if_false]
      refine wpAny_bind (noCls_key k' _ 8 s' y.1 y.2 _ _ _ ?_)
      simp only [Bool.false_eq_true, if_false]
      exact wpAny_pure ⟨rfl, rfl, more⟩
  · rintro ⟨r1, r2⟩ s' ⟨hr, rfl, _⟩
    cases hr
    exact wpAny_pure q
end
end

/-! ### the set -/
def hN (w : World) (k : NK) : Int := k.hash w
def rowsN (w : World) (L : List (Addr × NK)) : List (Int × Value) := L.map fun p => (hN w p.2, Value.ref p.1)
def hashesN (w : World) (L : List (Addr × NK)) : List Int := L.map fun p => hN w p.2
theorem rowsN_len (w : World) (L : List (Addr × NK)) : (rowsN w L).length = L.length := List.length_map _
theorem hashesN_len (w : World) (L : List (Addr × NK)) : (hashesN w L).length = L.length := List.length_map _
structure SetN (w : World) (h : Heap) (a : Addr) (L : List (Addr × NK)) (es : Array (Int × Value)) (ep : Nat) (t : SetTable) : Prop where
  ob : ∃ o, h.get? a = some o ∧ o.ExactSet ∧ o.data = .set es ep t
  rows : es.toList = rowsN w L
  tab : TabF t (hashesN w L)
  mask : Mask4 t.mask
  nd : (L.map (·.2)).Nodup
  keys : ∀ p ∈ L, IsN h p.2 p.1
  led : w.params.followText "set-order" = true ∨ t.led = true
  room : L.length * 5 < t.mask * 3
  few : L.length < 300
section
variable {w : World} {h : Heap} {a : Addr} {L : List (Addr × NK)} {es : Array (Int × Value)} {ep : Nat} {t : SetTable}
theorem SetN.size (R : SetN w h a L es ep t) : es.size = L.length := by rw [← Array.length_toList, R.rows, rowsN_len]
theorem fits_of {n : Nat} {hs : List Int} (T : TabF t hs) (hn : n = hs.length) (hm : n ≤ t.mask) : t.fits n = true := by
  unfold SetTable.fits SetTable.fill
  rw [T.dm, T.sz, Bool.and_eq_true, beq_iff_eq, decide_eq_true_eq]
  exact ⟨hn.symm, by show hs.length + 0 ≤ _; omega⟩
theorem SetN.fits (R : SetN w h a L es ep t) : t.fits es.size = true := by
  have := R.room
  exact fits_of R.tab (by rw [R.size, hashesN_len]) (by rw [R.size]; omega)
theorem SetN.entry (R : SetN w h a L es ep t) {i : Nat} {p : Addr × NK} (e : L[i]? = some p) : es[i]? = some (hN w p.2, Value.ref p.1) := by
  rw [← Array.getElem?_toList, R.rows, rowsN, List.getElem?_map, e]
  rfl
theorem SetN.stays (R : SetN w h a L es ep t) : ¬ t.gaveWay = true := by
  unfold SetTable.gaveWay
  rw [R.tab.odd]
  decide
theorem SetN.keep {h' : Heap} (R : SetN w h a L es ep t) (ha : ∀ o, h.get? a = some o → h'.get? a = some o) (hk : ∀ p ∈ L, IsN h' p.2 p.1) : SetN w h' a L es ep t := by
  obtain ⟨o, ho, r⟩ := R.ob
  exact ⟨⟨o, ha o ho, r⟩, R.rows, R.tab, R.mask, R.nd, hk, R.led, R.room, R.few⟩
end

/-! ### the search -/
/-- the search's first step for a hash, over a mask -/
abbrev first (m : Nat) (h : Int) : SetTable.Probe := runAt m (SetTable.bits h % (m + 1)) (SetTable.bits h)
theorem nth_clean (m : Nat) : ∀ (n : Nat) (p : SetTable.Probe), p.dummy = none → (nth m p n).dummy = none
  | 0, _, h => h
  | n + 1, p, h => nth_clean m n (adv m p) (by unfold adv; split <;> exact h)
section
variable {P : Program} {w : World} {A : Around} {E : Value → Shared → Prop} {s : Shared} {a : Addr} {L : List (Addr × NK)} {es : Array (Int × Value)} {ep : Nat} {t : SetTable}
theorem searchN (R : SetN w s.heap a L es ep t) {x : Addr} {k : NK} (hx : IsN s.heap k x) (hu : A.units + 8 < cLine) {h : Int} (eh : hN w k = h) {n : Nat} (hn : n < 10 * SetTable.turns t.mask)
    (out : way t.mask h n ∉ t.place.toList) (before : ∀ c, c < n → way t.mask h c ∈ t.place.toList) {Q : SetFound → Shared → Prop}
    (qin : k ∈ L.map (·.2) → Q (.there none) s) (qout : k ∉ L.map (·.2) → Q (.free (way t.mask h n) false) s) :
    ∀ (f c : Nat) (stand : Option SetTable.Probe), stand.getD (t.probeStart h) = nth t.mask (first t.mask h) c → c ≤ n → n - c < f →
      (∀ (i : Nat) p, L[i]? = some p → p.2 = k → ∃ c', c ≤ c' ∧ c' < n ∧ t.place.toList[i]? = some (way t.mask h c')) →
      wpAny (model P w) A (setSearchFrom a (.ref x) h true f stand) Q E s := by
  obtain ⟨o, ho, hex, hd⟩ := R.ob
  intro f
  induction f with
  | zero => intro c stand _ _ hf _; exact absurd hf (Nat.not_lt_zero _)
  | succ f ih =>
    intro c stand hst hc hf left
    have clean : (nth t.mask (first t.mask h) c).dummy = none := nth_clean _ _ _ rfl
    have shift : ∀ q, nth t.mask (nth t.mask (first t.mask h) c) q = nth t.mask (first t.mask h) (c + q) := fun q => (nth_add t.mask c _ q).symm
    have at_ : ∀ q, (nth t.mask (nth t.mask (first t.mask h) c) q).j = way t.mask h (c + q) := fun q => congrArg SetTable.Probe.j (shift q)
    have hashAt : ∀ (i : Nat) p, L[i]? = some p → ((es[i]?.map (·.1)).getD 0) = hN w p.2 := fun i p hp => by rw [R.entry hp]; rfl
    have spec := go_spec t R.tab.ris R.tab.dm (fun i => (es[i]?.map (·.1)).getD 0) h (10 * SetTable.turns t.mask) (n - c) _ clean (by omega)
      (fun q hq => by rw [at_]; exact before (c + q) (by omega)) (by rw [at_, show c + (n - c) = n by omega]; exact out)
    rw [setSearchFrom_succ]
    refine wpAny_bind (wpAny_setState_of ho hd R.fits ?_)
    dsimp only
    refine wp_if_neg R.stays ?_
    try refine wpAny_bind (wpAny_pure ?_)
    rcases spec with ⟨q, i, hq, hi, hh, hno, met⟩ | ⟨hno, met⟩
    · have met' : t.probe (fun i => (es[i]?.map (·.1)).getD 0) h (stand.getD (t.probeStart h)) = some (.candidate (way t.mask h (c + q)) i (nth t.mask (first t.mask h) (c + (q + 1)))) := by
        rw [hst, ← at_, ← shift]
        exact met
      rw [met']
      dsimp only
      rw [at_] at hi
      have hil : i < L.length := by
        have l1 : i < t.place.toList.length := (List.getElem?_eq_some_iff.mp hi).1
        rw [Array.length_toList, R.tab.sz, hashesN_len] at l1
        exact l1
      obtain ⟨p, hp⟩ : ∃ p, L[i]? = some p := ⟨L[i], List.getElem?_eq_getElem hil⟩
      have pm : p ∈ L := List.mem_of_getElem? hp
      have slot : t.slot (way t.mask h (c + q)) = .live i := slot_live R.tab.ris hi
      have cand : wpAny (model P w) A (searchRest a (.ref x) h true f es t (way t.mask h (c + q)) i (nth t.mask (first t.mask h) (c + (q + 1)))) Q E s := by
        unfold searchRest
        rw [R.entry hp]
        dsimp only
        refine wpAny_bind (wpAny_holding ((nestedKind P w).eqBool (x := p.2) (y := k) hu (R.keys p pm) hx ?_))
        refine wpAny_bind (wpAny_setState_of ho hd R.fits ?_)
        dsimp only
        by_cases hkk : p.2 = k
        · exact wp_if_pos (by simp [hkk]) (wpAny_pure (qin (List.mem_map.mpr ⟨p, pm, hkk⟩)))
        · refine wp_if_neg (by simp [hkk]) ?_
          try refine wpAny_bind (wpAny_pure ?_)
          rw [sameMem]
          dsimp only
          simp only [if_true, slot, R.entry hp]
          refine wpAny_bind (wpAny_isSame_ref_self (wpAny_bind (wpAny_pure ?_)))
          simp only [if_true]
          refine wp_if_neg (by simp [hkk]) ?_
          refine ih (c + (q + 1)) _ rfl (by omega) (by omega) fun i0 p0 h0 k0 => ?_
          obtain ⟨c', a1, a2, a3⟩ := left i0 p0 h0 k0
          refine ⟨c', ?_, a2, a3⟩
          rcases Nat.lt_trichotomy c' (c + q) with z | z | z
          · refine (hno (c' - c) i0 (by omega) (by rw [at_, show c + (c' - c) = c' by omega]; exact a3) ?_).elim
            exact (hashAt i0 p0 h0).trans (by rw [k0, eh])
          · subst z
            have s0 := slot_live R.tab.ris a3
            rw [slot] at s0
            injection s0 with s0
            subst s0
            rw [hp] at h0
            cases h0
            exact absurd k0 hkk
          · omega
      by_cases hl : t.led = true
      · refine wp_if_neg (by simp [hl]) ?_
        try refine wpAny_bind (wpAny_pure ?_)
        exact cand
      · refine wp_if_pos (by simp [hl]) (wpAny_bind (unseenN hx (fun y hy => ?_) ?_))
        · obtain ⟨e, he, ee⟩ := List.mem_map.mp hy
          have he1 : e ∈ es ∧ e.1 = h := by simpa using he
          have he2 : e ∈ es.toList := by simpa using he1.1
          rw [R.rows] at he2
          obtain ⟨p2, hp2, e2⟩ := List.mem_map.mp he2
          exact ⟨p2.2, p2.1, by rw [← ee, ← e2], R.keys p2 hp2⟩
        · refine wp_if_neg (by decide) ?_
          try refine wpAny_bind (wpAny_pure ?_)
          exact cand
    · have met' : t.probe (fun i => (es[i]?.map (·.1)).getD 0) h (stand.getD (t.probeStart h)) = some (.empty (way t.mask h n) none) := by
        have e2 : way t.mask h n = (nth t.mask (nth t.mask (first t.mask h) c) (n - c)).j := by rw [at_, show c + (n - c) = n by omega]
        rw [hst, e2]
        exact met
      rw [met']
      dsimp only
      refine wpAny_pure (qout fun hm => ?_)
      obtain ⟨p0, h0, k0⟩ := List.mem_map.mp hm
      obtain ⟨i0, lt0, e0⟩ := List.getElem_of_mem h0
      have h00 : L[i0]? = some p0 := by rw [List.getElem?_eq_getElem lt0, e0]
      obtain ⟨c', a1, a2, a3⟩ := left i0 p0 h00 k0
      exact hno (c' - c) i0 (by omega) (by rw [at_, show c + (c' - c) = c' by omega]; exact a3) ((hashAt i0 p0 h00).trans (by rw [k0, eh]))
theorem searchN_all (R : SetN w s.heap a L es ep t) {x : Addr} {k : NK} (hx : IsN s.heap k x) (hu : A.units + 8 < cLine) {Q : SetFound → Shared → Prop}
    (qin : k ∈ L.map (·.2) → Q (.there none) s)
    (qout : ∀ n, k ∉ L.map (·.2) → way t.mask (hN w k) n ∉ t.place.toList → (∀ c, c < n → way t.mask (hN w k) c ∈ t.place.toList) → Q (.free (way t.mask (hN w k) n) false) s) :
    wpAny (model P w) A (setSearch a (.ref x) (hN w k) true) Q E s := by
  have room := R.room
  obtain ⟨n, n1, n2, n3⟩ := R.tab.empty_slot (by rw [hashesN_len]; omega) (hN w k)
  have big : n < 100000 := by
    have : 10 * SetTable.turns t.mask ≤ 5300 := by
      unfold SetTable.turns
      rcases R.mask with e | e | e | e <;> omega
    omega
  unfold setSearch
  refine searchN R hx hu rfl n1 n2 n3 qin (fun z => qout n z n2 n3) 100000 0 none rfl (Nat.zero_le _) (by omega) fun i p hp hk => ?_
  have hi : (hashesN w L)[i]? = some (hN w k) := by rw [hashesN, List.getElem?_map, hp, ← hk]; rfl
  have il : i < t.place.toList.length := by
    rw [Array.length_toList, R.tab.sz, hashesN_len]
    exact (List.getElem?_eq_some_iff.mp hp).1
  have hj := List.getElem?_eq_getElem il
  obtain ⟨c, c1, c2⟩ := R.tab.ahead n2 hi hj
  exact ⟨c, Nat.zero_le _, c1, by rw [c2]; exact hj⟩
end
end KX

/-! KX6: the order of tuples of tuples of texts, and how the sort asks it. -/
namespace KX
open PySem PySem.Spec PyProof.Rows L2

/-! ### lexicographic orders -/
structure Lin {α : Type} (lt : α → α → Bool) : Prop where
  irr : ∀ x, lt x x = false
  tr : ∀ x y z, lt x y = true → lt y z = true → lt x z = true
  tri : ∀ x y, lt x y = false → lt y x = false → x = y
theorem Lin.swo {α : Type} {lt : α → α → Bool} (h : Lin lt) : SrtO.Swo lt where
  asym := fun x y a => by
    cases b : lt y x with
    | false => rfl
    | true => have := h.tr x y x a b; rw [h.irr] at this; cases this
  tr := fun x y z a b => by
    cases c : lt z x with
    | false => rfl
    | true =>
      cases d : lt x y with
      | true => have := h.tr z x y c d; rw [b] at this; cases this
      | false =>
        have := h.tri x y d a
        subst this
        rw [b] at c
        cases c
def lexL {α : Type} [DecidableEq α] (lt : α → α → Bool) : List α → List α → Bool
  | [], [] => false
  | [], _ :: _ => true
  | _ :: _, [] => false
  | x :: xs, y :: ys => if x = y then lexL lt xs ys else lt x y
theorem lexL_lin {α : Type} [DecidableEq α] {lt : α → α → Bool} (h : Lin lt) : Lin (lexL lt) where
  irr := fun xs => by
    induction xs with
    | nil => rfl
    | cons x xs ih => show (if x = x then lexL lt xs xs else lt x x) = false; rw [if_pos rfl]; exact ih
  tr := fun xs => by
    induction xs with
    | nil =>
      intro ys zs a b
      cases ys with
      | nil => cases a
      | cons y ys =>
        cases zs with
        | nil => cases b
        | cons z zs => rfl
    | cons x xs ih =>
      intro ys zs a b
      cases ys with
      | nil => cases a
      | cons y ys =>
        cases zs with
        | nil => cases b
        | cons z zs =>
          have a : (if x = y then lexL lt xs ys else lt x y) = true := a
          have b : (if y = z then lexL lt ys zs else lt y z) = true := b
          show (if x = z then lexL lt xs zs else lt x z) = true
          by_cases e1 : x = y
          · subst e1
            rw [if_pos rfl] at a
            by_cases e2 : x = z
            · subst e2
              rw [if_pos rfl] at b
              rw [if_pos rfl]
              exact ih ys zs a b
            · rw [if_neg e2] at b
              rw [if_neg e2]
              exact b
          · rw [if_neg e1] at a
            by_cases e2 : y = z
            · subst e2
              rw [if_neg e1]
              exact a
            · rw [if_neg e2] at b
              have c := h.tr x y z a b
              have e3 : ¬ x = z := fun e => by subst e; rw [h.irr] at c; cases c
              rw [if_neg e3]
              exact c
  tri := fun xs => by
    induction xs with
    | nil =>
      intro ys a b
      cases ys with
      | nil => rfl
      | cons y ys => cases a
    | cons x xs ih =>
      intro ys a b
      cases ys with
      | nil => cases b
      | cons y ys =>
        have a : (if x = y then lexL lt xs ys else lt x y) = false := a
        have b : (if y = x then lexL lt ys xs else lt y x) = false := b
        by_cases e : x = y
        · subst e
          rw [if_pos rfl] at a b
          rw [ih ys a b]
        · rw [if_neg e] at a
          rw [if_neg (Ne.symm e)] at b
          exact absurd (h.tri x y a b) e
def ltS (x y : Str) : Bool := decide (x.cps.toList < y.cps.toList)
theorem ltS_lin : Lin ltS where
  irr := fun x => decide_eq_false (List.lt_irrefl _)
  tr := fun x y z a b => decide_eq_true (List.lt_trans (of_decide_eq_true a) (of_decide_eq_true b))
  tri := fun x y a b => by
    have a : ¬ x.cps.toList < y.cps.toList := of_decide_eq_false a
    have b : ¬ y.cps.toList < x.cps.toList := of_decide_eq_false b
    have e : x.cps.toList = y.cps.toList := List.le_antisymm (List.not_lt.mp b) (List.not_lt.mp a)
    cases x
    cases y
    congr
    exact Array.toList_inj.mp e
abbrev K1 := List Str
abbrev K2 := List (List Str)
abbrev lt1 : K1 → K1 → Bool := lexL ltS
abbrev ltK : K2 → K2 → Bool := lexL lt1
theorem ltK_lin : Lin ltK := lexL_lin (lexL_lin ltS_lin)

/-! ### the first place that differs -/
open SeqAt in
theorem firstLt_map (e r : Nat → Bool) (fin : Bool) (f : Nat → Nat) : ∀ l : List Nat, firstLt e r fin (l.map f) = firstLt (fun j => e (f j)) (fun j => r (f j)) fin l
  | [] => rfl
  | j :: t => by
    show (if e (f j) = true then firstLt e r fin (t.map f) else r (f j)) = _
    rw [firstLt_map e r fin f t]
    rfl
open SeqAt in
theorem firstLt_lex {α : Type} [DecidableEq α] (lt : α → α → Bool) (d : α) : ∀ xs ys : List α,
    firstLt (fun j => decide (xs.getD j d = ys.getD j d)) (fun j => lt (xs.getD j d) (ys.getD j d)) (decide (xs.length < ys.length)) (List.range (min xs.length ys.length)) = lexL lt xs ys
  | [], [] => rfl
  | [], _ :: _ => by simp [firstLt, lexL]
  | _ :: _, [] => by simp [firstLt, lexL]
  | x :: xs, y :: ys => by
    have ih := firstLt_lex lt d xs ys
    have e1 : min (x :: xs).length (y :: ys).length = min xs.length ys.length + 1 := by simp only [List.length_cons]; omega
    have e2 : decide ((x :: xs).length < (y :: ys).length) = decide (xs.length < ys.length) := by simp
    rw [e1, List.range_succ_eq_map, e2]
    show (if decide (x = y) = true then firstLt _ _ _ ((List.range (min xs.length ys.length)).map Nat.succ) else lt x y) = if x = y then lexL lt xs ys else lt x y
    rw [firstLt_map]
    by_cases e : x = y
    · rw [if_pos (decide_eq_true e), if_pos e]
      exact ih
    · rw [if_neg (by simpa using e), if_neg e]

/-! ### the keys -/
def nk1 (l : K1) : NK := .tup (l.map .text)
def nk2 (p : K2) : NK := .tup (p.map nk1)
theorem map_inj {α β : Type} {f : α → β} (h : ∀ x y, f x = f y → x = y) : ∀ {l m : List α}, l.map f = m.map f → l = m
  | [], [], _ => rfl
  | [], _ :: _, e => by cases e
  | _ :: _, [], e => by cases e
  | x :: l, y :: m, e => by
    rw [List.map_cons, List.map_cons] at e
    injection e with e1 e2
    rw [h x y e1, map_inj h e2]
theorem nk1_inj (l m : K1) (e : nk1 l = nk1 m) : l = m := by
  injection e with e
  exact map_inj (fun x y e => by injection e) e
theorem nk2_inj (p q : K2) (e : nk2 p = nk2 q) : p = q := by
  injection e with e
  exact map_inj nk1_inj e
theorem depth_all {f : NK → Prop} {n : Nat} : ∀ {ks : List NK}, (∀ k ∈ ks, k.depth ≤ n) → NestedKey.depthAll ks ≤ n
  | [], _ => Nat.zero_le _
  | k :: ks, h => by
    show max _ _ ≤ n
    exact Nat.max_le.mpr ⟨h k List.mem_cons_self, depth_all (f := f) fun x hx => h x (List.mem_cons_of_mem _ hx)⟩
theorem nk1_depth (l : K1) : (nk1 l).depth ≤ 1 := by
  show NestedKey.depthAll _ + 1 ≤ 1
  have := depth_all (f := fun _ => True) (n := 0) (ks := l.map NestedKey.text) fun k hk => by
    obtain ⟨x, _, rfl⟩ := List.mem_map.mp hk
    exact Nat.le_refl _
  omega
theorem nk2_depth (p : K2) : (nk2 p).depth ≤ 2 := by
  show NestedKey.depthAll _ + 1 ≤ 2
  have := depth_all (f := fun _ => True) (n := 1) (ks := p.map nk1) fun k hk => by
    obtain ⟨x, _, rfl⟩ := List.mem_map.mp hk
    exact nk1_depth x
  omega
/-! ### comparing, by values -/
section
open SeqAt
variable {A : Around} {s : Shared}
/-- u is to be read as x: equal, less -/
structure Side {α : Type} [DecidableEq α] (lt : α → α → Bool) (A : Around) (s : Shared) (x y : α) (u v : Value) : Prop where
  eq : EqAt A s u v (decide (x = y))
  less : RcLt A s u v (lt x y)
theorem beq_dec (x y : NK) : NestedKey.beq x y = decide (x = y) := (NestedKey.decide_eq x y).symm
theorem side_text (x y : Str) (t u : Tok) : Side ltS A s x y (.str x t) (.str y u) where
  eq := (EqAt.str_str x t y u).cast rfl
  less := fun prog w E Q h => lt_str h
theorem nestedAll_get {h : Heap} : ∀ {ks : List NK} {vs : List Value}, NestedAll h ks vs → ks.length = vs.length ∧ ∀ (j : Nat) (k : NK) (v : Value), ks[j]? = some k → vs[j]? = some v → NestedIs h k v
  | [], _, x => by cases x; exact ⟨rfl, fun j k v e => by simp at e⟩
  | k :: ks, _, x => by
    cases x with
    | cons x1 x2 =>
      obtain ⟨l, r⟩ := nestedAll_get x2
      refine ⟨by rw [List.length_cons, List.length_cons, l], fun j k' v e1 e2 => ?_⟩
      cases j with
      | zero => cases e1; cases e2; exact x1
      | succ j => exact r j k' v (by simpa using e1) (by simpa using e2)
/-- what the library's own comparison of tuples asks -/
theorem tups_facts {α : Type} [DecidableEq α] {lt : α → α → Bool} {f : α → NK} (d : α)
    (items : ∀ (x y : α) (u v : Value), NestedIs s.heap (f x) u → NestedIs s.heap (f y) v → Side lt A.in1 s x y u v)
    {xs ys : List α} {a b : Addr} (ha : NestedIs s.heap (.tup (xs.map f)) (.ref a)) (hb : NestedIs s.heap (.tup (ys.map f)) (.ref b)) :
    ∃ (vs us : Array Value) (e r : Nat → Bool), s.heap.IsTuple a vs ∧ s.heap.IsTuple b us ∧ (∀ j (p1 : j < vs.size) (p2 : j < us.size), EqAt A.in1 s vs[j] us[j] (e j)) ∧
      (∀ j (p1 : j < vs.size) (p2 : j < us.size), e j = false → RcLt A.in1 s vs[j] us[j] (r j)) ∧ firstLt e r (decide (vs.size < us.size)) (List.range (min vs.size us.size)) = lexL lt xs ys := by
  cases ha with
  | @tup _ o vs n _ h1 h2 h3 h4 =>
    cases hb with
    | @tup _ o' vs' n' _ k1 k2 k3 k4 =>
      obtain ⟨l1, g1⟩ := nestedAll_get h4
      obtain ⟨l2, g2⟩ := nestedAll_get k4
      have l1' : xs.length = vs.size := by rw [List.length_map] at l1; exact l1.trans Array.length_toList
      have l2' : ys.length = vs'.size := by rw [List.length_map] at l2; exact l2.trans Array.length_toList
      have sides : ∀ j (p1 : j < vs.size) (p2 : j < vs'.size), Side lt A.in1 s (xs.getD j d) (ys.getD j d) vs[j] vs'[j] := by
        intro j p1 p2
        have q1 : j < xs.length := by omega
        have q2 : j < ys.length := by omega
        have e1 : xs.getD j d = xs[j] := by rw [List.getD_eq_getElem?_getD, List.getElem?_eq_getElem q1]; rfl
        have e2 : ys.getD j d = ys[j] := by rw [List.getD_eq_getElem?_getD, List.getElem?_eq_getElem q2]; rfl
        rw [e1, e2]
        refine items _ _ _ _ (g1 j _ _ ?_ ?_) (g2 j _ _ ?_ ?_)
        · rw [List.getElem?_map, List.getElem?_eq_getElem q1]; rfl
        · rw [Array.getElem?_toList]; exact Array.getElem?_eq_getElem p1
        · rw [List.getElem?_map, List.getElem?_eq_getElem q2]; rfl
        · rw [Array.getElem?_toList]; exact Array.getElem?_eq_getElem p2
      refine ⟨vs, vs', fun j => decide (xs.getD j d = ys.getD j d), fun j => lt (xs.getD j d) (ys.getD j d), ⟨_, h1, h2, _, h3⟩, ⟨_, k1, k2, _, k3⟩,
        fun j p1 p2 => (sides j p1 p2).eq, fun j p1 p2 _ => (sides j p1 p2).less, ?_⟩
      rw [← l1', ← l2', firstLt_lex lt d xs ys]
/-- tuples of things that compare -/
theorem less_tups {α : Type} [DecidableEq α] {lt : α → α → Bool} {f : α → NK} (d : α) (hu : A.units < cLine)
    (items : ∀ (x y : α) (u v : Value), NestedIs s.heap (f x) u → NestedIs s.heap (f y) v → Side lt A.in1 s x y u v)
    {xs ys : List α} {a b : Addr} (ha : NestedIs s.heap (.tup (xs.map f)) (.ref a)) (hb : NestedIs s.heap (.tup (ys.map f)) (.ref b)) : RcLt A s (.ref a) (.ref b) (lexL lt xs ys) := by
  obtain ⟨vs, us, e, r, t1, t2, h1, h2, h3⟩ := tups_facts d items ha hb
  rw [← h3]
  exact RcLt.tuples t1 t2 hu h1 h2
theorem call_tups {prog : Program} {w : World} {E Q : Value → Shared → Prop} {α : Type} [DecidableEq α] {lt : α → α → Bool} {f : α → NK} (d : α)
    (items : ∀ (x y : α) (u v : Value), NestedIs s.heap (f x) u → NestedIs s.heap (f y) v → Side lt A.in1 s x y u v)
    {xs ys : List α} {a b : Addr} (ha : NestedIs s.heap (.tup (xs.map f)) (.ref a)) (hb : NestedIs s.heap (.tup (ys.map f)) (.ref b))
    (h : Q (.bool (lexL lt xs ys)) s) : wpAny (model prog w) A (call (.builtin "tuple.__lt__") [.ref a, .ref b]) Q E s := by
  obtain ⟨vs, us, e, r, t1, t2, h1, h2, h3⟩ := tups_facts d items ha hb
  rw [← h3] at h
  obtain ⟨⟨cls, dd, data, sl⟩, ho, hc, n, hd⟩ := id t1
  obtain ⟨⟨cls2, dd2, data2, sl2⟩, ho2, hc2, n2, hd2⟩ := id t2
  simp only at hc hd hc2 hd2
  subst hc hd hc2 hd2
  exact call_meets F.slot_tuple_lt ⟨_, ho, rfl⟩ F.entry_tuple_lt (F.args_tuple_lt_2 _ _) (tuple_ltAt a b vs us n n2 dd dd2 sl sl2 e r) ⟨ho, ho2, h1, h2, h⟩
theorem side_key {α : Type} [DecidableEq α] {lt : α → α → Bool} {f : α → NK} (inj : ∀ x y, f x = f y → x = y) {x y : α} {u v : Value} (hu : A.units + min (f x).depth (f y).depth < cLine)
    (hx : NestedIs s.heap (f x) u) (hy : NestedIs s.heap (f y) v) (less : RcLt A s u v (lt x y)) : Side lt A s x y u v where
  eq := (eqAt_key _ _ A s u v hx hy hu).cast (by
    rw [beq_dec]
    by_cases e : x = y
    · rw [e]; simp
    · rw [decide_eq_false e, decide_eq_false fun z => e (inj _ _ z)])
  less := less
theorem side0 {x y : Str} {u v : Value} (hx : NestedIs s.heap (.text x) u) (hy : NestedIs s.heap (.text y) v) : Side ltS A s x y u v := by
  cases hx
  cases hy
  exact side_text _ _ _ _
theorem side1 {x y : K1} {u v : Value} (hu : A.units + 2 < cLine) (hx : NestedIs s.heap (nk1 x) u) (hy : NestedIs s.heap (nk1 y) v) : Side lt1 A s x y u v := by
  have d1 := nk1_depth x
  refine side_key (f := nk1) nk1_inj (by omega) hx hy ?_
  obtain ⟨a, rfl⟩ : ∃ a, u = .ref a := by cases hx; exact ⟨_, rfl⟩
  obtain ⟨b, rfl⟩ : ∃ b, v = .ref b := by cases hy; exact ⟨_, rfl⟩
  exact less_tups (f := NestedKey.text) Str.empty (by omega) (fun x y u v h k => side0 h k) hx hy
theorem side2 {x y : K2} {u v : Value} (hu : A.units + 4 < cLine) (hx : NestedIs s.heap (nk2 x) u) (hy : NestedIs s.heap (nk2 y) v) : Side ltK A s x y u v := by
  have d1 := nk2_depth x
  refine side_key (f := nk2) nk2_inj (by omega) hx hy ?_
  obtain ⟨a, rfl⟩ : ∃ a, u = .ref a := by cases hx; exact ⟨_, rfl⟩
  obtain ⟨b, rfl⟩ : ∃ b, v = .ref b := by cases hy; exact ⟨_, rfl⟩
  exact less_tups (f := nk1) [] (by omega) (fun x y u v h k => side1 (by show A.units + 1 + 2 < _; omega) h k) hx hy
end
end KX

/-! KX7: the sort of products. -/
namespace KX
open PySem PySem.Spec PyProof.Rows L2 PySem.W

section
variable {M : Model} {A : Around} {E : Value → Shared → Prop} {s : Shared}
theorem mapM_det {α β : Type} {f : α → Sem β} {r : α → β} : ∀ (l : List α) {Q : List β → Shared → Prop}, (∀ v ∈ l, ∀ (Q' : β → Shared → Prop), Q' (r v) s → wpAny M A (f v) Q' E s) → Q (l.map r) s → wpAny M A (l.mapM f) Q E s
  | [], _, _, h => by rw [List.mapM_nil]; exact wpAny_pure h
  | x :: l, Q, hf, h => by
    rw [List.mapM_cons]
    exact wpAny_bind (hf x (.head _) _ (wpAny_bind (mapM_det l (Q := fun bs s' => wpAny M A (pure (r x :: bs)) Q E s') (fun v hv => hf v (.tail _ hv)) (wpAny_pure h))))
end
/-- the key at a value -/
noncomputable def kOf (h : Heap) (v : Value) : K2 := by
  classical exact if e : ∃ k, NestedIs h (nk2 k) v then e.choose else []
theorem kOf_is {h : Heap} {v : Value} {k : K2} (x : NestedIs h (nk2 k) v) : kOf h v = k := by
  classical
  have e : ∃ k, NestedIs h (nk2 k) v := ⟨k, x⟩
  unfold kOf
  rw [dif_pos e]
  exact nk2_inj _ _ (NestedIs.inj _ _ _ e.choose_spec x)
/-- the first item of the tuple at a value -/
def fstAt (h : Heap) (v : Value) : Option Value := match v with
  | .ref a => match h.get? a with
    | some o => match o.data with
      | .seq xs _ => xs[0]?
      | _ => none
    | none => none
  | _ => none
theorem nk1_type {h : Heap} {M : Model} {l : K1} {v : Value} (x : NestedIs h (nk1 l) v) : Looks M h (typeOf v) (.type "tuple") := by
  cases x with
  | @tup _ o vs n a h1 h2 h3 h4 =>
    rw [← h2]
    exact (Looks.ld h1).andThen .now
theorem nk2_type {h : Heap} {M : Model} {l : K2} {v : Value} (x : NestedIs h (nk2 l) v) : Looks M h (typeOf v) (.type "tuple") := by
  cases x with
  | @tup _ o vs n a h1 h2 h3 h4 =>
    rw [← h2]
    exact (Looks.ld h1).andThen .now
section
variable {M : Model} {A : Around} {E : Value → Shared → Prop} {s : Shared}
theorem first_det {v : Value} {k : K2} (x : NestedIs s.heap (nk2 k) v) {Q : Option Value → Shared → Prop} (h : Q (fstAt s.heap v) s) : wpAny M A (firstOfTuple' v) Q E s := by
  rw [kas_first_eq]
  refine wpAny_bind ((nk2_type x).here ?_)
  rw [if_neg (by first | decide | simp)]
  cases x with
  | @tup a o vs n _ h1 h2 h3 h4 =>
    refine wpAny_bind (listItems_at h1 h3 (wpAny_pure ?_))
    have e : fstAt s.heap (.ref a) = vs[0]? := by
      unfold fstAt
      dsimp only
      rw [h1]
      dsimp only
      rw [h3]
    rw [← e]
    exact h
theorem fst_is {h : Heap} {v f : Value} {k : K2} (x : NestedIs h (nk2 k) v) (e : fstAt h v = some f) : ∃ l, NestedIs h (nk1 l) f := by
  cases x with
  | @tup _ o vs n a h1 h2 h3 h4 =>
    have e2 : vs[0]? = some f := by
      unfold fstAt at e
      dsimp only at e
      rw [h1] at e
      dsimp only at e
      rw [h3] at e
      exact e
    obtain ⟨l1, g⟩ := nestedAll_get h4
    rw [← Array.getElem?_toList] at e2
    cases k with
    | nil =>
      cases h4' : vs.toList with
      | nil => rw [h4'] at e2; cases e2
      | cons y ys => rw [h4'] at l1; cases l1
    | cons l k => exact ⟨l, g 0 (nk1 l) f rfl e2⟩
/-- what the sort asks its questions with -/
theorem kind_is {vs : List Value} (h2 : 2 ≤ vs.length) (hv : ∀ v ∈ vs, ∃ k, NestedIs s.heap (nk2 k) v) :
    ∃ κ, (κ = tuples' false ∨ κ = general' ∨ κ = oneType') ∧ ∀ (M : Model) (A : Around) (E : Value → Shared → Prop) (Q : SortKind → Shared → Prop), Q κ s → wpAny M A (keyKind' vs.toArray) Q E s := by
  by_cases all : ((vs.map (fstAt s.heap)).toArray.all fun x => x.isSome) = true
  · refine ⟨tuples' false, .inl rfl, fun M A E Q hq => ?_⟩
    rw [keyKind'_eq, List.mapM_toArray, map_eq_pure_bind]
    refine wpAny_bind (wpAny_bind (mapM_det (r := fstAt s.heap) vs (fun v hv' Q' hq' => ?_) (wpAny_pure ?_)))
    · obtain ⟨k, x⟩ := hv v hv'
      exact first_det x hq'
    rw [if_pos all]
    refine wpAny_bind (wpAny_rule ?_)
    have hf : ((vs.map (fstAt s.heap)).toArray.filterMap id) = (vs.filterMap (fstAt s.heap)).toArray := by
      rw [List.filterMap_toArray, List.filterMap_map]
      rfl
    rw [hf, oneTypeOnly'_eq, List.mapM_toArray, map_eq_pure_bind]
    refine wpAny_bind (wpAny_bind (wpAny_bind (kas_mapM (r := Value.type "tuple") _ (fun v hv' Q' hq' => ?_) (wpAny_pure ?_))))
    · obtain ⟨u, hu, e⟩ := List.mem_filterMap.mp hv'
      obtain ⟨k, x⟩ := hv u hu
      obtain ⟨l, y⟩ := fst_is x e
      exact (nk1_type y).here hq'
    obtain ⟨f, fs, ef⟩ : ∃ f fs, vs.filterMap (fstAt s.heap) = f :: fs := by
      match vs, h2 with
      | v :: vs, _ =>
        simp only [List.all_toArray, List.map_cons, List.all_cons, Bool.and_eq_true] at all
        obtain ⟨f, ef⟩ := Option.isSome_iff_exists.mp all.1
        exact ⟨f, _, List.filterMap_cons_some ef⟩
    rw [ef]
    have hall2 : ((List.map (fun _ => Value.type "tuple") (f :: fs)).toArray.all fun x => x == Value.type "tuple") = true := by
      simp only [List.all_toArray, List.all_map, List.all_eq_true]
      intro _ _
      rfl
    have h0 : (List.map (fun _ => Value.type "tuple") (f :: fs)).toArray[0]? = some (Value.type "tuple") := by simp
    rw [h0]
    simp only [hall2, if_true]
    exact wpAny_pure (wpAny_pure hq)
  · by_cases z : ((vs.map (fstAt s.heap)).toArray[0]?.bind id).isSome = true
    · refine ⟨general', .inr (.inl rfl), fun M A E Q hq => ?_⟩
      rw [keyKind'_eq, List.mapM_toArray, map_eq_pure_bind]
      refine wpAny_bind (wpAny_bind (mapM_det (r := fstAt s.heap) vs (fun v hv' Q' hq' => ?_) (wpAny_pure ?_)))
      · obtain ⟨k, x⟩ := hv v hv'
        exact first_det x hq'
      rw [if_neg all, if_pos z]
      exact wpAny_pure hq
    · refine ⟨oneType', .inr (.inr rfl), fun M A E Q hq => ?_⟩
      rw [keyKind'_eq, List.mapM_toArray, map_eq_pure_bind]
      refine wpAny_bind (wpAny_bind (mapM_det (r := fstAt s.heap) vs (fun v hv' Q' hq' => ?_) (wpAny_pure ?_)))
      · obtain ⟨k, x⟩ := hv v hv'
        exact first_det x hq'
      rw [if_neg all, if_neg z]
      rw [oneTypeOnly'_eq, List.mapM_toArray, map_eq_pure_bind]
      refine wpAny_bind (wpAny_bind (wpAny_bind (kas_mapM (r := Value.type "tuple") _ (fun v hv' Q' hq' => ?_) (wpAny_pure ?_))))
      · obtain ⟨k, x⟩ := hv v hv'
        exact (nk2_type x).here hq'
      obtain ⟨v, r, ev⟩ : ∃ v r, vs = v :: r := by
        match vs, h2 with
        | v :: r, _ => exact ⟨v, r, rfl⟩
      rw [ev]
      have hall2 : ((List.map (fun _ => Value.type "tuple") (v :: r)).toArray.all fun x => x == Value.type "tuple") = true := by
        simp only [List.all_toArray, List.all_map, List.all_eq_true]
        intro _ _
        rfl
      have h0 : (List.map (fun _ => Value.type "tuple") (v :: r)).toArray[0]? = some (Value.type "tuple") := by simp
      rw [h0]
      simp only [hall2, if_true]
      exact wpAny_pure (wpAny_pure hq)
end
section
variable {prog : Program} {w : World} {A : Around} {s : Shared}
theorem katLex_K {fin : Bool} (hu : A.units + 4 < cLine) : ∀ (k m : K2) (vs us : List Value) (i : Nat) (Q : Bool → Shared → Prop), NestedAll s.heap (k.map nk1) vs → NestedAll s.heap (m.map nk1) us →
    (fin = decide (k.length < m.length)) → Q (ltK k m) s → KatLex prog w A false fin Q (vs.zip us) i s
  | [], m, vs, us, i, Q, x, y, hf, q => by
    cases x
    refine kat_nil ?_
    rw [hf]
    cases m with
    | nil => exact q
    | cons _ _ => simpa [lexL] using q
  | l :: k, [], vs, us, i, Q, x, y, hf, q => by
    cases y
    cases x
    refine kat_nil ?_
    rw [hf]
    simpa [lexL] using q
  | l :: k, m1 :: m, vs, us, i, Q, x, y, hf, q => by
    cases x with
    | @cons _ v _ vs x1 x2 =>
      cases y with
      | @cons _ u _ us y1 y2 =>
        have S : Side lt1 A s l m1 v u := side1 (by omega) x1 y1
        refine kat_cons (S.eq prog w _ _ ?_)
        refine kat_go (fun e => kat_yes ?_) (fun e => kat_no ?_)
        · have e' : l = m1 := of_decide_eq_true e
          refine katLex_K hu k m vs us (i + 1) Q x2 y2 (by rw [hf]; simp) ?_
          have q' : Q (if l = m1 then ltK k m else lt1 l m1) s := q
          rw [if_pos e'] at q'
          exact q'
        · have e' : ¬ l = m1 := of_decide_eq_false e
          have q' : Q (if l = m1 then ltK k m else lt1 l m1) s := q
          rw [if_neg e'] at q'
          refine kat_one _ _ ?_
          show wpAny _ _ (richCompare .Lt v u) _ _ _
          exact S.less prog w _ _ q'
theorem cmp_K {κ : SortKind} {vs : List Value} (hκ : κ = tuples' false ∨ κ = general' ∨ κ = oneType') (hu : A.units + 4 < cLine) (hv : ∀ v ∈ vs, ∃ k, NestedIs s.heap (nk2 k) v) :
    SrtO.Cmp prog w A s κ (fun p => p.1 ∈ vs) (SrtO.lt2 fun v u => ltK (kOf s.heap v) (kOf s.heap u)) := by
  intro p q hp hq
  obtain ⟨k, x⟩ := hv _ hp
  obtain ⟨m, y⟩ := hv _ hq
  show wpAny _ _ (keyLt' κ p.1 q.1) (fun r s' => s' = s ∧ r = ltK (kOf s.heap p.1) (kOf s.heap q.1)) (fun _ _ => False) s
  rw [kOf_is x, kOf_is y]
  have S : Side ltK A s k m p.1 q.1 := side2 hu x y
  rcases hκ with rfl | rfl | rfl
  · generalize p.1 = v at *
    generalize q.1 = u at *
    cases x with
    | tup h1 h2 h3 h4 =>
      cases y with
      | tup k1 k2 k3 k4 =>
        refine kat_lt h1 h3 k1 k3 ?_
        have l1 := (nestedAll_get h4).1
        have l2 := (nestedAll_get k4).1
        rw [List.length_map] at l1 l2
        refine katLex_K hu k m _ _ 0 _ h4 k4 ?_ ⟨rfl, rfl⟩
        rw [l1, l2, Array.length_toList, Array.length_toList]
  · show wpAny _ _ (oneLt' false p.1 q.1) _ _ _
    refine kat_one _ _ ?_
    show wpAny _ _ (richCompare .Lt p.1 q.1) _ _ _
    exact S.less prog w _ _ ⟨rfl, rfl⟩
  · rw [keyLt'_oneType, oneLt'_eq]
    simp only [if_true]
    refine wpAny_bind (wpAny_cRoomFor (by omega) ?_)
    have T : s.TypeIs p.1 "tuple" := by
      generalize p.1 = v at *
      cases x with
      | tup h1 h2 h3 h4 => exact ⟨_, h1, h2⟩
    refine wpAny_bind (wpAny_callSpecialIfBound?_slot T F.slot_tuple_lt ?_)
    generalize p.1 = v at *
    generalize q.1 = u at *
    have x' := x
    have y' := y
    cases x with
    | tup h1 h2 h3 h4 =>
      cases y with
      | tup k1 k2 k3 k4 =>
        refine call_tups (lt := lt1) (f := nk1) [] (fun x y u v h k => side1 (by show A.units + 1 + 2 < _; omega) h k) x' y' ?_
        exact wpAny_truthy_bool ⟨rfl, rfl⟩
mutual
theorem nk_up {h h' : Heap} (hk : ∀ a o, h.get? a = some o → o.cls = .type "tuple" → h'.get? a = some o) : ∀ (x : NK) (v : Value), NestedIs h x v → NestedIs h' x v
  | .none, _, hx => by cases hx; exact .none
  | .num i, _, hx => by
    cases hx with
    | bool e => exact .bool e
    | int _ t => exact .int _ t
  | .text y, _, hx => by cases hx; exact .text _ _
  | .tup ks, _, hx => by
    cases hx with
    | tup h1 h2 h3 h4 => exact .tup (hk _ _ h1 h2) h2 h3 (nk_ups hk ks _ h4)
theorem nk_ups {h h' : Heap} (hk : ∀ a o, h.get? a = some o → o.cls = .type "tuple" → h'.get? a = some o) : ∀ (xs : List NK) (vs : List Value), NestedAll h xs vs → NestedAll h' xs vs
  | [], _, hx => by cases hx; exact .nil
  | x :: xs, _, hx => by
    cases hx with
    | cons h1 h2 => exact .cons (nk_up hk x _ h1) (nk_ups hk xs _ h2)
end
/-- sortable -/
theorem sortable_K {a : Addr} {vs : List Value} (h2 : 2 ≤ vs.length) (hu : A.units + 4 < cLine) (hv : ∀ v ∈ vs, ∃ k, NestedIs s.heap (nk2 k) v) (ha : ∃ o, s.heap.get? a = some o ∧ o.cls ≠ .type "tuple") :
    SrtO.SortableO prog w A s a vs fun v u => ltK (kOf s.heap v) (kOf s.heap u) := by
  intro h' keep
  have up : ∀ v k, NestedIs s.heap (nk2 k) v → NestedIs h' (nk2 k) v := fun v k x => nk_up (fun b o e c => keep b o (fun z => by
    subst z
    obtain ⟨o', e', hne⟩ := ha
    rw [e] at e'
    cases e'
    exact hne c) e) _ _ x
  have hv' : ∀ v ∈ vs, ∃ k, NestedIs h' (nk2 k) v := fun v hm => by
    obtain ⟨k, x⟩ := hv v hm
    exact ⟨k, up v k x⟩
  obtain ⟨κ, hκ, hk⟩ := kind_is (s := { s with heap := h' }) h2 hv'
  refine ⟨κ, fun Q E q => hk _ _ _ _ q, ?_⟩
  have C := cmp_K (prog := prog) (w := w) (s := { s with heap := h' }) (κ := κ) (vs := vs) hκ hu hv'
  intro p q hp hq
  have := C p q hp hq
  obtain ⟨k, x⟩ := hv _ hp
  obtain ⟨m, y⟩ := hv _ hq
  have e1 : kOf h' p.1 = kOf s.heap p.1 := (kOf_is (up _ _ x)).trans (kOf_is x).symm
  have e2 : kOf h' q.1 = kOf s.heap q.1 := (kOf_is (up _ _ y)).trans (kOf_is y).symm
  show wpAny _ _ _ (fun r s' => s' = _ ∧ r = ltK (kOf s.heap p.1) (kOf s.heap q.1)) _ _
  rw [← e1, ← e2]
  exact this
end
end KX

/-! KX8: set(a list of products), sorted(that set). -/
namespace KX
open PySem PySem.Spec PyProof.Rows L2 PySem.W

/-! ### adding one -/
theorem rowsN_ins (w : World) (L : List (Addr × NK)) (p : Nat) (x : Addr) (k : NK) : rowsN w (L.take p ++ (x, k) :: L.drop p) = (rowsN w L).take p ++ (hN w k, Value.ref x) :: (rowsN w L).drop p := by
  simp only [rowsN, List.map_append, List.map_cons, List.map_take, List.map_drop]
theorem hashesN_ins (w : World) (L : List (Addr × NK)) (p : Nat) (x : Addr) (k : NK) : hashesN w (L.take p ++ (x, k) :: L.drop p) = (hashesN w L).take p ++ hN w k :: (hashesN w L).drop p := by
  simp only [hashesN, List.map_append, List.map_cons, List.map_take, List.map_drop]
theorem picked (w : World) (L : List (Addr × NK)) (es : Array (Int × Value)) (hr : es.toList = rowsN w L) : ∀ l : List Nat, (∀ i ∈ l, i < L.length) →
    l.filterMap (fun i => es[i]?) = rowsN w (l.filterMap fun i => L[i]?) ∧ hashesN w (l.filterMap fun i => L[i]?) = l.map fun i => (es.map (·.1)).getD i 0
  | [], _ => ⟨rfl, rfl⟩
  | i :: l, hl => by
    obtain ⟨e1, e2⟩ := picked w L es hr l fun j hj => hl j (List.mem_cons_of_mem _ hj)
    have hi := hl i List.mem_cons_self
    have hL : L[i]? = some L[i] := List.getElem?_eq_getElem hi
    have he : es[i]? = some (hN w (L[i]).2, Value.ref (L[i]).1) := by
      rw [← Array.getElem?_toList, hr, rowsN, List.getElem?_map, hL]
      rfl
    have hd : (es.map (·.1)).getD i 0 = hN w (L[i]).2 := by
      rw [Array.getD_eq_getD_getElem?, Array.getElem?_map, he]
      rfl
    rw [List.filterMap_cons_some he, List.filterMap_cons_some hL, e1, List.map_cons, hd, ← e2]
    exact ⟨rfl, rfl⟩
theorem range_back {α : Type} (L : List α) : (List.range L.length).filterMap (fun i => L[i]?) = L := by
  have step : ∀ n, n ≤ L.length → (List.range n).filterMap (fun i => L[i]?) = L.take n := by
    intro n
    induction n with
    | zero => intro _; rfl
    | succ n ih =>
      intro hn
      have hL : L[n]? = some L[n] := List.getElem?_eq_getElem hn
      rw [List.range_succ, List.filterMap_append, ih (Nat.le_of_lt hn), List.take_succ, hL, List.filterMap_cons_some hL]
      rfl
  rw [step _ (Nat.le_refl _), List.take_length]
section
variable {P : Program} {w : World} {A : Around} {E : Value → Shared → Prop} {s : Shared} {a : Addr} {L : List (Addr × NK)} {es : Array (Int × Value)} {ep : Nat} {t : SetTable}
theorem relayN {o : Obj} (ho : s.heap.get? a = some o) (hex : o.ExactSet) (hd : o.data = .set es ep t) (hr : es.toList = rowsN w L) (T : TabF t (hashesN w L)) (low : L.length ≤ t.mask)
    (nd : (L.map (·.2)).Nodup) (keys : ∀ p ∈ L, IsN s.heap p.2 p.1) (led : w.params.followText "set-order" = true ∨ t.led = true) (few : L.length < 300) {wanted M : Nat}
    (hw : SetTable.sizeAbove wanted - 1 = M) (hM : Mask4 M) (top : SetTable.sizeAbove wanted ≤ 512) (room : L.length * 5 < M * 3) {Q : Unit → Shared → Prop}
    (q : ∀ h' L' es' ep' t', Heap.SameBut a s.heap h' → SetN w h' a L' es' ep' t' → L'.Perm L → Q () { s with heap := h' }) : wpAny (model P w) A (setRelay a wanted) Q E s := by
  have len : es.size = L.length := by rw [← Array.length_toList, hr, rowsN_len]
  obtain ⟨t', order, told, perm, T', em, el⟩ := relaid_F t (hs := es.map (·.1)) (wanted := wanted) hw hM.fp hM.odd (by rw [Array.size_map, len]; omega)
  rw [Array.size_map, len] at perm
  obtain ⟨r1, r2⟩ := picked w L es hr order.toList fun i hi => List.mem_range.mp (perm.mem_iff.mp hi)
  have pm : (order.toList.filterMap fun i => L[i]?).Perm L := by
    have z := perm.filterMap fun i => L[i]?
    rw [range_back] at z
    exact z
  generalize (order.toList.filterMap fun i => L[i]?) = L2 at r1 r2 pm
  have rows : (order.filterMap (es[·]?)).toList = rowsN w L2 := by rw [Array.toList_filterMap]; exact r1
  rw [← r2] at T'
  have len2 : (order.filterMap (es[·]?)).size = L.length := by rw [← Array.length_toList, rows, rowsN_len, pm.length_eq]
  rw [setRelay_eq]
  refine wpAny_bind (wpAny_setState_of ho hd (fits_of T (by rw [len, hashesN_len]) (by omega)) ?_)
  dsimp only
  refine wp_if_neg (by rw [sizeLine_eq]; omega) ?_
  try refine wpAny_bind (wpAny_pure ?_)
  rw [told]
  dsimp only
  refine wpAny_bind (wp_if_neg (by rw [len2, len]; simp) ?_)
  try refine wpAny_bind (wpAny_pure ?_)
  refine wpAny_pure ?_
  dsimp only
  refine wpAny_storeSet_of ho hd ?_ (by rw [len2, sizeLine_eq]; omega)
  have sb : Heap.SameBut a s.heap (s.heap.update a (Obj.putSet (order.filterMap (es[·]?)) t')) := Heap.SameBut.update ..
  refine q _ L2 (order.filterMap (es[·]?)) (ep + 1) t' sb ⟨⟨_, store_at ho hd, ⟨hex.1, hex.2.1, hex.2.2⟩, rfl⟩, rows, T', by rw [em]; exact hM, (pm.map _).nodup_iff.mpr nd,
    fun p hp => (keys p (pm.mem_iff.mp hp)).same ho hd sb, by rw [el]; exact led, by rw [pm.length_eq, em]; exact room, by rw [pm.length_eq]; exact few⟩ pm
theorem addN (R : SetN w s.heap a L es ep t) {x : Addr} {k : NK} (hx : IsN s.heap k x) (hu : A.units + 8 < cLine) (hfew : L.length + 1 < 300) {Q : Bool → Shared → Prop}
    (q : ∀ b h' L' es' ep' t', Heap.SameBut a s.heap h' → SetN w h' a L' es' ep' t' → (k ∈ L.map (·.2) → L' = L) → (k ∉ L.map (·.2) → L'.Perm ((x, k) :: L)) → Q b { s with heap := h' }) :
    wpAny (model P w) A (setAddHashed a (.ref x) (hN w k)) Q E s := by
  obtain ⟨o, ho, hex, hd⟩ := R.ob
  have len := R.size
  have room := R.room
  unfold setAddHashed
  refine wpAny_holding ?_
  rw [show (100000 : Nat) = 99999 + 1 from rfl, setAddHashedIn_succ]
  refine wpAny_bind (wpAny_setState_of ho hd R.fits ?_)
  dsimp only
  refine wp_if_neg (by simp [byScan, Value.scannable]) ?_
  try refine wpAny_bind (wpAny_pure ?_)
  refine wpAny_bind (searchN_all R hx hu (fun hm => ?_) fun n hm n1 n2 => ?_)
  · dsimp only
    exact wpAny_pure (q false s.heap L es ep t (Heap.SameBut.refl a s.heap) R (fun _ => rfl) fun z => absurd hm z)
  · dsimp only
    refine wpAny_bind (wpAny_setState_of ho hd R.fits ?_)
    dsimp only
    obtain ⟨e1, hp, T1, e3, e4, e5⟩ := R.tab.put (h := hN w k) (n := n) rfl rfl n1 n2
    generalize hpt : t.put (way t.mask (hN w k) n) = pt at e1 T1 e3 e4 e5 ⊢
    obtain ⟨t1, p⟩ := pt
    dsimp only at e1 T1 e3 e4 e5 ⊢
    subst e1
    -- the rest, whatever the table's 'plain' says
    have rest : ∀ pl : Bool, wpAny (model P w) A (do
        storeSet a (SetTable.insertAt es (SetTable.below t.place (way t.mask (hN w k) n)) (hN w k, Value.ref x)) (if pl then t1 else { t1 with plain := false })
        if !false && (if pl then t1 else { t1 with plain := false } : SetTable).tooFull then setRelay a (SetTable.grown (es.size + 1))
        return true) Q E s := by
      intro pl
      obtain ⟨t2, et2, T2, m2, l2, f2⟩ : ∃ t2 : SetTable, (if pl then t1 else { t1 with plain := false }) = t2 ∧ TabF t2 ((hashesN w L).take (SetTable.below t.place (way t.mask (hN w k) n)) ++ hN w k :: (hashesN w L).drop (SetTable.below t.place (way t.mask (hN w k) n))) ∧ t2.mask = t.mask ∧ t2.led = t.led ∧ t2.fill = (hashesN w L).length + 1 := by
        cases pl with
        | true => exact ⟨_, rfl, T1, e3, e4, e5⟩
        | false => exact ⟨_, rfl, ⟨T1.ris, T1.dm, T1.sz, T1.odd, T1.fp, T1.bd, T1.reach⟩, e3, e4, e5⟩
      rw [et2]
      have hin : (SetTable.insertAt es (SetTable.below t.place (way t.mask (hN w k) n)) (hN w k, Value.ref x)).toList = rowsN w (L.take (SetTable.below t.place (way t.mask (hN w k) n)) ++ (x, k) :: L.drop (SetTable.below t.place (way t.mask (hN w k) n))) := by
        rw [SetTable.toList_insertAt, rowsN_ins, R.rows]
      rw [← hashesN_ins w L _ x k] at T2
      generalize SetTable.below t.place (way t.mask (hN w k) n) = p at T2 hin ⊢
      have pm : (L.take p ++ (x, k) :: L.drop p).Perm ((x, k) :: L) := put_perm L p (x, k)
      generalize L.take p ++ (x, k) :: L.drop p = L1 at pm T2 hin
      have ll : L1.length = L.length + 1 := pm.length_eq
      have nd1 : (L1.map (·.2)).Nodup := (pm.map (·.2)).nodup_iff.mpr (by rw [List.map_cons]; exact List.nodup_cons.mpr ⟨hm, R.nd⟩)
      have len1 : (SetTable.insertAt es p (hN w k, Value.ref x)).size = L1.length := by rw [← Array.length_toList, hin, rowsN_len]
      generalize SetTable.insertAt es p (hN w k, Value.ref x) = es1 at hin len1 ⊢
      refine wpAny_bind (wpAny_storeSet_of ho hd ?_ (by rw [len1, ll, sizeLine_eq]; omega))
      have sb : Heap.SameBut a s.heap (s.heap.update a (Obj.putSet es1 t2)) := Heap.SameBut.update ..
      have ho1 := store_at (es' := es1) (t' := t2) ho hd
      generalize s.heap.update a (Obj.putSet es1 t2) = h1 at sb ho1 ⊢
      have keys1 : ∀ p ∈ L1, IsN h1 p.2 p.1 := fun p hp => by
        rcases List.mem_cons.mp (pm.mem_iff.mp hp) with e | hp
        · subst e; exact hx.same ho hd sb
        · exact (R.keys p hp).same ho hd sb
      have led1 : w.params.followText "set-order" = true ∨ t2.led = true := by rw [l2]; exact R.led
      by_cases hf : t2.tooFull = true
      · have full : (L.length + 1) * 5 ≥ t.mask * 3 := by
          have z := hf
          unfold SetTable.tooFull at z
          rw [decide_eq_true_eq, f2, hashesN_len, m2] at z
          exact z
        obtain ⟨M, g1, g2, g3, g4, g5⟩ := grow4 R.mask room full hfew
        have go : wpAny (model P w) A (setRelay a (SetTable.grown (es.size + 1))) (fun _ s' => wpAny (model P w) A (pure true) Q E s') E { s with heap := h1 } := by
          rw [len]
          refine relayN (s := { s with heap := h1 }) ho1 ⟨hex.1, hex.2.1, hex.2.2⟩ rfl hin T2 (by rw [ll, m2]; exact g5) nd1 keys1 led1 (by rw [ll]; exact hfew) g1 g2 g3 (by rw [ll]; exact g4) ?_
          intro h2 L2 es2 ep2 t2 sb2 R2 pm2
          exact wpAny_pure (q true h2 L2 es2 ep2 t2 (sb.trans sb2) R2 (fun z => absurd z hm) fun _ => pm2.trans pm)
        first
          | (refine wpAny_bind ?_; exact wp_if_pos (by simp [hf]) go)
          | exact wp_if_pos (by simp [hf]) (wpAny_bind go)
      · have fin : wpAny (model P w) A (pure true) Q E { s with heap := h1 } := by
          refine wpAny_pure (q true h1 L1 es1 (ep + 1) t2 sb ⟨⟨_, ho1, ⟨hex.1, hex.2.1, hex.2.2⟩, rfl⟩, hin, T2, by rw [m2]; exact R.mask, nd1, keys1, led1, ?_, by rw [ll]; exact hfew⟩ (fun z => absurd z hm) fun _ => pm)
          have z := hf
          unfold SetTable.tooFull at z
          rw [decide_eq_true_eq, f2, hashesN_len] at z
          rw [ll]
          omega
        first
          | exact wp_if_neg (by simp [hf]) fin
          | (refine wpAny_bind (wp_if_neg (by simp [hf]) (wpAny_pure ?_)); exact fin)
    by_cases hpl : t1.plain = true
    · have go : wpAny (model P w) A (hashByValue 8 (.ref x)) (fun b s' => wpAny (model P w) A (do
          storeSet a (SetTable.insertAt es (SetTable.below t.place (way t.mask (hN w k) n)) (hN w k, Value.ref x)) (if b then t1 else { t1 with plain := false })
          if !false && (if b then t1 else { t1 with plain := false } : SetTable).tooFull then setRelay a (SetTable.grown (es.size + 1))
          return true) Q E s') E s := tells_key k _ 8 s hx.1 hx.2 A E _ fun b => rest b
      first
        | (refine wpAny_bind ?_; refine wp_if_pos hpl ?_; exact go)
        | exact wp_if_pos hpl (wpAny_bind go)
    · first
        | (refine wpAny_bind ?_; refine wp_if_neg hpl ?_; exact wpAny_pure (rest true))
        | exact wp_if_neg hpl (wpAny_bind (wpAny_pure (rest true)))
end
end KX

/-! KX9: set(a list of products). -/
namespace KX
open PySem PySem.Spec PyProof.Rows L2 PySem.W

/-- the set after the first i things -/
structure GotN (ks : List (Addr × NK)) (i : Nat) (L : List (Addr × NK)) : Prop where
  sub : ∀ p ∈ L, p ∈ ks.take i
  all : ∀ p ∈ ks.take i, p.2 ∈ L.map (·.2)
  len : L.length ≤ i
theorem GotN.zero (ks : List (Addr × NK)) : GotN ks 0 [] := ⟨fun _ h => (nomatch h), fun p h => (by simp at h), Nat.le_refl _⟩
theorem GotN.next {ks L L' : List (Addr × NK)} {i : Nat} {x : Addr × NK} (g : GotN ks i L) (h : ks[i]? = some x) (c1 : x.2 ∈ L.map (·.2) → L' = L) (c2 : x.2 ∉ L.map (·.2) → L'.Perm (x :: L)) : GotN ks (i + 1) L' := by
  have et : ks.take (i + 1) = ks.take i ++ [x] := take_next h
  have more : ∀ p, p ∈ ks.take i → p ∈ ks.take (i + 1) := fun p hp => by rw [et]; exact List.mem_append_left _ hp
  have here : x ∈ ks.take (i + 1) := by rw [et]; exact List.mem_append_right _ List.mem_cons_self
  have back : ∀ p, p ∈ ks.take (i + 1) → p ∈ ks.take i ∨ p = x := fun p hp => by
    rw [et] at hp
    rcases List.mem_append.mp hp with z | z
    · exact .inl z
    · exact .inr (List.mem_singleton.mp z)
  by_cases c : x.2 ∈ L.map (·.2)
  · rw [c1 c]
    refine ⟨fun p hp => more p (g.sub p hp), fun p hp => ?_, Nat.le_succ_of_le g.len⟩
    rcases back p hp with z | z
    · exact g.all p z
    · rw [z]; exact c
  · have pm := c2 c
    refine ⟨fun p hp => ?_, fun p hp => ?_, by rw [pm.length_eq]; exact Nat.succ_le_succ g.len⟩
    · rcases List.mem_cons.mp (pm.mem_iff.mp hp) with z | z
      · rw [z]; exact here
      · exact more p (g.sub p z)
    · rw [(pm.map (·.2)).mem_iff, List.map_cons]
      rcases back p hp with z | z
      · exact List.mem_cons_of_mem _ (g.all p z)
      · rw [z]; exact List.mem_cons_self
theorem setN_fresh {w : World} {h : Heap} {a : Addr} (ho : h.get? a = some { cls := .type "set", dict := none, data := .set #[] 0 (.fresh 0 0 (!w.params.followText "set-order")) }) : SetN w h a [] #[] 0 (.fresh 0 0 (!w.params.followText "set-order")) where
  ob := ⟨_, ho, ⟨rfl, rfl, rfl⟩, rfl⟩
  rows := rfl
  tab := ⟨List.Pairwise.nil, rfl, rfl, Mask4.odd (.inl rfl), Mask4.fp (.inl rfl), fun _ z => (nomatch z), fun i h j hi => (nomatch hi)⟩
  mask := .inl rfl
  nd := List.nodup_nil
  keys := fun _ z => nomatch z
  led := by
    show _ ∨ (!w.params.followText "set-order") = true
    cases w.params.followText "set-order" <;> simp
  room := by show 0 * 5 < 7 * 3; decide
  few := by show 0 < 300; decide
section
variable {P : Program} {w : World} {A : Around} {E : Value → Shared → Prop} {s : Shared}
theorem updateN {I : Addr} {fp wr : List Addr} {G : Array GenState → Array GenState → Prop} {n : Nat} {Pv : Nat → Value → Prop} {St : Nat → Shared → Prop} {R : Result → Shared → Prop}
    (W : WalksS P w A.in1 I fp wr G n Pv St) (S : Addr) (hSf : S ∉ fp) (ks : List (Addr × NK)) (hn : n = ks.length) (hfew : ks.length < 300) (hval : ∀ i v, Pv i v → ∃ p, ks[i]? = some p ∧ v = .ref p.1)
    (h0 : Heap) (hk : ∀ p ∈ ks, IsN h0 p.2 p.1) (hS0 : h0.get? S = none) (hw0 : ∀ b ∈ wr, h0.get? b = none) (hu : A.in1.units + 16 < cLine) :
    ∀ (k i : Nat) (s : Shared), n - i = k → i ≤ n → St i s → (∀ b o, h0.get? b = some o → s.heap.get? b = some o) → (∃ L es ep t, SetN w s.heap S L es ep t ∧ GotN ks i L) →
      (∀ s' L es ep t, Moved (S :: wr) G s s' → SetN w s'.heap S L es ep t → GotN ks n L → (∀ b o, h0.get? b = some o → s'.heap.get? b = some o) → R (.ok (.ret .none)) s') →
      codeAny (model P w) A (.builtin "set.update.loop" ⟨[.ref S, .ref I], []⟩) R s := by
  have apart : S ∉ wr := fun h => hSf (W.sub _ h)
  have wider : ∀ b ∈ wr, b ∈ S :: wr := fun b hb => List.mem_cons_of_mem _ hb
  have kept : ∀ {s s' : Shared}, Moved wr G s s' → (∀ b o, h0.get? b = some o → s.heap.get? b = some o) → ∀ b o, h0.get? b = some o → s'.heap.get? b = some o := fun hm up b o e =>
    hm.heap b o (fun hb => by rw [hw0 b hb] at e; cases e) (up b o e)
  intro k
  induction k with
  | zero =>
    intro i s hk' hi hst up ⟨L, es, ep, t, hS, g⟩ hR
    have hin : i = n := by omega
    subst hin
    refine codeAny_builtin F.entry_set_update_loop ?_
    rw [Around.under_plainId F.plain_set_update_loop _]
    show wpAny _ A.in1 (pyNext (.ref I) >>= _) _ _ s
    refine wpAny_bind (W.done s _ _ hst fun s' hm => ?_)
    show wpAny _ A.in1 (ret Value.none) _ _ s'
    have up' := kept hm up
    exact wpAny_pure (hR s' L es ep t (hm.mono wider) (hS.keep (fun o e => hm.heap S o apart e) fun p hp => (hk p (List.mem_of_mem_take (g.sub p hp))).keep up') g up')
  | succ k ih =>
    intro i s hk' hi hst up ⟨L, es, ep, t, hS, g⟩ hR
    have hlt : i < n := by omega
    refine codeAny_builtin F.entry_set_update_loop ?_
    rw [Around.under_plainId F.plain_set_update_loop _]
    show wpAny _ A.in1 (pyNext (.ref I) >>= _) _ _ s
    refine wpAny_bind (W.item i s _ _ hlt hst fun v s' hP hst' hm => ?_)
    obtain ⟨p, hp, rfl⟩ := hval i v hP
    have up' := kept hm up
    have hS' : SetN w s'.heap S L es ep t := hS.keep (fun o e => hm.heap S o apart e) fun q hq => (hk q (List.mem_of_mem_take (g.sub q hq))).keep up'
    have hx : IsN s'.heap p.2 p.1 := (hk p (List.mem_of_getElem? hp)).keep up'
    show wpAny _ A.in1 (holding [Value.ref p.1] (setAdd S (.ref p.1)) >>= _) _ _ s'
    refine wpAny_bind (wpAny_holding ?_)
    unfold setAdd
    refine wpAny_holding ?_
    refine wpAny_bind (pyHash_key p.2 (.ref p.1) _ s' _ hx.1 (by have := hx.2; omega) ?_)
    refine addN (s := { s' with toks := s'.toks + p.2.draws }) hS' hx (by omega) (by have := g.len; omega) fun b h' L' es' ep' t' hsb hS2 c1 c2 => ?_
    have g' : GotN ks (i + 1) L' := g.next hp c1 c2
    have up2 : ∀ b o, h0.get? b = some o → h'.get? b = some o := fun b o e => (hsb.2 b (fun z => by rw [z, hS0] at e; cases e)).trans (up' b o e)
    refine wpAny_pure ⟨plainId_quiet F.plain_set_update_loop _, ih (i + 1) _ (by omega) hlt (W.frame _ s' _ _ hst' (Nat.le_add_right _ _) fun b hb o e => ?_) up2 ⟨L', es', ep', t', hS2, g'⟩ fun s'' L2 es2 ep2 t2 hm'' hS'' g'' up'' => ?_⟩
    · rw [hsb.2 b (fun h : b = S => hSf (by rw [← h]; exact hb))]; exact e
    · refine hR s'' L2 es2 ep2 t2 (Moved.trans W.gtrans ((hm.mono wider).then_heap (Nat.le_add_right _ _) fun b o hb e => ?_) hm'') hS'' g'' up''
      rw [hsb.2 b (fun h : b = S => hb (by rw [h]; exact List.mem_cons_self))]; exact e

set_option maxHeartbeats 3200000 in
theorem call_setN {l : Addr} {items : Array Value} (ks : List (Addr × NK)) {Q : Value → Shared → Prop} (hh : A.handled = none) (hl : s.heap.IsList l items) (hit : items.toList = ks.map fun p => Value.ref p.1)
    (hk : ∀ p ∈ ks, IsN s.heap p.2 p.1) (hfew : ks.length < 300) (hu : A.units + 30 < cLine)
    (h : ∀ (h' : Heap) (tk : Nat) L es ep t, SetN w h' s.heap.objs.size L es ep t → GotN ks ks.length L → (∀ b o, s.heap.get? b = some o → h'.get? b = some o) → Q (.ref s.heap.objs.size) { s with heap := h', toks := tk }) :
    wpAny (model P w) A (call (.type "set") [.ref l]) Q E s := by
  have hisz : items.size = ks.length := by
    have q := congrArg List.length hit
    rw [Array.length_toList, List.length_map] at q
    exact q
  obtain ⟨c, tl, hmro⟩ := F.called_set.mro
  have hmade := F.called_set.made
  have hsub := F.called_set.sub
  refine wpAny_call (codeAny_of_tree ?_)
  show wpAny _ _ (callAny (.type "set") _) _ _ _
  refine wpAny_pure ⟨Code.quiet_builtin _ (by decide +kernel), codeAny_builtin F.entry_type_call ?_⟩
  rw [Around.under_plain (weight_type_call_type "set" [.ref l] []) rfl]
  have h1 := F.called_set.notType
  have h2 := F.called_set.canCreate
  have hct := F.typeCall_set_1 (.ref l)
  repeat (any_goals (first | assumption | wp_step))
  refine codeAny_mono (code_set_led1 (.ref l) (E := E) (Q₁ := fun obj s₁ => obj = .ref s.heap.objs.size ∧ s₁ = { s with heap := s.heap.push { cls := .type "set", dict := none, data := .set #[] 0 (.fresh 0 0 (!w.params.followText "set-order")) } }) ⟨rfl, rfl⟩) fun r s₁ hr => ?_
  cases r with
  | error e => exact hr
  | ok fl =>
    cases fl with
    | ret obj =>
      obtain ⟨rfl, rfl⟩ := hr
      have hS : (s.heap.push { cls := .type "set", dict := none, data := .set #[] 0 (.fresh 0 0 (!w.params.followText "set-order")) }).get? s.heap.objs.size = some { cls := .type "set", dict := none, data := .set #[] 0 (.fresh 0 0 (!w.params.followText "set-order")) } := Heap.get?_push_size _ rfl
      have hT : Shared.TypeIs { s with heap := s.heap.push { cls := .type "set", dict := none, data := .set #[] 0 (.fresh 0 0 (!w.params.followText "set-order")) } } (.ref s.heap.objs.size) "set" := ⟨_, hS, rfl⟩
      have hli := F.called_set.init.lookup
      have hbi := F.called_set.init.bind (.ref s.heap.objs.size)
      repeat (any_goals (first | assumption | wp_step))
      refine codeAny_mono (codeAny_call_builtin (R := wants (fun r s₂ => r = .none ∧ ∃ h' tk L es ep t, s₂ = { s with heap := h', toks := tk } ∧ SetN w h' s.heap.objs.size L es ep t ∧ GotN ks ks.length L ∧
          (∀ b o, s.heap.get? b = some o → h'.get? b = some o)) E) F.called_set.init.plain F.entry_set_init (check_set_init_1 hT ?_)) fun r₂ s₂ hr₂ => ?_
      · obtain ⟨ol, hol, hcl, nl, hdl⟩ := hl
        obtain ⟨ocls, odict, odata, oslots⟩ := ol
        simp only at hcl hdl
        subst hcl; subst hdl
        have hol' : (s.heap.push { cls := .type "set", dict := none, data := .set #[] 0 (.fresh 0 0 (!w.params.followText "set-order")) }).get? l = some { cls := .type "list", dict := odict, data := .seq items nl, slots := oslots } := Heap.get?_push_of_some _ hol
        have hsls := F.sub_list_set
        have hslf := F.sub_list_frozenset
        have hne : (Value.type "list" == Value.type "dict") = false := by decide
        have hl1 : (s.heap.push { cls := .type "set", dict := none, data := .set #[] 0 (.fresh 0 0 (!w.params.followText "set-order")) }).IsList l items := ⟨_, hol', rfl, nl, rfl⟩
        unfold Builtin.«set.__init__» noKeywords Builtin.Frozenset.updateFrom
        generalize hPI : pyIter = PI
        wp_walk
        subst hPI
        refine wpAny_pyIter_list hl1 ?_
        refine wpAny_bind (wpAny_runValue ?_)
        have hlS : l < s.heap.objs.size := Heap.lt_size hol
        have hh3 : A.in1.in1.in1.handled = none := by simp [hh]
        have hz1 : (s.heap.push { cls := .type "set", dict := none, data := .set #[] 0 (.fresh 0 0 (!w.params.followText "set-order")) }).objs.size = s.heap.objs.size + 1 := Heap.size_push ..
        have hneI : l ≠ (s.heap.push { cls := .type "set", dict := none, data := .set #[] 0 (.fresh 0 0 (!w.params.followText "set-order")) }).objs.size := by rw [hz1]; exact Nat.ne_of_lt (Nat.lt_succ_of_lt hlS)
        have hSf : s.heap.objs.size ∉ [(s.heap.push { cls := .type "set", dict := none, data := .set #[] 0 (.fresh 0 0 (!w.params.followText "set-order")) }).objs.size, l] := by
          rw [hz1]; simp only [List.mem_cons, List.not_mem_nil, or_false, not_or]
          exact ⟨Nat.ne_of_lt (Nat.lt_succ_self _), Nat.ne_of_gt hlS⟩
        have hval : ∀ (i : Nat) (v : Value), items[i]? = some v → ∃ p, ks[i]? = some p ∧ v = .ref p.1 := fun i v hv => by
          rw [← Array.getElem?_toList, hit, List.getElem?_map] at hv
          obtain ⟨p, e1, e2⟩ := Option.map_eq_some_iff.mp hv
          exact ⟨p, e1, e2.symm⟩
        have none_of : ∀ b, s.heap.objs.size ≤ b → s.heap.get? b = none := fun b hb => by
          cases q : s.heap.get? b with
          | none => rfl
          | some o => exact absurd (Nat.lt_of_lt_of_le (Heap.lt_size q) hb) (Nat.lt_irrefl _)
        refine updateN ((Walks.list hh3 _ l hneI items).toS) s.heap.objs.size
          hSf ks hisz hfew hval s.heap hk (none_of _ (Nat.le_refl _)) (fun b hb => none_of b (by
            rw [List.mem_singleton.mp hb, hz1]
            exact Nat.le_succ _)) (by show A.units + 1 + 1 + 1 + 16 < _; omega) (items.size - 0) 0 _ (by omega) (Nat.zero_le _)
          ⟨⟨_, Heap.get?_push_size _ rfl, rfl, rfl⟩, (hl1.push _)⟩ (fun b o e => Heap.get?_push_of_some _ (Heap.get?_push_of_some _ e)) ?hS0 ?hR
        case hS0 =>
          have hget : ((s.heap.push { cls := .type "set", dict := none, data := .set #[] 0 (.fresh 0 0 (!w.params.followText "set-order")) }).push { cls := .type "list_iterator", data := .fields #[.ref l, .int 0 0] }).get? s.heap.objs.size
              = some { cls := .type "set", dict := none, data := .set #[] 0 (.fresh 0 0 (!w.params.followText "set-order")) } := Heap.get?_push_of_some _ hS
          exact ⟨[], #[], 0, _, setN_fresh hget, GotN.zero ks⟩
        case hR =>
          intro s' L es ep t hm hS' g' hkp
          obtain ⟨h', g2, d', tk', os'⟩ := s'
          have eg : g2 = s.gens := hm.gens
          have ed : d' = s.drawn := hm.drawn
          have eo : os' = s.os := hm.os
          subst eg; subst ed; subst eo
          show wpAny _ _ _ _ _ _
          refine wpAny_pure ?_
          show wpAny _ _ (ret Value.none) _ _ _
          rw [hisz] at g'
          exact wpAny_pure ⟨rfl, h', tk', L, es, ep, t, rfl, hS', g', hkp⟩
      · cases r₂ with
        | error e => exact hr₂
        | ok fl₂ =>
          cases fl₂ with
          | ret r =>
            obtain ⟨rfl, h', tk, L, es, ep, t, rfl, hS', g', hk'⟩ := hr₂
            repeat (any_goals (first | assumption | wp_step))
            exact h _ _ _ _ _ _ hS' g' hk'
          | _ => exact hr₂.elim
    | _ => exact hr.elim
end
end KX

/-! KX10: the rules set([products]) and sorted(that set). -/
namespace KX
open PySem PySem.Spec PyProof.Rows L2 PySem.W

/-! ### pieces and products in the heap -/
/-- a tuple of texts -/
def At1 (H : Hp) (c : Addr) (l : K1) : Prop := H c = some (.tup (l.map V.str))
/-- the things at the addresses, one by one -/
def All2 {α β : Type} (f : α → β → Prop) : List α → List β → Prop
  | [], [] => True
  | x :: xs, y :: ys => f x y ∧ All2 f xs ys
  | _, _ => False
theorem All2.append {α β : Type} {f : α → β → Prop} : ∀ {xs : List α} {ys : List β} {us : List α} {vs : List β}, All2 f xs ys → All2 f us vs → All2 f (xs ++ us) (ys ++ vs)
  | [], [], _, _, _, h => h
  | _ :: _, _ :: _, _, _, ⟨a, r⟩, h => ⟨a, r.append h⟩
  | [], _ :: _, _, _, h, _ => h.elim
  | _ :: _, [], _, _, h, _ => h.elim
theorem All2.imp {α β : Type} {f g : α → β → Prop} (i : ∀ x y, f x y → g x y) : ∀ {xs : List α} {ys : List β}, All2 f xs ys → All2 g xs ys
  | [], [], _ => trivial
  | _ :: _, _ :: _, ⟨a, r⟩ => ⟨i _ _ a, All2.imp i r⟩
  | [], _ :: _, h => h.elim
  | _ :: _, [], h => h.elim
theorem All2.len {α β : Type} {f : α → β → Prop} : ∀ {xs : List α} {ys : List β}, All2 f xs ys → xs.length = ys.length
  | [], [], _ => rfl
  | _ :: _, _ :: _, ⟨_, r⟩ => by rw [List.length_cons, List.length_cons, r.len]
  | [], _ :: _, h => h.elim
  | _ :: _, [], h => h.elim
theorem All2.get {α β : Type} {f : α → β → Prop} : ∀ {xs : List α} {ys : List β}, All2 f xs ys → ∀ {i : Nat} {y : β}, ys[i]? = some y → ∃ x, xs[i]? = some x ∧ f x y
  | [], [], _, i, y, e => by simp at e
  | x :: _, _ :: _, ⟨a, r⟩, 0, y, e => by cases e; exact ⟨x, rfl, a⟩
  | _ :: _, _ :: _, ⟨_, r⟩, i + 1, y, e => r.get (by simpa using e)
  | [], _ :: _, h, _, _, _ => h.elim
  | _ :: _, [], h, _, _, _ => h.elim
theorem All2.getL {α β : Type} {f : α → β → Prop} : ∀ {xs : List α} {ys : List β}, All2 f xs ys → ∀ {i : Nat} {x : α}, xs[i]? = some x → ∃ y, ys[i]? = some y ∧ f x y
  | [], [], _, i, y, e => by simp at e
  | _ :: _, y :: _, ⟨a, r⟩, 0, x, e => by cases e; exact ⟨y, rfl, a⟩
  | _ :: _, _ :: _, ⟨_, r⟩, i + 1, y, e => r.getL (by simpa using e)
  | [], _ :: _, h, _, _, _ => h.elim
  | _ :: _, [], h, _, _, _ => h.elim
theorem All2.memL {α β : Type} {f : α → β → Prop} {xs : List α} {ys : List β} (h : All2 f xs ys) {x : α} (m : x ∈ xs) : ∃ y, y ∈ ys ∧ f x y := by
  obtain ⟨i, e⟩ := List.mem_iff_getElem?.mp m
  obtain ⟨y, e2, k⟩ := h.getL e
  exact ⟨y, List.mem_of_getElem? e2, k⟩
theorem All2.memR {α β : Type} {f : α → β → Prop} {xs : List α} {ys : List β} (h : All2 f xs ys) {y : β} (m : y ∈ ys) : ∃ x, x ∈ xs ∧ f x y := by
  obtain ⟨i, e⟩ := List.mem_iff_getElem?.mp m
  obtain ⟨x, e2, k⟩ := h.get e
  exact ⟨x, List.mem_of_getElem? e2, k⟩
/-- a tuple of such tuples -/
def At2 (H : Hp) (b : Addr) (k : K2) : Prop := ∃ cs : List Addr, H b = some (.tup (cs.map V.ref)) ∧ All2 (At1 H) cs k
/-- what was there is there still -/
def Grow (H H' : Hp) : Prop := ∀ b o, H b = some o → H' b = some o
theorem Grow.refl (H : Hp) : Grow H H := fun _ _ e => e
theorem Grow.trans {H H1 H2 : Hp} (g : Grow H H1) (k : Grow H1 H2) : Grow H H2 := fun b o e => k b o (g b o e)
theorem Grow.new {H : Hp} {p : Addr} {o : HO} (n : H p = none) : Grow H (upd H p o) := fun b u e => by rw [upd_ne (ne_of_none e n)]; exact e
theorem Grow.then_new {H H1 : Hp} {p : Addr} {o : HO} (g : Grow H H1) (n : H1 p = none) : Grow H (upd H1 p o) := g.trans (Grow.new n)
/-- the tuples that were there are there still -/
def Tups (H H' : Hp) : Prop := ∀ b xs, H b = some (.tup xs) → H' b = some (.tup xs)
theorem Grow.tups {H H' : Hp} (g : Grow H H') : Tups H H' := fun b xs e => g b _ e
theorem Tups.refl (H : Hp) : Tups H H := fun _ _ e => e
theorem Tups.trans {H H1 H2 : Hp} (g : Tups H H1) (k : Tups H1 H2) : Tups H H2 := fun b o e => k b o (g b o e)
theorem Tups.upd {H : Hp} {p : Addr} {o u : HO} (n : H p = some u) (h : ∀ xs, u ≠ .tup xs) : Tups H (upd H p o) := fun b xs e => by
  rw [upd_ne (fun z => by subst z; rw [n] at e; exact h xs (Option.some.inj e))]; exact e
theorem At1.up {H H' : Hp} {c : Addr} {l : K1} (g : Tups H H') (x : At1 H c l) : At1 H' c l := g c _ x
theorem At2.up {H H' : Hp} {b : Addr} {k : K2} (g : Tups H H') (x : At2 H b k) : At2 H' b k := by
  obtain ⟨cs, e, r⟩ := x
  exact ⟨cs, g b _ e, r.imp fun c l y => y.up g⟩

section
variable {X : Cx} {pins : List (Addr × Obj)} {σ : L2.St} {H : Hp} {s : Shared}
theorem nested_of {α : Type} {f : α → NK} {g : α → V} (step : ∀ x v, RelV (g x) v → NestedIs s.heap (f x) v) : ∀ {xs : List α} {us : List Value}, Vals (xs.map g) us → NestedAll s.heap (xs.map f) us
  | [], _, .nil => .nil
  | x :: xs, _, .cons r t => .cons (step x _ r) (nested_of step t)
theorem at1_is (I : Inv X pins σ H s) {c : Addr} {l : K1} (x : At1 H c l) : NestedIs s.heap (nk1 l) (.ref c) := by
  obtain ⟨its, r, ⟨o, ho, hc, n, hd⟩, _⟩ := I.tuple (SqT.of x)
  exact .tup ho hc hd (nested_of (f := NestedKey.text) (g := V.str) (fun y v e => by obtain ⟨t, rfl⟩ := e; exact .text _ _) (by simpa using r))
theorem at1s_are (I : Inv X pins σ H s) : ∀ {cs : List Addr} {k : K2} {us : List Value}, All2 (At1 H) cs k → Vals (cs.map V.ref) us → NestedAll s.heap (k.map nk1) us
  | [], [], _, _, .nil => .nil
  | c :: cs, l :: k, _, ⟨a, r⟩, .cons e t => by
    cases e
    exact .cons (at1_is I a) (at1s_are I r t)
  | [], _ :: _, _, h, _ => h.elim
  | _ :: _, [], _, h, _ => h.elim
theorem at2_is (I : Inv X pins σ H s) {b : Addr} {k : K2} (x : At2 H b k) : NestedIs s.heap (nk2 k) (.ref b) := by
  obtain ⟨cs, e, r⟩ := x
  obtain ⟨its, rv, ⟨o, ho, hc, n, hd⟩, _⟩ := I.tuple (SqT.of e)
  exact .tup ho hc hd (by simpa using at1s_are I r rv)
theorem at2_isN (I : Inv X pins σ H s) {b : Addr} {k : K2} (x : At2 H b k) : IsN s.heap (nk2 k) b := ⟨at2_is I x, Nat.le_trans (nk2_depth k) (by decide)⟩
end

/-! ### the set as a thing of the abstract heap -/
def nkP (p : Addr × K2) : Addr × NK := (p.1, nk2 p.2)
/-- a set, its keys' own tuples apart -/
def SetBare (w : World) (h : Heap) (a : Addr) (L : List (Addr × NK)) : Prop := ∃ (es : Array (Int × Value)) (ep : Nat) (t : SetTable), (∃ o, h.get? a = some o ∧ o.ExactSet ∧ o.data = .set es ep t) ∧ es.toList = rowsN w L ∧ TabF t (hashesN w L) ∧ Mask4 t.mask ∧
  (L.map (·.2)).Nodup ∧ (w.params.followText "set-order" = true ∨ t.led = true) ∧ L.length * 5 < t.mask * 3 ∧ L.length < 300
theorem SetN.bare {w : World} {h : Heap} {a : Addr} {L : List (Addr × NK)} {es : Array (Int × Value)} {ep : Nat} {t : SetTable} (R : SetN w h a L es ep t) : SetBare w h a L :=
  ⟨es, ep, t, R.ob, R.rows, R.tab, R.mask, R.nd, R.led, R.room, R.few⟩
theorem SetBare.whole {w : World} {h : Heap} {a : Addr} {L : List (Addr × NK)} (R : SetBare w h a L) (keys : ∀ p ∈ L, IsN h p.2 p.1) : ∃ es ep t, SetN w h a L es ep t := by
  obtain ⟨es, ep, t, h1, h2, h3, h4, h5, h6, h7, h8⟩ := R
  exact ⟨es, ep, t, h1, h2, h3, h4, h5, keys, h6, h7, h8⟩
def SetK (w : World) (a : Addr) (L : List (Addr × K2)) : HO := .ext fun h => SetBare w h a (L.map nkP)
theorem setK_ok {P : Program} {w : World} {H : Hp} {h : Heap} {a : Addr} {L : List (Addr × K2)} (R : SetBare w h a (L.map nkP)) : ObjOk P w H h a (SetK w a L) := by
  have ⟨es, ep, t, ⟨o, ho, r⟩, q⟩ := R
  refine ⟨R, ⟨o, ho⟩, fun h1 h2 p k => ?_⟩
  have ⟨es', ep', t', ⟨o', ho', r'⟩, q'⟩ := p
  exact ⟨es', ep', t', ⟨o', k o' ho', r'⟩, q'⟩
theorem map_back {α β : Type} {f : α → β} {ks : List α} : ∀ {L : List β}, (∀ p ∈ L, p ∈ ks.map f) → ∃ L' : List α, L = L'.map f ∧ ∀ q ∈ L', q ∈ ks
  | [], _ => ⟨[], rfl, fun _ z => nomatch z⟩
  | p :: L, h => by
    obtain ⟨q, hq, e⟩ := List.mem_map.mp (h p List.mem_cons_self)
    obtain ⟨L', e', hs⟩ := map_back (L := L) fun r hr => h r (List.mem_cons_of_mem _ hr)
    refine ⟨q :: L', by rw [List.map_cons, e, e'], fun r hr => ?_⟩
    rcases List.mem_cons.mp hr with z | z
    · rw [z]; exact hq
    · exact hs r z
theorem refsV_of {α : Type} {f : α → Addr} : ∀ {ks : List α} {us : List Value}, Vals (ks.map fun p => V.ref (f p)) us → us = ks.map fun p => Value.ref (f p)
  | [], _, .nil => rfl
  | p :: ks, _, .cons r t => by
    cases r
    rw [refsV_of t] <;> rfl
theorem of_refsV {α : Type} {f : α → Addr} : ∀ (ks : List α), Vals (ks.map fun p => V.ref (f p)) (ks.map fun p => Value.ref (f p))
  | [] => .nil
  | p :: ks => .cons rfl (of_refsV ks)
theorem nodup2 {L : List (Addr × K2)} (h : ((L.map nkP).map (·.2)).Nodup) : (L.map (·.2)).Nodup := by
  rw [List.map_map] at h
  have e : ((fun x : Addr × NK => x.2) ∘ nkP) = nk2 ∘ (fun x : Addr × K2 => x.2) := rfl
  rw [e, ← List.map_map] at h
  exact nodup_of_map h
section
variable {X : Cx}
/-- set(a list of products) -/
def rSet2 (w : World) : List V → Hp → VK → Prop := fun vs H Q => ∃ (l : Addr) (ks : List (Addr × K2)), vs = [V.ref l] ∧ H l = some (.lst (ks.map fun p => V.ref p.1)) ∧ (∀ p ∈ ks, At2 H p.1 p.2) ∧ ks.length < 300 ∧
  ∀ a L, H a = none → (∀ p ∈ L, p ∈ ks) → (∀ p ∈ ks, p.2 ∈ L.map (·.2)) → Q (.ref a) (upd H a (SetK w a L))
theorem cr_set2 (hc : X.calm = true) (hu : X.A.units + 64 < cLine) : CallR X (.type "set") (rSet2 X.w) := by
  intro pins s st H vs us Q I r h
  obtain ⟨l, ks, rfl, hl, hk, few, q⟩ := h
  rw [Vals.ref1 r]
  obtain ⟨its, rv, pl, hz⟩ := I.list (SqL.of hl)
  have hn : H s.heap.objs.size = none := I.hok.fresh (Nat.le_refl _)
  have eit : its = (ks.map nkP).map fun p => Value.ref p.1 := by rw [refsV_of rv, List.map_map]; rfl
  refine call_setN (w := X.w) (ks.map nkP) (I.ok.hd hc) pl.isList (by simpa using eit) (fun p hp => ?_) (by rw [List.length_map]; exact few) (by omega) fun h' tk L es ep t R g k => ?_
  · obtain ⟨p0, hp0, rfl⟩ := List.mem_map.mp hp
    exact at2_isN I (hk p0 hp0)
  · obtain ⟨L', rfl, sub⟩ := map_back (f := nkP) (ks := ks) (L := L) fun p hp => List.mem_of_mem_take (g.sub p hp)
    refine ⟨.ref s.heap.objs.size, upd H s.heap.objs.size (SetK X.w s.heap.objs.size L'), I.laid (t' := tk) k (Nat.le_refl _) (setK_ok R.bare), rfl, q _ L' hn sub fun p hp => ?_⟩
    have z := g.all (nkP p) (by rw [List.take_length]; exact List.mem_map.mpr ⟨p, hp, rfl⟩)
    obtain ⟨y, hy, e⟩ := List.mem_map.mp z
    obtain ⟨y0, hy0, rfl⟩ := List.mem_map.mp hy
    exact List.mem_map.mpr ⟨y0, hy0, nk2_inj _ _ e⟩
/-- sorted(a set of products) -/
def rSorted2 (w : World) : List V → Hp → VK → Prop := fun vs H Q => ∃ (a : Addr) (L : List (Addr × K2)), vs = [V.ref a] ∧ H a = some (SetK w a L) ∧ (∀ p ∈ L, At2 H p.1 p.2) ∧
  ∀ (L' : List (Addr × K2)) (p : Addr), L'.Perm L → (L'.map (·.2)).Nodup → H p = none → Q (.ref p) (upd H p (.lst (L'.map fun q => V.ref q.1)))
theorem cr_sorted2 (hc : X.calm = true) (hu : X.A.units + 64 < cLine) : CallR X (.builtin "sorted") (rSorted2 X.w) := by
  intro pins s st H vs us Q I r h
  obtain ⟨a, L, rfl, ha, hk, q⟩ := h
  rw [Vals.ref1 r]
  have R0 : SetBare X.w s.heap a (L.map nkP) := (I.hok a _ ha).1
  obtain ⟨es, ep, t, R⟩ := R0.whole fun p hp => by
    obtain ⟨p0, hp0, rfl⟩ := List.mem_map.mp hp
    exact at2_isN I (hk p0 hp0)
  obtain ⟨o, ho, hex, hd⟩ := R.ob
  have len := R.size
  have few := R.few
  rw [List.length_map] at len few
  refine Calls.call_function_entry kind_sorted plain_sorted entry_sorted (args_sorted1 _) ?_
  unfold Builtin.«sorted»
  refine wpAny_bind (m := checkCount "sorted" 1 1 _) (wpAny_pure ?_)
  refine wpAny_bind (collect_set (A := X.A.in1) (I.ok.hd hc) ⟨o, ho, hex.1, hd⟩ R.fits (by unfold scanBound; omega) R.tab.ris R.led fun s1 vs k1 hz g1 o1 pm => ?_)
  have hes : es.toList.map (·.2) = L.map fun q => Value.ref q.1 := by
    rw [R.rows, rowsN, List.map_map, List.map_map]
    rfl
  rw [hes] at pm
  have lv : vs.length = L.length := by rw [pm.length_eq, List.length_map]
  refine wpAny_bind (wpAny_newList ?_ (by rw [sizeLine_eq]; omega))
  have hoL : (s1.heap.push (seqObj "list" vs.toArray 0)).get? s1.heap.objs.size = some (seqObj "list" vs.toArray 0) := Heap.get?_push_size _ rfl
  have isK : ∀ q ∈ L, NestedIs (s1.heap.push (seqObj "list" vs.toArray 0)) (nk2 q.2) (.ref q.1) := fun q hq => ((at2_isN I (hk q hq)).keep fun b u e => Heap.get?_push_of_some _ (k1 b u e)).1
  have hv : ∀ v ∈ vs, ∃ k, NestedIs (s1.heap.push (seqObj "list" vs.toArray 0)) (nk2 k) v := fun v hm => by
    obtain ⟨q, hq, e⟩ := List.mem_map.mp (pm.mem_iff.mp hm)
    subst e
    exact ⟨q.2, isK q hq⟩
  refine wpAny_bind (wpAny_holding (wpAny_call_entry slot_list_sort ⟨_, hoL, rfl⟩ entry_list_sort
    (SrtO.list_sort_ord (s := { s1 with heap := s1.heap.push (seqObj "list" vs.toArray 0) }) (ltv := fun v u => ltK (kOf (s1.heap.push (seqObj "list" vs.toArray 0)) v) (kOf (s1.heap.push (seqObj "list" vs.toArray 0)) u))
      ⟨fun x y e => ltK_lin.swo.asym _ _ e, fun x y z e f => ltK_lin.swo.tr _ _ _ e f⟩ hoL (by rw [sizeLine_eq]; omega)
      (fun h2 => sortable_K (s := { s1 with heap := s1.heap.push (seqObj "list" vs.toArray 0) }) h2 (by simp only [Around.in1_units]; omega) hv ⟨_, hoL, by simp [seqObj]⟩) fun out a1 a2 => ⟨_, rfl, ?_⟩) (args_list_sort _)))
  obtain ⟨c, hc'⟩ := sortedHeap_at (vs := vs) (out := out.toArray) hoL
  have p1 : out.Perm (L.map fun q => Value.ref q.1) := a2.perm.trans pm
  obtain ⟨L', e', sub⟩ := map_back (f := fun q : Addr × K2 => Value.ref q.1) (ks := L) (L := out) fun v hm => p1.mem_iff.mp hm
  -- one address, one key
  have one : ∀ q ∈ L, ∀ r ∈ L, q.1 = r.1 → q = r := fun q hq r hr e => by
    have x1 := isK q hq
    have x2 := isK r hr
    rw [e] at x1
    exact Prod.ext e (nk2_inj _ _ (NestedIs.inj _ _ _ x1 x2))
  have nd : (L.map (·.2)).Nodup := nodup2 R.nd
  have nref : (L.map fun q => Value.ref q.1).Nodup := by
    refine List.pairwise_map.mpr (List.Pairwise.imp_of_mem (fun {q r} hq hr hne e => ?_) (nodup_of_map nd))
    injection e with e
    exact hne (one q hq r hr e)
  have pL : L'.Perm L := by
    have n1 : L'.Nodup := nodup_of_map (by rw [← e']; exact p1.nodup_iff.mpr nref)
    refine (List.perm_ext_iff_of_nodup n1 (nodup_of_map nd)).mpr fun q => ⟨sub q, fun hq => ?_⟩
    have hm : Value.ref q.1 ∈ out := p1.mem_iff.mpr (List.mem_map.mpr ⟨q, hq, rfl⟩)
    rw [e'] at hm
    obtain ⟨r, hr, e⟩ := List.mem_map.mp hm
    injection e with e
    rw [← one r (sub r hr) q hq e]
    exact hr
  have hn : H s1.heap.objs.size = none := I.hok.fresh hz
  have up : ∀ b u, s.heap.get? b = some u → (sortedHeap (s1.heap.push (seqObj "list" vs.toArray 0)) s1.heap.objs.size vs out.toArray).get? b = some u := fun b u e => by
    have e1 := k1 b u e
    have lt := Heap.lt_size e1
    rw [sortedHeap_old (Nat.ne_of_lt lt) (by rw [size_push']; exact Nat.lt_succ_of_lt lt)]
    exact Heap.get?_push_of_some _ e1
  have ll : (L'.map fun q => V.ref q.1).length ≤ sizeLine := by rw [List.length_map, pL.length_eq, sizeLine_eq]; omega
  have vv : Vals (L'.map fun q => V.ref q.1) out := by rw [e']; exact of_refsV L'
  refine wpAny_pure ⟨_, rfl, ?_⟩
  refine ⟨.ref s1.heap.objs.size, upd H s1.heap.objs.size (.lst (L'.map fun q => V.ref q.1)), I.call' (s' := { s1 with heap := sortedHeap (s1.heap.push (seqObj "list" vs.toArray 0)) s1.heap.objs.size vs out.toArray }) (ch := []) o1 (Un.laid up hz hn) (I.hok.laid up hz ⟨ll, out, c, vv, hc'⟩) (by rw [g1]; exact I.bare) (fun _ z => nomatch z), rfl, q L' s1.heap.objs.size pL ((pL.map (·.2)).nodup_iff.mpr nd) hn⟩
end
end KX

/-! KX11: == and != of tuples of texts, and of tuples of those. -/
namespace KX
open PySem PySem.Spec PyProof.Rows L2
section
open SeqAt
variable {A : Around} {s : Shared}
theorem pairs_at {xs ys : List NK} {a b : Addr} (ha : NestedIs s.heap (.tup xs) (.ref a)) (hb : NestedIs s.heap (.tup ys) (.ref b)) (hu : A.units + 8 < cLine) (dx : NestedKey.depthAll xs ≤ 4) :
    RcAt A s (.ref a) (.ref b) (NestedKey.beqAll xs ys) ∧ RcNeAt A s (.ref a) (.ref b) (!NestedKey.beqAll xs ys) := by
  cases ha with
  | @tup _ o vs n _ h1 h2 h3 h4 =>
    cases hb with
    | @tup _ o' us n' _ k1 k2 k3 k4 =>
      have n1 : vs.size = xs.length := by simpa using (NestedAll.length _ _ h4)
      have n2 : us.size = ys.length := by simpa using (NestedAll.length _ _ k4)
      have he : ∀ j (j1 : j < vs.size) (j2 : j < us.size), EqAt A.in1 s vs[j] us[j] (keyEqAt xs ys j) := fun j j1 j2 => by
        have := eqAt_keys xs ys A.in1 s vs.toList us.toList h4 k4 (by simp only [Around.in1_units]; omega) j (by simpa using j1) (by simpa using j2)
        simpa using this
      rw [← beqAll_eq xs ys, ← n1, ← n2]
      exact ⟨RcAt.tuples ⟨_, h1, h2, _, h3⟩ ⟨_, k1, k2, _, k3⟩ (by omega) he, RcNeAt.tuples ⟨_, h1, h2, _, h3⟩ ⟨_, k1, k2, _, k3⟩ (by omega) he⟩
end
theorem beqAll_dec {α : Type} [DecidableEq α] {f : α → NK} (inj : ∀ x y, f x = f y → x = y) (xs ys : List α) : NestedKey.beqAll (xs.map f) (ys.map f) = decide (xs = ys) := by
  have e : NestedKey.beqAll (xs.map f) (ys.map f) = NestedKey.beq (.tup (xs.map f)) (.tup (ys.map f)) := rfl
  rw [e, beq_dec]
  by_cases h : xs = ys
  · rw [h]; simp
  · rw [decide_eq_false h, decide_eq_false fun z => h (by injection z with z; exact map_inj inj z)]
section
variable {X : Cx}
def rEqT (at_ : Hp → Addr → α → Prop) [DecidableEq α] (ne : Bool) : R2 := fun x y H Q => ∃ a b k m, x = V.ref a ∧ y = V.ref b ∧ at_ H a k ∧ at_ H b m ∧ Q (.bl (if ne then !decide (k = m) else decide (k = m))) H
theorem d1 (k : K1) : NestedKey.depthAll (k.map .text) ≤ 4 := by
  have := nk1_depth k
  have e : (nk1 k).depth = NestedKey.depthAll (k.map .text) + 1 := rfl
  omega
theorem d2 (k : K2) : NestedKey.depthAll (k.map nk1) ≤ 4 := by
  have := nk2_depth k
  have e : (nk2 k).depth = NestedKey.depthAll (k.map nk1) + 1 := rfl
  omega
theorem op_eq1 (hu : X.A.units + 64 < cLine) : OpR X (compareOp .Eq) (rEqT At1 false) := by
  intro pins s st H x y v u Q I rx ry h
  obtain ⟨a, b, k, m, rfl, rfl, ha, hb, q⟩ := h
  cases rx
  cases ry
  refine (pairs_at (at1_is I ha) (at1_is I hb) (by omega) (d1 k)).1 X.prog X.w _ _ ⟨.bl _, H, I, rfl, ?_⟩
  rw [beqAll_dec fun x y e => by injection e with e]
  exact q
theorem op_ne1 (hu : X.A.units + 64 < cLine) : OpR X (compareOp .NotEq) (rEqT At1 true) := by
  intro pins s st H x y v u Q I rx ry h
  obtain ⟨a, b, k, m, rfl, rfl, ha, hb, q⟩ := h
  cases rx
  cases ry
  refine (pairs_at (at1_is I ha) (at1_is I hb) (by omega) (d1 k)).2 X.prog X.w _ _ ⟨.bl _, H, I, rfl, ?_⟩
  rw [beqAll_dec fun x y e => by injection e with e]
  exact q
theorem op_ne2 (hu : X.A.units + 64 < cLine) : OpR X (compareOp .NotEq) (rEqT At2 true) := by
  intro pins s st H x y v u Q I rx ry h
  obtain ⟨a, b, k, m, rfl, rfl, ha, hb, q⟩ := h
  cases rx
  cases ry
  refine (pairs_at (at2_is I ha) (at2_is I hb) (by omega) (d2 k)).2 X.prog X.w _ _ ⟨.bl _, H, I, rfl, ?_⟩
  rw [beqAll_dec nk1_inj]
  exact q
end
end KX

/-! W1: the text by places, the things in the heap, the smallest defs. -/
namespace Wk
open PySem L2 KX K55

def topS (i : Nat) : Stmt := PySem.Challenge.pw_lostpost_k55_whole_a_tree_above_each.main.body.getD i (.Pass ⟨0, 0, 0, 0⟩)
abbrev sNames : Stmt := topS 1
abbrev sSize : Stmt := topS 2
abbrev sSwal : Stmt := topS 4
abbrev sPlainP : Stmt := topS 5
abbrev sMay : Stmt := topS 6
abbrev sWithin : Stmt := topS 7
abbrev sPlains : Stmt := topS 8
abbrev sPlain : Stmt := topS 10
abbrev sByBody : Stmt := topS 12
abbrev sByThing : Stmt := topS 13
abbrev sTree : Stmt := topS 14
abbrev sMakers : Stmt := topS 16
abbrev cDowns : Stmt := topS 18
abbrev sInit : Stmt := inClass cDowns 0
abbrev sReached : Stmt := inClass cDowns 1
abbrev sLetters : Stmt := inClass cDowns 2
abbrev sOfBody : Stmt := inClass cDowns 3
abbrev sExpr : Stmt := inClass cDowns 4
abbrev sKnot : Stmt := inClass cDowns 5
abbrev sAnyOf : Stmt := topS 19
abbrev sDownOf : Stmt := topS 20
abbrev sDeal : Stmt := topS 22
abbrev sDraw : Stmt := topS 23
abbrev sWhole : Stmt := topS 24
abbrev sLLetters : Stmt := topS 25
abbrev sGrammar : Stmt := topS 26
abbrev sInner : Stmt := topS 27
abbrev sWord : Stmt := topS 28
abbrev sUnder : Stmt := topS 29
abbrev sPHas : Stmt := topS 30
abbrev sHas : Stmt := topS 31
abbrev sIsTree : Stmt := topS 32
abbrev sWordOf : Stmt := topS 33
abbrev sHad : Stmt := topS 34
abbrev sLaw : Stmt := topS 35

/-- the names that are still the built-in ones -/
structure Blt (mg : Str → Option Value) : Prop where
  isi : mg "isinstance" = none
  str : mg "str" = none
  len : mg "len" = none
  any : mg "any" = none
  all : mg "all" = none
  sorted : mg "sorted" = none
  set : mg "set" = none
  tuple : mg "tuple" = none
  list : mg "list" = none
  int : mg "int" = none
  bool : mg "bool" = none
  range : mg "range" = none
  enum : mg "enumerate" = none
  max : mg "max" = none
  sum : mg "sum" = none
  rev : mg "reversed" = none

/-! ### letters, words, things -/
def tx (w : List Nat) : Str := ⟨w.toArray⟩
theorem tx_len (w : List Nat) : (tx w).length = w.length := by
  show w.toArray.size = w.length
  exact List.size_toArray
theorem tx_inj {u v : List Nat} (h : tx u = tx v) : u = v := by
  have e := congrArg (fun z : Str => z.cps.toList) h
  simpa [tx] using e
theorem tx_append (u v : List Nat) : tx u ++ tx v = tx (u ++ v) := by
  show (⟨u.toArray ++ v.toArray⟩ : Str) = ⟨(u ++ v).toArray⟩
  rw [List.append_toArray]
theorem tx_list (w : List Nat) : (tx w).cps.toList = w := by simp [tx]
def thV : Thing → V
  | .lt c => .str (tx [c])
  | .nm n => .int (n : Nat)
def pcK : Piece → K1
  | .mb c => ["maybe", tx [c]]
  | .an s => ["any", tx s]
theorem any_ne : ¬ (("any" : Str) = "maybe") := by decide +kernel
theorem pcK_inj {a b : Piece} (h : pcK a = pcK b) : a = b := by
  cases a with
  | mb c =>
    cases b with
    | mb d => injection h with _ h; injection h with h _; have := tx_inj h; injection this with this; rw [this]
    | an s => injection h with h _; exact absurd h.symm any_ne
  | an s =>
    cases b with
    | mb d => injection h with h _; exact absurd h any_ne
    | an t => injection h with _ h; injection h with h _; rw [tx_inj h]
def prK (p : Product) : K2 := p.map pcK
theorem prK_inj {p q : Product} (h : prK p = prK q) : p = q := map_inj (fun _ _ => pcK_inj) h
def PcAt (H : Hp) (c : Addr) (a : Piece) : Prop := At1 H c (pcK a)
def PrAt (H : Hp) (b : Addr) (p : Product) : Prop := ∃ cs : List Addr, H b = some (.tup (cs.map V.ref)) ∧ All2 (PcAt H) cs p
def ExAt (H : Hp) (e : Addr) (S : List Product) : Prop := ∃ bs : List Addr, H e = some (.tup (bs.map V.ref)) ∧ All2 (PrAt H) bs S
def ExL (H : Hp) (e : Addr) (S : List Product) : Prop := ∃ bs : List Addr, H e = some (.lst (bs.map V.ref)) ∧ All2 (PrAt H) bs S
theorem _root_.KX.All2.mapR {α β γ : Type} {f : α → γ → Prop} {g : β → γ} : ∀ {xs : List α} {ys : List β}, All2 (fun x y => f x (g y)) xs ys → All2 f xs (ys.map g)
  | [], [], _ => trivial
  | _ :: _, _ :: _, ⟨a, r⟩ => ⟨a, r.mapR⟩
  | [], _ :: _, h => h.elim
  | _ :: _, [], h => h.elim
theorem PrAt.at2 {H : Hp} {b : Addr} {p : Product} (x : PrAt H b p) : At2 H b (prK p) := by
  obtain ⟨cs, e, r⟩ := x
  exact ⟨cs, e, All2.mapR (f := At1 H) (g := pcK) r⟩
theorem PcAt.up {H H' : Hp} {c : Addr} {a : Piece} (g : Tups H H') (x : PcAt H c a) : PcAt H' c a := At1.up g x
theorem PrAt.up {H H' : Hp} {b : Addr} {p : Product} (g : Tups H H') (x : PrAt H b p) : PrAt H' b p := by
  obtain ⟨cs, e, r⟩ := x
  exact ⟨cs, g b _ e, r.imp fun c a y => y.up g⟩
theorem ExAt.up {H H' : Hp} {b : Addr} {S : List Product} (g : Tups H H') (x : ExAt H b S) : ExAt H' b S := by
  obtain ⟨cs, e, r⟩ := x
  exact ⟨cs, g b _ e, r.imp fun c a y => y.up g⟩
/-! the grammar -/
def BodyAt (H : Hp) (b : Addr) (body : Body) : Prop := H b = some (.tup (body.map thV))
def RuleAt (H : Hp) (r : Addr) (x : Nat × Body) : Prop := ∃ b, H r = some (.tup [.int (x.1 : Nat), .ref b]) ∧ BodyAt H b x.2
def RulesT (H : Hp) (rs : Addr) (R : Rules) : Prop := ∃ as : List Addr, H rs = some (.tup (as.map V.ref)) ∧ All2 (RuleAt H) as R
def GramAt (H : Hp) (g : Addr) (N : Nat) (R : Rules) : Prop := ∃ rs, H g = some (.tup [.int (N : Nat), .ref rs]) ∧ RulesT H rs R
theorem BodyAt.up {H H' : Hp} {b : Addr} {x : Body} (g : Tups H H') (h : BodyAt H b x) : BodyAt H' b x := g b _ h
theorem RuleAt.up {H H' : Hp} {b : Addr} {x : Nat × Body} (g : Tups H H') (h : RuleAt H b x) : RuleAt H' b x := by
  obtain ⟨c, e, r⟩ := h
  exact ⟨c, g b _ e, r.up g⟩
theorem RulesT.up {H H' : Hp} {b : Addr} {x : Rules} (g : Tups H H') (h : RulesT H b x) : RulesT H' b x := by
  obtain ⟨c, e, r⟩ := h
  exact ⟨c, g b _ e, r.imp fun _ _ y => y.up g⟩
theorem GramAt.up {H H' : Hp} {b : Addr} {N : Nat} {x : Rules} (g : Tups H H') (h : GramAt H b N x) : GramAt H' b N x := by
  obtain ⟨c, e, r⟩ := h
  exact ⟨c, g b _ e, r.up g⟩
theorem _root_.L2.Same.tups {H H' : Hp} (g : Same H H') : Tups H H' := fun b xs e => g b _ e
theorem same_new {H : Hp} {p : Addr} {o : HO} (n : H p = none) : L2.Same H (upd H p o) := fun b u e => by rw [upd_ne (ne_of_none e n)]; exact e
theorem _root_.L2.Same.new {H H1 : Hp} {p : Addr} {o : HO} (g : Same H H1) (n : H1 p = none) : Same H (upd H1 p o) := g.trans (same_new n)
theorem _root_.L2.Same.put {H H1 : Hp} {p : Addr} {o : HO} (g : Same H H1) (n : H p = none) : Same H (upd H1 p o) := fun b u e => by rw [upd_ne (ne_of_none e n)]; exact g b u e
theorem tups_put {H : Hp} {p : Addr} {xs : List V} {o : HO} (n : H p = some (.lst xs)) : Tups H (upd H p o) := Tups.upd n fun _ z => nomatch z
theorem tups_putD {H : Hp} {p : Addr} {xs : List (Key × V)} {o : HO} (n : H p = some (.dK xs)) : Tups H (upd H p o) := Tups.upd n fun _ z => nomatch z
theorem tups_new {H : Hp} {p : Addr} {o : HO} (n : H p = none) : Tups H (upd H p o) := L2.Same.tups (same_new n)

/-! ### isinstance(x, str) of a letter or a name -/
def isS : V → Bool
  | .str _ => true
  | _ => false
section
variable {X : Cx}
theorem call_isS : CallR X (.builtin "isinstance") (fun xs H Q => ∃ x, xs = [x, .ty "str"] ∧ ((∃ s, x = .str s) ∨ ∃ i, x = .int i) ∧ Q (.bl (isS x)) H) := by
  intro pins s st H xs us Q I r h
  obtain ⟨x, rfl, hx, q⟩ := h
  rcases hx with ⟨y, rfl⟩ | ⟨i, rfl⟩
  · exact call_isi pins s st H _ us Q I r ⟨_, _, .type "str", .type "str", true, rfl, .ty _, .base (.str y), kit_ty (by decide +kernel), q⟩
  · exact call_isi pins s st H _ us Q I r ⟨_, _, .type "int", .type "str", false, rfl, .ty _, .base (.int i), kit_ty (by decide +kernel), q⟩
theorem boot_isi : bootBuiltins "isinstance" = some (.builtin "isinstance") := by decide +kernel
/-- isinstance(x, str), x a name -/
theorem pe_isS {y : Str} {p0 : Pos} {t : TE} {pos : Pos} {p p2 : Pos} (gi : Gl X "isinstance") (gs : Gl X "str") (hi : X.mg "isinstance" = none) (hs : X.mg "str" = none) (he : PE X (.Name y p0) t) :
    PE X (.Call (.Name "isinstance" p) [.Name y p0, .Name "str" p2] [] pos) (tCB (fun xs H Q => ∃ x, xs = [x, .ty "str"] ∧ ((∃ s, x = .str s) ∨ ∃ i, x = .int i) ∧ Q (.bl (isS x)) H) (tCons t (tCons (tC (.ty "str")) tNil))) :=
  pe_callB call_isS gi hi boot_isi (pa_cons he (pa_cons (pe_bltn (u := .type "str") gs hs (by decide +kernel) rfl) pa_nil))
end
theorem th_isS (t : Thing) : (∃ s, thV t = .str s) ∨ ∃ i, thV t = .int i := by
  cases t with
  | lt c => exact .inl ⟨_, rfl⟩
  | nm n => exact .inr ⟨_, rfl⟩
def isLt : Thing → Bool
  | .lt _ => true
  | .nm _ => false
theorem th_S (t : Thing) : isS (thV t) = isLt t := by cases t <;> rfl

/-! ### where a def stands, what it keeps -/
/-- the def x of the top stands as st -/
structure Src (K : PySem.W.Frag) (mg : Str → Option Value) (x : Str) (st : Stmt) (ps : List Str) : Prop where
  ex : ∃ f fd, mg x = some (.ref f) ∧ Fun K x x st f fd ∧ Binds K fd ps []
/-- the def x of the top keeps sp, n levels down -/
structure Dfn (P : Program) (w : World) (K : PySem.W.Frag) (mg : Str → Option Value) (base : Heap) (x : Str) (n : Nat) (ps : List Str) (sp : Sp) : Prop where
  ex : ∃ f fd, mg x = some (.ref f) ∧ FnOk P w K mg base CX0 n f fd ps sp ∧ Binds K fd ps [] ∧ PySem.W.keepIn K (.ref f) = true

/-! ### walks over a text -/
theorem lc_str {x : Str} {g : TG} {tt : TT} {te : TE} {vs : List Nat} {σ : L2.St} {H1 : Hp} {D : Addr} {Qd : Hp → Prop} (Pv : Nat → Hp → Prop) (h0 : Pv 0 (upd H1 D (.lst [])))
    (hs : ∀ i c H, x.cps[i]? = some c → Pv i H → g (.str ⟨#[c]⟩) (wipe σ vs) H fun σ2 H2 => wipe σ2 vs = wipe σ vs ∧ tt σ2 H2 fun b H3 =>
      if b = true then te σ2 H3 fun y H4 => ∃ acc, H4 D = some (.lst acc) ∧ acc.length < sizeLine ∧ Pv (i + 1) (upd H4 D (.lst (acc ++ [y]))) else Pv (i + 1) H3) (hd : ∀ H, Pv x.cps.size H → Qd H) :
    ∃ W : Nat → Nat → Hp → Prop, (∃ m, W 0 m (upd H1 D (.lst []))) ∧ ∀ i m H, W i m H →
      ((Its x).stop i H ∧ Qd H) ∨ ((Its x).go i H ∧ ∃ Nx : Hp → Prop, (∀ H', Nx H' → ∃ m', m' < m ∧ W (i + 1) m' H') ∧ ∀ x' H', (Its x).yld i H x' H' → g x' (wipe σ vs) H' fun σ2 H2 => wipe σ2 vs = wipe σ vs ∧ tt σ2 H2 fun b H3 =>
        if b = true then te σ2 H3 fun y H4 => ∃ acc, H4 D = some (.lst acc) ∧ acc.length < sizeLine ∧ Nx (upd H4 D (.lst (acc ++ [y]))) else Nx H3) := by
  refine ⟨fun i m H => m = x.cps.size - i ∧ i ≤ x.cps.size ∧ Pv i H, ⟨x.cps.size, rfl, Nat.zero_le _, h0⟩, ?_⟩
  rintro i m H ⟨rfl, hi, p⟩
  rcases Nat.lt_or_ge i x.cps.size with lt | ge
  · refine .inr ⟨lt, Pv (i + 1), fun H' p' => ⟨x.cps.size - (i + 1), by omega, rfl, lt, p'⟩, ?_⟩
    rintro x' H' ⟨rfl, c, hc, rfl⟩
    exact hs i c _ hc p
  · have e : i = x.cps.size := Nat.le_antisymm hi ge
    subst e
    exact .inl ⟨Nat.le_refl _, hd H p⟩
theorem for_str {x : Str} {g : TG} {tb : TS} {D : Ends} {σ : L2.St} {H : Hp} (Pv : Nat → L2.St → Hp → Prop) (h0 : Pv 0 σ H)
    (hs : ∀ i c σ H, x.cps[i]? = some c → Pv i σ H → g (.str ⟨#[c]⟩) σ H fun σ2 H2 => tb { D with nx := Pv (i + 1), ct := Pv (i + 1), bk := D.nx } σ2 H2) (hd : ∀ σ H, Pv x.cps.size σ H → D.nx σ H) :
    ∃ W : Nat → Nat → L2.St → Hp → Prop, (∃ m, W 0 m σ H) ∧ ∀ i m σ H, W i m σ H →
      ((Its x).stop i H ∧ D.nx σ H) ∨ ((Its x).go i H ∧ ∃ N : L2.St → Hp → Prop, (∀ σ' H', N σ' H' → ∃ m', m' < m ∧ W (i + 1) m' σ' H') ∧ ∀ x' H', (Its x).yld i H x' H' → g x' σ H' fun σ2 H2 => tb { D with nx := N, ct := N, bk := D.nx } σ2 H2) := by
  refine ⟨fun i m σ H => m = x.cps.size - i ∧ i ≤ x.cps.size ∧ Pv i σ H, ⟨x.cps.size, rfl, Nat.zero_le _, h0⟩, ?_⟩
  rintro i m σ H ⟨rfl, hi, p⟩
  rcases Nat.lt_or_ge i x.cps.size with lt | ge
  · refine .inr ⟨lt, Pv (i + 1), fun σ' H' p' => ⟨x.cps.size - (i + 1), by omega, rfl, lt, p'⟩, ?_⟩
    rintro x' H' ⟨rfl, c, hc, rfl⟩
    exact hs i c σ _ hc p
  · have e : i = x.cps.size := Nat.le_antisymm hi ge
    subst e
    exact .inl ⟨Nat.le_refl _, hd σ H p⟩

/-! ### names_in, _law_inner -/
def nmV (n : Nat) : V := .int (n : Nat)
def spNames : Sp := fun vs H Q _ => ∃ (b : Addr) (body : Body), vs = [.ref b] ∧ BodyAt H b body ∧ body.length ≤ 1000 ∧
  ∀ H' p, Same H H' → H p = none → H' p = some (.lst ((namesOf body).map nmV)) → Q (.ref p) H'
theorem namesOf_take (body : Body) (i : Nat) (t : Thing) (h : body[i]? = some t) : namesOf (body.take (i + 1)) = namesOf (body.take i) ++ (match t with | .nm n => [n] | .lt _ => []) := by
  have e : body.take (i + 1) = body.take i ++ [t] := by rw [List.take_add_one, h]; rfl
  rw [e]
  unfold namesOf
  rw [List.filterMap_append]
  cases t <;> rfl
theorem namesOf_len (body : Body) : (namesOf body).length ≤ body.length := List.length_filterMap_le _ _
section
variable {P : Program} {w : World} {K : PySem.W.Frag} {mg : Str → Option Value} {base : Heap}
theorem scNames : FnScope ["body", "thing"] ["body"] (defScope sNames) := ⟨rfl, rfl, rfl, by decide +kernel, rfl, by decide +kernel, by decide +kernel⟩
theorem d_names (S : Src K mg "names_in" sNames ["body"]) (B : Blt mg) : Dfn P w K mg base "names_in" 1 ["body"] spNames := by
  obtain ⟨f, fd, gf, F, bd⟩ := S.ex
  refine ⟨f, fd, gf, F.ok scNames (fun vs H Q E h => ?_) (fun cdv A outer s H vs Q E hr h => ?_), bd, F.kp⟩
  · obtain ⟨b, body, rfl, _⟩ := h
    rfl
  obtain ⟨b, body, rfl, hb, hl, q⟩ := h
  refine ⟨_, pss_one (ps_ret (pe_lc (own := [("thing", 1)]) (g := gName 1) rfl scNames.nd (pi_tup (pv 0)) (blkOk_by (N := ["body", "thing"]) (sc := defScope sNames) (by decide +kernel)) (fun _ _ _ _ _ => pg_name (i := 1) scNames.nd rfl (Or.inl rfl))
    (fun _ _ _ _ _ => pts_one (pt_not (pt_val (pe_isS (by rfl) (by rfl) B.isi B.str (pv 1))))) (fun _ _ _ _ _ => pv 1))), ?_⟩
  have hS : SqT K H b (body.map thV) := SqT.of hb
  refine ⟨_, rfl, b, rfl, ⟨_, hS⟩, fun D hD => ?_⟩
  have bD : b ≠ D := ne_of_none hb hD
  refine lc_tup (xs := body.map thV) (fun i H' => Same H H' ∧ H' D = some (.lst ((namesOf (body.take i)).map nmV))) ⟨same_new hD, upd_same⟩ (fun i H' _ p => SqT.of (p.1 _ _ hb)) ?_ ?_
  · rintro i x H' hi ⟨sm, hd⟩
    obtain ⟨t, ht, rfl⟩ : ∃ t, body[i]? = some t ∧ thV t = x := by
      rw [List.getElem?_map] at hi
      exact Option.map_eq_some_iff.mp hi
    have en := namesOf_take body i t ht
    refine ⟨rfl, _, rfl, _, rfl, th_isS t, _, rfl, ?_⟩
    rw [th_S]
    cases t with
    | lt c =>
      show Same H H' ∧ _
      rw [en]
      exact ⟨sm, by rw [List.append_nil]; exact hd⟩
    | nm n =>
      refine ⟨_, rfl, _, hd, ?_, sm.put hD, ?_⟩
      · rw [List.length_map]
        have l1 := namesOf_len (body.take i)
        have l2 : (body.take i).length ≤ body.length := List.length_take_le' _ _
        exact small1000 (by omega)
      · rw [upd_same, en, List.map_append]
        rfl
  · rintro H' ⟨sm, hd⟩
    refine q H' D sm hD ?_
    rw [hd, List.length_map, List.take_length]
end
end Wk

/-! W2: swallows, plain_product, may_take, product_within. -/
namespace Wk
open PySem L2 KX K55

/-- pieces that come: few letters; rising where any often -/
def WFp (a : Piece) : Prop := a.ls.length ≤ 63 ∧ ∀ s, a = .an s → s.Pairwise (· < ·) ∧ s ≠ []
def WFP (p : Product) : Prop := ∀ a ∈ p, WFp a
def pcKind : Piece → Str
  | .mb _ => "maybe"
  | .an _ => "any"
theorem pcK_eq (a : Piece) : (pcK a).map V.str = [.str (pcKind a), .str (tx a.ls)] := by cases a <;> rfl
theorem kind_any (a : Piece) : decide (V.str (pcKind a) = V.str "any") = a.isAny := by
  cases a with
  | mb c => exact decide_eq_false fun e => any_ne (V.str.inj e).symm
  | an s => exact decide_eq_true rfl
theorem kind_mb (a : Piece) : decide (V.str (pcKind a) = V.str "maybe") = !a.isAny := by
  cases a with
  | mb c => exact decide_eq_true rfl
  | an s => exact decide_eq_false fun e => any_ne (V.str.inj e)
theorem PcAt.sq {H : Hp} {c : Addr} {a : Piece} {K : PySem.W.Frag} (x : PcAt H c a) : SqT K H c [.str (pcKind a), .str (tx a.ls)] := by
  have x : H c = some (.tup ((pcK a).map V.str)) := x
  rw [pcK_eq] at x
  exact SqT.of x
def spSwal : Sp := fun vs H Q _ => ∃ (a b : Addr) (x y : Piece), vs = [.ref a, .ref b] ∧ PcAt H a x ∧ PcAt H b y ∧ y.ls.length ≤ 63 ∧
  ∀ H', Same H H' → Q (.bl (swallows x y)) H'
section
variable {P : Program} {w : World} {K : PySem.W.Frag} {mg : Str → Option Value} {base : Heap}
theorem scSwal : FnScope ["one", "other", "letter"] ["one", "other"] (defScope sSwal) := ⟨rfl, rfl, rfl, by decide +kernel, rfl, by decide +kernel, by decide +kernel⟩
theorem all_take (l s : List Nat) (i c : Nat) (h : l[i]? = some c) : (l.take (i + 1)).map (fun c => decide (c ∈ s)) = (l.take i).map (fun c => decide (c ∈ s)) ++ [decide (c ∈ s)] := by
  rw [List.take_add_one, h, List.map_append]
  rfl
theorem d_swal (S : Src K mg "swallows" sSwal ["one", "other"]) (B : Blt mg) : Dfn P w K mg base "swallows" 1 ["one", "other"] spSwal := by
  obtain ⟨f, fd, gf, F, bd⟩ := S.ex
  refine ⟨f, fd, gf, F.ok scSwal (fun vs H Q E h => ?_) (fun cdv A outer s H vs Q E hr h => ?_), bd, F.kp⟩
  · obtain ⟨a, b, x, y, rfl, _⟩ := h
    rfl
  obtain ⟨a, b, x, y, rfl, ha, hb, hl, q⟩ := h
  refine ⟨_, pss_one (ps_ret (pe_and (pe_cmpR op_eq (pe_ix ix_tup (pv 0) pe_int (fun _ _ => rfl)) pe_str (nomark _))
    (pe_one (pe_callB (cr_all rfl) (by rfl) B.all PyProof.Rows.boot_all (pa_cons (pe_lc (own := [("letter", 2)]) (g := gName 2) (tt := tYes) rfl scSwal.nd (pi_str (pe_ix ix_tup (pv 1) pe_int (fun _ _ => rfl))) (blkOk_by (N := ["one", "other", "letter"]) (sc := defScope sSwal) (by decide +kernel)) (fun _ _ _ _ _ => pg_name (i := 2) scSwal.nd rfl (Or.inl rfl))
      (fun _ _ _ _ _ => pts_nil) (fun _ _ _ _ _ => pe_cmpR op_in_sign (pv 2) (pe_ix (r := rIxT K) ix_tup (pv 0) pe_int (fun _ _ => rfl)) (by rfl))) pa_nil))))), ?_⟩
  refine ⟨_, rfl, a, _, 0, _, rfl, rfl, ha.sq, atI_nat (j := 0) rfl, rfl, _, rfl, ?_⟩
  rw [kind_any]
  cases hx : x.isAny with
  | false =>
    refine q H (Same.refl H) |> fun z => ?_
    have e : swallows x y = false := by unfold swallows; rw [hx]; rfl
    rw [e] at z
    exact z
  | true =>
    refine ⟨_, rfl, b, _, 1, _, rfl, rfl, hb.sq, atI_nat (j := 1) rfl, tx y.ls, rfl, fun D hD => ?_⟩
    refine lc_str (x := tx y.ls) (fun i H' => Same H H' ∧ H' D = some (.lst (((y.ls.take i).map fun c => decide (c ∈ x.ls)).map V.bl))) ⟨same_new hD, upd_same⟩ ?_ ?_
    · rintro i c H' hi ⟨sm, hd⟩
      have hc : y.ls[i]? = some c := by
        rw [← tx_list y.ls, Array.getElem?_toList]
        exact hi
      refine ⟨rfl, _, rfl, _, rfl, a, _, 1, _, rfl, rfl, (ha.up sm.tups).sq, atI_nat (j := 1) rfl, c, tx x.ls, rfl, rfl, _, hd, ?_, sm.put hD, ?_⟩
      · rw [List.length_map, List.length_map]
        have l2 : (y.ls.take i).length ≤ y.ls.length := List.length_take_le' _ _
        exact small1000 (by omega)
      · rw [upd_same, all_take y.ls x.ls i c hc, List.map_append, tx_list]
        rfl
    · rintro H' ⟨sm, hd⟩
      have e : y.ls.take (tx y.ls).cps.size = y.ls := by
        rw [show (tx y.ls).cps.size = y.ls.length from tx_len y.ls, List.take_length]
      rw [e] at hd
      refine ⟨D, y.ls.map fun c => decide (c ∈ x.ls), rfl, SqL.of hd, ?_⟩
      have z := q H' sm
      have e2 : swallows x y = (y.ls.map fun c => decide (c ∈ x.ls)).all id := by
        unfold swallows
        rw [hx, List.all_map]
        rfl
      rw [e2] at z
      exact z
end
end Wk

/-! W3: may_take, plain_product, product_within. -/
namespace Wk
open PySem L2 KX K55
section
variable {P : Program} {w : World} {K : PySem.W.Frag} {mg : Str → Option Value} {base : Heap}
/-! ### may_take -/
def spMay : Sp := fun vs H Q _ => ∃ (a b : Addr) (x y : Piece), vs = [.ref a, .ref b] ∧ PcAt H a x ∧ PcAt H b y ∧ y.ls.length ≤ 63 ∧
  ∀ H', Same H H' → Q (.bl (mayTake x y)) H'
theorem scMay : FnScope ["one", "other"] ["one", "other"] (defScope sMay) := ⟨rfl, rfl, rfl, by decide +kernel, rfl, by decide +kernel, by decide +kernel⟩
theorem d_may (S : Src K mg "may_take" sMay ["one", "other"]) (D1 : Dfn P w K mg base "swallows" 1 ["one", "other"] spSwal) : Dfn P w K mg base "may_take" 2 ["one", "other"] spMay := by
  obtain ⟨f, fd, gf, F, bd⟩ := S.ex
  obtain ⟨f1, fd1, g1, G1, b1, k1⟩ := D1.ex
  refine ⟨f, fd, gf, F.ok scMay (fun vs H Q E h => ?_) (fun cdv A outer s H vs Q E hr h => ?_), bd, F.kp⟩
  · obtain ⟨a, b, x, y, rfl, _⟩ := h
    rfl
  obtain ⟨a, b, x, y, rfl, ha, hb, hl, q⟩ := h
  refine ⟨_, pss_one (ps_ret (pe_or (pe_call G1 hr (by rfl) g1 k1 b1 .nil pass0 (pa_cons (pv 0) (pa_cons (pv 1) pa_nil))) (pe_one (pe_cmpR (op_eq1 hr.units) (pv 0) (pv 1) (nomark _))))), ?_⟩
  refine ⟨_, rfl, _, rfl, a, b, x, y, rfl, ha, hb, hl, fun H1 s1 => ⟨_, rfl, ?_⟩⟩
  have z := q H1 s1
  unfold mayTake at z
  cases hs : swallows x y with
  | true => rw [hs] at z; exact z
  | false =>
    rw [hs] at z
    refine ⟨_, rfl, _, rfl, a, b, pcK x, pcK y, rfl, rfl, ha.up s1.tups, hb.up s1.tups, ?_⟩
    have e : decide (pcK x = pcK y) = decide (x = y) := by
      by_cases h : x = y
      · rw [h]; simp
      · rw [decide_eq_false h, decide_eq_false fun z => h (pcK_inj z)]
    show Q (V.bl (decide (pcK x = pcK y))) H1
    rw [e]
    exact z

/-! ### plain_product -/
theorem _root_.KX.All2.snoc {α β : Type} {f : α → β → Prop} : ∀ {ys : List β} {xs : List α} {y : β}, All2 f xs (ys ++ [y]) → ∃ xs' x, xs = xs' ++ [x] ∧ All2 f xs' ys ∧ f x y
  | [], [], y, h => h.elim
  | [], [x], y, h => ⟨[], x, rfl, trivial, h.1⟩
  | [], x :: x' :: xs, y, h => h.2.elim
  | y' :: ys, [], y, h => h.elim
  | y' :: ys, x' :: xs, y, ⟨a, r⟩ => by
    obtain ⟨xs', x, rfl, r', z⟩ := KX.All2.snoc r
    exact ⟨x' :: xs', x, rfl, ⟨a, r'⟩, z⟩
def spPlainP : Sp := fun vs H Q _ => ∃ (b : Addr) (p : Product), vs = [.ref b] ∧ PrAt H b p ∧ p.length ≤ 1000 ∧ (∀ a ∈ p, a.ls.length ≤ 63) ∧
  ∀ H' t, Same H H' → PrAt H' t (plainP p) → Q (.ref t) H'
theorem scPlainP : FnScope ["product", "found", "piece"] ["product"] (defScope sPlainP) := ⟨rfl, rfl, rfl, by decide +kernel, rfl, by decide +kernel, by decide +kernel⟩
/-- the list at F holds the stack -/
def Stk (H : Hp) (F : Addr) (st : List Piece) : Prop := ∃ cs : List Addr, H F = some (.lst (cs.map V.ref)) ∧ All2 (PcAt H) cs st.reverse
theorem Stk.same {H H' : Hp} {F : Addr} {st : List Piece} (s : Same H H') (x : Stk H F st) : Stk H' F st := by
  obtain ⟨cs, e, r⟩ := x
  exact ⟨cs, s _ _ e, r.imp fun c a y => y.up s.tups⟩
theorem Stk.len {H : Hp} {F : Addr} {st : List Piece} (x : Stk H F st) : ∃ xs, H F = some (.lst xs) ∧ xs.length = st.length := by
  obtain ⟨cs, e, r⟩ := x
  refine ⟨_, e, ?_⟩
  rw [List.length_map, r.len, List.length_reverse]
theorem Stk.top {H : Hp} {F : Addr} {b : Piece} {st : List Piece} (x : Stk H F (b :: st)) : ∃ (cs : List Addr) (c : Addr), H F = some (.lst (cs.map V.ref ++ [.ref c])) ∧ All2 (PcAt H) cs st.reverse ∧ PcAt H c b := by
  obtain ⟨cs, e, r⟩ := x
  rw [List.reverse_cons] at r
  obtain ⟨cs', c, rfl, r', y⟩ := r.snoc
  exact ⟨cs', c, by rw [e, List.map_append]; rfl, r', y⟩
theorem Stk.pop {H : Hp} {F : Addr} {st : List Piece} {cs : List Addr} {ys : List V} (e : H F = some (.lst ys)) (r : All2 (PcAt H) cs st.reverse) : Stk (upd H F (.lst (cs.map V.ref))) F st :=
  ⟨cs, upd_same, r.imp fun c a y => y.up (tups_put e)⟩
theorem d_plainP (S : Src K mg "plain_product" sPlainP ["product"]) (B : Blt mg) (D1 : Dfn P w K mg base "swallows" 1 ["one", "other"] spSwal) : Dfn P w K mg base "plain_product" 2 ["product"] spPlainP := by
  obtain ⟨f, fd, gf, F, bd⟩ := S.ex
  obtain ⟨f1, fd1, g1, G1, b1, k1⟩ := D1.ex
  refine ⟨f, fd, gf, F.ok scPlainP (fun vs H Q E h => ?_) (fun cdv A outer s H vs Q E hr h => ?_), bd, F.kp⟩
  · obtain ⟨b, p, rfl, _⟩ := h
    rfl
  obtain ⟨b, p, rfl, ⟨cs, hb, hcs⟩, hl, hw, q⟩ := h
  refine ⟨_, pss_cons (ps_set (i := 1) scPlainP.nd rfl (.inl rfl) (pe_lst pa_nil))
    (pss_cons (ps_for PassesOwn.never rfl (pi_tup (pv 0)) (pg_name (i := 2) scPlainP.nd rfl (.inl rfl))
      (pss_cons (ps_while PassesOwn.never (PW.pt (pw_and (pt_cmpR op_gt (pe_callB call_len_seq (by rfl) B.len PySem.boot_len (pa_cons (pv 1) pa_nil)) pe_int (nomark _))
          (pw_and1 (pt_val (pe_call G1 hr (by rfl) g1 k1 b1 .nil pass0 (pa_cons (pv 2) (pa_cons (pe_ix ix_list (pv 1) (pe_un un_neg pe_int) (fun _ _ => rfl)) pa_nil)))))))
        (pss_one (ps_expr (pe_bm0 PySem.F.plainAttrs_list PySem.F.slot_list_pop PySem.F.type_list_pop mt_pop (pv 1)))))
      (pss_one (ps_if (PW.pt (pw_or (pt_cmpR op_eq (pe_callB call_len_seq (by rfl) B.len PySem.boot_len (pa_cons (pv 1) pa_nil)) pe_int (nomark _))
          (pw_or1 (pt_not (pt_val (pe_call G1 hr (by rfl) g1 k1 b1 .nil pass0 (pa_cons (pe_ix ix_list (pv 1) (pe_un un_neg pe_int) (fun _ _ => rfl)) (pa_cons (pv 2) pa_nil))))))))
        (pss_one (ps_expr (pe_bm PySem.F.plainAttrs_list PySem.F.slot_list_append PySem.F.type_list_append mt_append (pv 1) (pa_cons (pv 2) pa_nil)))) pss_nil))))
    (pss_one (ps_ret (pe_callTy call_tuple_of (by rfl) B.tuple (by decide +kernel) (pa_cons (pv 1) pa_nil))))), ?_⟩
  refine ⟨Nat.zero_le _, fun o no => ?_⟩
  have hbo : b ≠ o := ne_of_none hb no
  have s0 : Same H (upd H o (.lst [])) := same_new no
  refine ⟨_, rfl, b, rfl, ⟨_, SqT.of (s0 _ _ hb)⟩, for_tup (K := K) (a := b) (xs := cs.map V.ref) (fun i σ H' => ∃ x2, σ = [some (.ref b), some (.ref o), x2] ∧ Same H H' ∧ Stk H' o ((p.take i).foldl plainStep []) ∧ ((p.take i).foldl plainStep []).length ≤ i)
    ⟨none, rfl, s0, ⟨[], upd_same, trivial⟩, Nat.le_refl _⟩ (fun i σ H' _ ⟨_, _, sm, _⟩ => SqT.of (sm _ _ hb)) ?_ ?_⟩
  · rintro i v σ H' hi ⟨x2, rfl, sm, stk, hz⟩
    obtain ⟨c, hc, rfl⟩ : ∃ c, cs[i]? = some c ∧ V.ref c = v := by
      rw [List.getElem?_map] at hi
      exact Option.map_eq_some_iff.mp hi
    obtain ⟨a, ha, pa⟩ := hcs.getL hc
    have hil : i < p.length := (List.getElem?_eq_some_iff.mp ha).1
    have ea : p.take (i + 1) = p.take i ++ [a] := by rw [List.take_add_one, ha]; rfl
    have wa : a.ls.length ≤ 63 := hw a (List.mem_of_getElem? ha)
    have wst : ∀ x ∈ (p.take i).foldl plainStep [], x.ls.length ≤ 63 := fun x hx => by
      rcases fold_mem hx with z | z
      · cases z
      · exact hw x (List.mem_of_mem_take z)
    generalize hst : (p.take i).foldl plainStep [] = st0 at stk hz wst
    -- the inner loop
    refine ⟨fun m σ H' => ∃ st, m = st.length ∧ σ = [some (.ref b), some (.ref o), some (.ref c)] ∧ Same H H' ∧ Stk H' o st ∧ popSw a st = popSw a st0 ∧ st.length ≤ st0.length ∧ (∀ x ∈ st, x ∈ st0),
      ⟨_, st0, rfl, rfl, sm, stk, rfl, Nat.le_refl _, fun x hx => hx⟩, ?_⟩
    rintro m σ H1 ⟨st, rfl, rfl, s1, k1', e1, l1, m1⟩
    obtain ⟨xs, hx, hxl⟩ := k1'.len
    refine ⟨_, rfl, o, xs, rfl, .inl (SqL.of hx), _, _, rfl, rfl, _, rfl, ?_⟩
    -- found.append(piece), and what the outer loop wants
    have wants : ∀ st', popSw a st0 = st → pushP a st = st' → (p.take (i + 1)).foldl plainStep [] = st' ∧ st'.length ≤ i + 1 := fun st' e e2 => by
      have z : plainStep st0 a = st' := by unfold plainStep; rw [e, e2]
      rw [ea, List.foldl_append, hst]
      refine ⟨z, ?_⟩
      have l2 := pushP_len a st
      rw [e2] at l2
      omega
    cases st with
    | nil =>
      have hx0 : xs = [] := List.length_eq_zero_iff.mp hxl
      subst hx0
      refine iteF (iteF ?_)
      refine ⟨_, rfl, o, [], rfl, .inl (SqL.of hx), rfl, _, rfl, iteT (iteT ?_)⟩
      refine ⟨_, rfl, .inl ⟨rfl, _, SqL.of hx⟩, _, rfl, o, [], _, rfl, rfl, hx, by decide, ?_⟩
      obtain ⟨w1, w2⟩ := wants [a] e1.symm rfl
      rw [w1]
      exact ⟨_, rfl, s1.put no, ⟨[c], upd_same, ⟨(pa.up s1.tups).up (tups_put hx), trivial⟩⟩, w2⟩
    | cons d st =>
      obtain ⟨cs', cd, hx', r', pd⟩ := k1'.top
      have ex : xs = cs'.map V.ref ++ [.ref cd] := by rw [hx] at hx'; injection hx' with z; injection z
      subst ex
      have gt : decide ((0 : Int) < (((cs'.map V.ref ++ [V.ref cd]).length : Nat) : Int)) = true := decide_eq_true (by rw [List.length_append, List.length_singleton]; omega)
      have ne0 : decide (V.int (((cs'.map V.ref ++ [V.ref cd]).length : Nat) : Int) = V.int 0) = false := decide_eq_false fun z => by
        have z := V.int.inj z
        rw [List.length_append, List.length_singleton] at z
        omega
      have wd : d.ls.length ≤ 63 := wst d (m1 d List.mem_cons_self)
      show (if decide ((0 : Int) < (((cs'.map V.ref ++ [V.ref cd]).length : Nat) : Int)) = true then _ else _)
      rw [gt]
      refine iteT ?_
      refine ⟨_, rfl, _, rfl, 1, rfl, o, _, -1, _, rfl, rfl, SqL.of hx, atI_last _ _, c, cd, a, d, rfl, pa.up s1.tups, pd, wd, fun H2 s2 => ⟨_, rfl, ?_⟩⟩
      have hx2 := s2 _ _ hx
      cases hs : swallows a d with
      | true =>
        refine iteT ⟨fun σ' H' => ∃ m', m' < (d :: st).length ∧ ∃ st, m' = st.length ∧ σ' = [some (.ref b), some (.ref o), some (.ref c)] ∧ Same H H' ∧ Stk H' o st ∧ popSw a st = popSw a st0 ∧ st.length ≤ st0.length ∧ (∀ x ∈ st, x ∈ st0), fun _ _ z => z, ?_⟩
        refine ⟨_, rfl, .inl ⟨rfl, _, SqL.of hx2⟩, o, _, .ref cd, rfl, rfl, hx2, ?_, ?_⟩
        · rw [List.length_append, List.length_singleton, Nat.add_sub_cancel, List.getElem?_append_right (Nat.le_refl _), Nat.sub_self]
          rfl
        · rw [List.dropLast_concat]
          refine ⟨st.length, Nat.lt_succ_self _, st, rfl, rfl, (s1.trans s2).put no, Stk.pop hx2 (r'.imp fun _ _ y => y.up s2.tups), ?_, Nat.le_of_succ_le l1, fun x h => m1 x (List.mem_cons_of_mem _ h)⟩
          rw [← e1]
          show _ = if swallows a d = true then popSw a st else d :: st
          rw [if_pos hs]
      | false =>
        have e2 : popSw a st0 = d :: st := by
          rw [← e1]
          show (if swallows a d = true then popSw a st else d :: st) = _
          rw [hs]
          rfl
        refine iteF ?_
        refine ⟨_, rfl, o, _, rfl, .inl (SqL.of hx2), rfl, _, rfl, ?_⟩
        show (if decide (V.int (((cs'.map V.ref ++ [V.ref cd]).length : Nat) : Int) = V.int 0) = true then _ else _)
        rw [ne0]
        refine iteF ?_
        refine ⟨_, rfl, 1, rfl, o, _, -1, _, rfl, rfl, SqL.of hx2, atI_last _ _, _, rfl, cd, c, d, a, rfl, pd.up s2.tups, (pa.up s1.tups).up s2.tups, wa, fun H3 s3 => ⟨_, rfl, ?_⟩⟩
        have hx3 := s3 _ _ hx2
        have s13 : Same H H3 := s1.trans (s2.trans s3)
        cases hs2 : swallows d a with
        | true =>
          refine iteF ?_
          obtain ⟨w1, w2⟩ := wants (d :: st) e2 (by show (if swallows d a = true then _ else _) = _; rw [hs2]; rfl)
          rw [w1]
          exact ⟨_, rfl, s13, ⟨cs' ++ [cd], by rw [hx3, List.map_append]; rfl, by rw [List.reverse_cons]; exact (r'.imp fun _ _ y => (y.up s2.tups).up s3.tups).append ⟨(pd.up s2.tups).up s3.tups, trivial⟩⟩, w2⟩
        | false =>
          refine iteT ?_
          obtain ⟨w1, w2⟩ := wants (a :: d :: st) e2 (by show (if swallows d a = true then _ else _) = _; rw [hs2]; rfl)
          rw [w1]
          have tp := tups_put (o := .lst (cs'.map V.ref ++ [V.ref cd] ++ [V.ref c])) hx3
          refine ⟨_, rfl, .inl ⟨rfl, _, SqL.of hx3⟩, _, rfl, o, _, _, rfl, rfl, hx3, ?_, _, rfl, s13.put no, ⟨cs' ++ [cd] ++ [c], ?_, ?_⟩, w2⟩
          · rw [hxl]
            exact small1000 (by have := Nat.le_trans l1 hz; omega)
          · rw [upd_same, List.map_append, List.map_append]
            rfl
          · rw [List.reverse_cons, List.reverse_cons]
            refine KX.All2.append (KX.All2.append (r'.imp fun _ _ y => ((y.up s2.tups).up s3.tups).up tp) ⟨((pd.up s2.tups).up s3.tups).up tp, trivial⟩) ⟨(((pa.up s1.tups).up s2.tups).up s3.tups).up tp, trivial⟩
  · rintro σ H' ⟨x2, rfl, sm, ⟨cs', e', r'⟩, hz⟩
    refine ⟨_, rfl, o, _, rfl, .inl ⟨SqL.of e', fun t ht => ?_⟩⟩
    refine q _ t (sm.new ht) ?_
    have el : (cs.map V.ref).length = p.length := by rw [List.length_map]; exact hcs.len
    rw [el, List.take_length] at r'
    exact ⟨cs', upd_same, r'.imp fun c a y => y.up (tups_new ht)⟩
end
end Wk

/-! W4: product_within. -/
namespace Wk
open PySem L2 KX K55
section
variable {P : Program} {w : World} {K : PySem.W.Frag} {mg : Str → Option Value} {base : Heap}
def spWithin : Sp := fun vs H Q _ => ∃ (a b : Addr) (p r : Product), vs = [.ref a, .ref b] ∧ PrAt H a p ∧ PrAt H b r ∧ p.length ≤ 1000 ∧ r.length ≤ 1000 ∧ (∀ x ∈ p, x.ls.length ≤ 63) ∧
  ∀ H', Same H H' → Q (.bl (within p r)) H'
theorem scWithin : FnScope ["one", "other", "place", "piece"] ["one", "other"] (defScope sWithin) := ⟨rfl, rfl, rfl, by decide +kernel, rfl, by decide +kernel, by decide +kernel⟩
theorem d_within (S : Src K mg "product_within" sWithin ["one", "other"]) (B : Blt mg) (D1 : Dfn P w K mg base "may_take" 2 ["one", "other"] spMay) : Dfn P w K mg base "product_within" 3 ["one", "other"] spWithin := by
  obtain ⟨f, fd, gf, F, bd⟩ := S.ex
  obtain ⟨f1, fd1, g1, G1, b1, k1⟩ := D1.ex
  refine ⟨f, fd, gf, F.ok scWithin (fun vs H Q E h => ?_) (fun cdv A outer s H vs Q E hr h => ?_), bd, F.kp⟩
  · obtain ⟨a, b, p, r, rfl, _⟩ := h
    rfl
  obtain ⟨a, b, p, r, rfl, ⟨cs, ha, hcs⟩, ⟨ds, hb, hds⟩, hlp, hlr, hw, q⟩ := h
  refine ⟨_, pss_cons (ps_set (i := 2) scWithin.nd rfl (.inl rfl) pe_int)
    (pss_cons (ps_for PassesOwn.never rfl (pi_tup (pv 0)) (pg_name (i := 3) scWithin.nd rfl (.inl rfl))
      (pss_cons (ps_while PassesOwn.never (PW.pt (pw_and (pt_cmpR op_lt (pv 2) (pe_callB call_len_seq (by rfl) B.len PySem.boot_len (pa_cons (pv 1) pa_nil)) (nomark _))
          (pw_and1 (pt_not (pt_val (pe_call G1 hr (by rfl) g1 k1 b1 .nil pass0 (pa_cons (pe_ix ix_tup (pv 1) (pv 2) (fun _ _ => rfl)) (pa_cons (pv 3) pa_nil))))))))
        (pss_one (ps_set (i := 2) scWithin.nd rfl (.inl rfl) (pe_op op_add (pv 2) pe_int))))
      (pss_cons (ps_if (pt_cmpR op_eq (pv 2) (pe_callB call_len_seq (by rfl) B.len PySem.boot_len (pa_cons (pv 1) pa_nil)) (nomark _)) (pss_one (ps_ret pe_bl)) pss_nil)
      (pss_one (ps_set (i := 2) scWithin.nd rfl (.inl rfl) (pe_op op_add (pv 2) (pe_callTy call_int1 (by rfl) B.int (by decide +kernel) (pa_cons (pe_cmpR op_eq (pe_ix ix_tup (pe_ix ix_tup (pv 1) (pv 2) (fun _ _ => rfl)) pe_int (fun _ _ => rfl)) pe_str (nomark _)) pa_nil))))))))
    (pss_one (ps_ret pe_bl))), ?_⟩
  have hlds : ds.length = r.length := hds.len
  have hlcs : cs.length = p.length := hcs.len
  refine ⟨_, rfl, a, rfl, ⟨_, SqT.of ha⟩, for_tup (K := K) (a := a) (xs := cs.map V.ref) (fun i σ H' => ∃ (j : Nat) (x3 : Option V), σ = [some (.ref a), some (.ref b), some (.int (j : Nat)), x3] ∧ Same H H' ∧ j ≤ r.length ∧ within (p.drop i) (r.drop j) = within p r)
    ⟨0, none, rfl, Same.refl H, Nat.zero_le _, rfl⟩ (fun i σ H' _ ⟨_, _, _, sm, _⟩ => SqT.of (sm _ _ ha)) ?_ ?_⟩
  · rintro i v σ H' hi ⟨j, x3, rfl, sm, hj, hwi⟩
    obtain ⟨c, hc, rfl⟩ : ∃ c, cs[i]? = some c ∧ V.ref c = v := by
      rw [List.getElem?_map] at hi
      exact Option.map_eq_some_iff.mp hi
    obtain ⟨x, hx, px⟩ := hcs.getL hc
    have wx : x.ls.length ≤ 63 := hw x (List.mem_of_getElem? hx)
    have ep : p.drop i = x :: p.drop (i + 1) := by
      obtain ⟨lt, e⟩ := List.getElem?_eq_some_iff.mp hx
      rw [List.drop_eq_getElem_cons lt, e]
    rw [ep] at hwi
    refine ⟨fun m σ H' => ∃ j : Nat, m = r.length - j ∧ σ = [some (.ref a), some (.ref b), some (.int (j : Nat)), some (.ref c)] ∧ Same H H' ∧ j ≤ r.length ∧ within (x :: p.drop (i + 1)) (r.drop j) = within p r,
      ⟨_, j, rfl, rfl, sm, hj, hwi⟩, ?_⟩
    rintro m σ H1 ⟨j, rfl, rfl, s1, hj, hwi⟩
    have hbb : SqT K H1 b (ds.map V.ref) := SqT.of (s1 _ _ hb)
    have lb : (ds.map V.ref).length = r.length := by rw [List.length_map, hlds]
    refine ⟨_, rfl, _, rfl, b, _, rfl, .inr hbb, _, _, rfl, rfl, _, rfl, ?_⟩
    rw [lb]
    by_cases hjr : j < r.length
    · have e1 : decide (((j : Nat) : Int) < ((r.length : Nat) : Int)) = true := decide_eq_true (by omega)
      rw [e1]
      have hy : r[j]? = some r[j] := List.getElem?_eq_getElem hjr
      obtain ⟨d, hd, pd⟩ := hds.get hy
      have hdv : (ds.map V.ref)[j]? = some (.ref d) := by rw [List.getElem?_map, hd]; rfl
      have er : r.drop j = r[j] :: r.drop (j + 1) := List.drop_eq_getElem_cons hjr
      refine iteT ?_
      refine ⟨_, rfl, _, rfl, b, _, (j : Nat), _, rfl, rfl, hbb, atI_nat hdv, _, rfl, d, c, r[j], x, rfl, pd.up s1.tups, px.up s1.tups, wx, fun H2 s2 => ⟨_, rfl, ?_⟩⟩
      rw [er, within_cons] at hwi
      cases hm : mayTake r[j] x with
      | false =>
        rw [hm] at hwi
        refine iteT ⟨fun σ' H' => ∃ m', m' < r.length - j ∧ ∃ j : Nat, m' = r.length - j ∧ σ' = [some (.ref a), some (.ref b), some (.int (j : Nat)), some (.ref c)] ∧ Same H H' ∧ j ≤ r.length ∧ within (x :: p.drop (i + 1)) (r.drop j) = within p r, fun _ _ z => z, ?_⟩
        refine ⟨_, rfl, _, _, rfl, rfl, ?_⟩
        exact ⟨r.length - (j + 1), by omega, j + 1, rfl, rfl, s1.trans s2, hjr, hwi⟩
      | true =>
        rw [hm, if_pos rfl] at hwi
        have hbb2 : SqT K H2 b (ds.map V.ref) := SqT.of (s2 _ _ (s1 _ _ hb))
        refine iteF ?_
        refine ⟨_, rfl, _, rfl, b, _, rfl, .inr hbb2, rfl, _, rfl, ?_⟩
        rw [lb]
        have e2 : decide (V.int ((j : Nat) : Int) = V.int ((r.length : Nat) : Int)) = false := decide_eq_false fun z => by
          have z := V.int.inj z
          omega
        rw [e2]
        refine iteF ?_
        refine ⟨_, rfl, _, rfl, _, rfl, b, _, (j : Nat), _, rfl, rfl, hbb2, atI_nat hdv, d, _, 0, _, rfl, rfl, (pd.up (s1.trans s2).tups).sq, atI_nat (j := 0) rfl, rfl, .inr ⟨_, rfl, ?_⟩⟩
        rw [kind_mb]
        refine ⟨_, _, rfl, rfl, ?_⟩
        cases ha' : r[j].isAny with
        | true =>
          rw [ha', if_pos rfl] at hwi
          exact ⟨j, some (.ref c), by simp, s1.trans s2, hj, by rw [er]; exact hwi⟩
        | false =>
          rw [ha'] at hwi
          exact ⟨j + 1, some (.ref c), by simp, s1.trans s2, hjr, hwi⟩
    · have ej : j = r.length := by omega
      subst ej
      have e1 : decide (((r.length : Nat) : Int) < ((r.length : Nat) : Int)) = false := decide_eq_false (by omega)
      rw [e1]
      refine iteF (iteF ?_)
      refine ⟨_, rfl, _, rfl, b, _, rfl, .inr hbb, rfl, _, rfl, ?_⟩
      rw [lb]
      have e2 : decide (V.int ((r.length : Nat) : Int) = V.int ((r.length : Nat) : Int)) = true := decide_eq_true rfl
      rw [e2]
      refine iteT ?_
      rw [List.drop_length, within_none] at hwi
      have z := q H1 s1
      rw [← hwi] at z
      exact z
  · rintro σ H' ⟨j, x3, rfl, sm, hj, hwi⟩
    rw [List.length_map, hlcs, List.drop_length, within_nil] at hwi
    have z := q H' sm
    rw [← hwi] at z
    exact z
end
end Wk

/-! W5: plain_products, plain. -/
namespace Wk
open PySem L2 KX K55
section
variable {P : Program} {w : World} {K : PySem.W.Frag} {mg : Str → Option Value} {base : Heap}
def Words (S : List Product) (v : List Nat) : Prop := ∃ p ∈ S, InP p v
def spPlains : Sp := fun vs H Q _ => ∃ (e : Addr) (S : List Product), vs = [.ref e] ∧ ExAt H e S ∧ S.length < 300 ∧ (∀ p ∈ S, p.length ≤ 1000 ∧ WFP p) ∧
  ∀ H' t S', Same H H' → ExAt H' t S' → S'.length ≤ S.length → (∀ p ∈ S', ∃ r ∈ S, p = plainP r) → (∀ v, Words S' v ↔ Words S v) → Q (.ref t) H'
abbrev nPlains : List Str := ["products", "some", "found", "product", "others", "other"]
theorem scPlains : FnScope nPlains ["products"] (defScope sPlains) := ⟨rfl, rfl, rfl, by decide +kernel, rfl, by decide +kernel, by decide +kernel⟩
def prP (x : Addr × Product) : Addr × K2 := (x.1, prK x.2)
theorem nodup_prP {M : List (Addr × Product)} (h : ((M.map prP).map (·.2)).Nodup) : (M.map (·.2)).Nodup := by
  rw [List.map_map] at h
  have e : ((fun x : Addr × K2 => x.2) ∘ prP) = prK ∘ (fun x : Addr × Product => x.2) := rfl
  rw [e, ← List.map_map] at h
  exact L2.nodup_of_map h
theorem len_filter_take {S : List Product} (f : Product → Bool) (i : Nat) (q : Product) (h : S[i]? = some q) : (S.take (i + 1)).filter f = (S.take i).filter f ++ (if f q = true then [q] else []) := by
  rw [List.take_add_one, h, List.filter_append]
  by_cases e : f q = true
  · rw [if_pos e]; simp [e]
  · rw [if_neg e]; simp [e]
theorem nodup_len {α : Type} [DecidableEq α] : ∀ (l D : List α), l.Nodup → (∀ x ∈ l, x ∈ D) → l.length ≤ D.length
  | [], _, _, _ => Nat.zero_le _
  | x :: l, D, h, hs => by
    obtain ⟨hx, hl⟩ := List.nodup_cons.mp h
    have m : x ∈ D := hs x List.mem_cons_self
    have ih := nodup_len l (D.erase x) hl fun y hy => (List.mem_erase_of_ne (fun e : y = x => hx (by rw [← e]; exact hy))).mpr (hs y (List.mem_cons_of_mem _ hy))
    rw [List.length_erase_of_mem m] at ih
    have := List.length_pos_of_mem m
    rw [List.length_cons]
    omega
theorem exAt_of {H : Hp} {e : Addr} {M : List (Addr × Product)} (h : H e = some (.tup (M.map fun x => V.ref x.1))) (k : ∀ x ∈ M, PrAt H x.1 x.2) : ExAt H e (M.map (·.2)) := by
  refine ⟨M.map (·.1), by rw [h, List.map_map]; rfl, ?_⟩
  clear h
  induction M with
  | nil => trivial
  | cons x M ih => exact ⟨k x List.mem_cons_self, ih fun y hy => k y (List.mem_cons_of_mem _ hy)⟩
theorem d_plains (S0 : Src K mg "plain_products" sPlains ["products"]) (B : Blt mg) (D1 : Dfn P w K mg base "plain_product" 2 ["product"] spPlainP) (D2 : Dfn P w K mg base "product_within" 3 ["one", "other"] spWithin) :
    Dfn P w K mg base "plain_products" 4 ["products"] spPlains := by
  obtain ⟨f, fd, gf, F, bd⟩ := S0.ex
  obtain ⟨f1, fd1, g1, G1, b1, k1⟩ := D1.ex
  obtain ⟨f2, fd2, g2, G2, b2, k2⟩ := D2.ex
  refine ⟨f, fd, gf, F.ok scPlains (fun vs H Q E h => ?_) (fun cdv A outer s H vs Q E hr h => ?_), bd, F.kp⟩
  · obtain ⟨e, S, rfl, _⟩ := h
    rfl
  obtain ⟨e, S, rfl, ⟨bs, he, hbs⟩, hfew, hwf, q⟩ := h
  refine ⟨_, pss_cons (ps_set (i := 1) scPlains.nd rfl (.inl rfl) (pe_callB (cr_sorted2 rfl hr.units) (by rfl) B.sorted (by decide +kernel) (pa_cons (pe_callTy (cr_set2 rfl hr.units) (by rfl) B.set (by decide +kernel)
        (pa_cons (pe_lc (own := [("product", 3)]) (g := gName 3) (tt := tYes) rfl scPlains.nd (pi_tup (pv 0)) (blkOk_by (N := nPlains) (sc := defScope sPlains) (by decide +kernel)) (fun _ _ _ _ _ => pg_name (i := 3) scPlains.nd rfl (Or.inl rfl)) (fun _ _ _ _ _ => pts_nil)
          (fun _ _ _ _ _ => pe_call G1 (hr.mono (by decide)) (by rfl) g1 k1 b1 .nil pass0 (pa_cons (pv 3) pa_nil))) pa_nil)) pa_nil)))
    (pss_cons (ps_set (i := 2) scPlains.nd rfl (.inl rfl) (pe_lst pa_nil))
    (pss_cons (ps_for PassesOwn.never rfl (pi_list (pv 1)) (pg_name (i := 3) scPlains.nd rfl (.inr rfl))
      (pss_cons (ps_setLc (i := 4) (own := [("other", 5)]) (g := gName 5) rfl scPlains.nd rfl rfl (sw_true rfl rfl rfl (by decide +kernel)) (pi_list (pv 1)) (blkOk_by (N := nPlains) (sc := defScope sPlains) (by decide +kernel)) (fun _ _ _ _ _ => pg_name (i := 5) scPlains.nd rfl (Or.inl rfl))
          (fun _ _ _ _ _ => pts_one (PW.pt (pw_and (pt_cmpR (r := rEqT At2 true) (op_ne2 hr.units) (pv 5) (pv 3) (nomark _)) (pw_and1 (pt_val (pe_call G2 (hr.mono (by decide)) (by rfl) g2 k2 b2 .nil pass0 (pa_cons (pv 3) (pa_cons (pv 5) pa_nil)))))))) (fun _ _ _ _ _ => pv 5))
      (pss_one (ps_if (pt_cmpR op_eq (pe_callB call_len_seq (by rfl) B.len PySem.boot_len (pa_cons (pv 4) pa_nil)) pe_int (nomark _))
        (pss_one (ps_expr (pe_bm PySem.F.plainAttrs_list PySem.F.slot_list_append PySem.F.type_list_append mt_append (pv 2) (pa_cons (pv 3) pa_nil)))) pss_nil))))
    (pss_one (ps_ret (pe_callTy call_tuple_of (by rfl) B.tuple (by decide +kernel) (pa_cons (pv 2) pa_nil)))))), ?_⟩
  have hlbs : bs.length = S.length := hbs.len
  refine ⟨_, rfl, e, rfl, ⟨_, SqT.of he⟩, fun D hD => ?_⟩
  refine lc_tup (xs := bs.map V.ref) (fun i H' => Same H H' ∧ ∃ ks : List (Addr × Product), H' D = some (.lst (ks.map fun x => V.ref x.1)) ∧ (∀ x ∈ ks, PrAt H' x.1 x.2) ∧ ks.map (·.2) = (S.take i).map plainP)
    ⟨same_new hD, [], upd_same, fun _ z => (nomatch z), rfl⟩ (fun i H' _ x => SqT.of (x.1 _ _ he)) ?_ ?_
  · rintro i v H' hi ⟨sm, ks, hd, hk, ek⟩
    obtain ⟨c, hc, rfl⟩ : ∃ c, bs[i]? = some c ∧ V.ref c = v := by
      rw [List.getElem?_map] at hi
      exact Option.map_eq_some_iff.mp hi
    obtain ⟨p, hp, pp⟩ := hbs.getL hc
    have mp : p ∈ S := List.mem_of_getElem? hp
    refine ⟨rfl, _, rfl, c, p, rfl, pp.up sm.tups, (hwf p mp).1, fun x hx => ((hwf p mp).2 x hx).1, fun H2 t s2 ht => ?_⟩
    have lk : ks.length ≤ S.length := by
      have z := congrArg List.length ek
      rw [List.length_map, List.length_map] at z
      rw [z]
      exact List.length_take_le' _ _
    have hd2 := s2 _ _ hd
    refine ⟨_, hd2, ?_, (sm.trans s2).put hD, ks ++ [(t, plainP p)], ?_, ?_, ?_⟩
    · rw [List.length_map]
      exact small1000 (by omega)
    · rw [upd_same, List.map_append]
      rfl
    · intro x hx
      rcases List.mem_append.mp hx with z | z
      · exact ((hk x z).up s2.tups).up (tups_put hd2)
      · rw [List.mem_singleton.mp z]
        exact ht.up (tups_put hd2)
    · rw [List.map_append, ek, List.take_add_one, hp, List.map_append]
      rfl
  · rintro H' ⟨sm, ks, hd, hk, ek⟩
    rw [List.length_map, hlbs, List.take_length] at ek
    have lk : ks.length = S.length := by
      have z := congrArg List.length ek
      rw [List.length_map, List.length_map] at z
      exact z
    refine ⟨D, ks.map prP, rfl, by rw [hd, List.map_map]; rfl, fun x hx => ?_, by rw [List.length_map, lk]; exact hfew, fun a L na L1 L2 => ?_⟩
    · obtain ⟨y, hy, rfl⟩ := List.mem_map.mp hx
      exact (hk y hy).at2
    have sa : Same H (upd H' a (SetK w a L)) := sm.new na
    refine ⟨a, L, rfl, upd_same, fun x hx => ?_, fun L' o pL nd no => ?_⟩
    · obtain ⟨y, hy, rfl⟩ := List.mem_map.mp (L1 x hx)
      exact ((hk y hy).up (tups_new na)).at2
    obtain ⟨M, rfl, hM⟩ := map_back (f := prP) (ks := ks) (L := L') fun x hx => L1 x (pL.mem_iff.mp hx)
    have nM : (M.map (·.2)).Nodup := nodup_prP nd
    generalize hH0 : upd (upd H' a (SetK _ a L)) o _ = H0
    have so : Same H H0 := by rw [← hH0]; exact sa.new no
    have hkM : ∀ x ∈ M, PrAt H0 x.1 x.2 := fun x hx => by rw [← hH0]; exact ((hk x (hM x hx)).up (tups_new na)).up (tups_new no)
    have hmo : H0 o = some (.lst (M.map fun x => V.ref x.1)) := by
      rw [← hH0, upd_same, List.map_map]
      rfl
    -- the words of the kept ones
    have same_set : ∀ r, r ∈ M.map (·.2) ↔ r ∈ S.map plainP := fun r => by
      rw [← ek]
      constructor
      · intro hr
        obtain ⟨x, hx, rfl⟩ := List.mem_map.mp hr
        exact List.mem_map.mpr ⟨x, hM x hx, rfl⟩
      · intro hr
        obtain ⟨x, hx, rfl⟩ := List.mem_map.mp hr
        obtain ⟨y, hy, ey⟩ := List.mem_map.mp (L2 (prP x) (List.mem_map.mpr ⟨x, hx, rfl⟩))
        obtain ⟨z, hz, rfl⟩ := List.mem_map.mp (pL.mem_iff.mpr hy)
        exact List.mem_map.mpr ⟨z, hz, prK_inj ey⟩
    have lM : M.length ≤ S.length := by
      have z := nodup_len (M.map (·.2)) (S.map plainP) nM fun r hr => (same_set r).mp hr
      rw [List.length_map, List.length_map] at z
      exact z
    have plainM : ∀ r ∈ M.map (·.2), ∃ p ∈ S, r = plainP p := fun r hr => by
      obtain ⟨p, hp, rfl⟩ := List.mem_map.mp ((same_set r).mp hr)
      exact ⟨p, hp, rfl⟩
    -- found = []
    refine ⟨Nat.zero_le _, fun fo nf => ?_⟩
    have s1 : Same H0 (upd H0 fo (.lst [])) := same_new nf
    have nof : o ≠ fo := ne_of_none hmo nf
    refine ⟨_, rfl, o, rfl, ⟨_, SqL.of (s1 _ _ hmo)⟩, for_list (K := K) (a := o) (xs := M.map fun x => V.ref x.1)
      (fun i σ H1 => ∃ x3 x4 x5, σ = [some (.ref e), some (.ref o), some (.ref fo), x3, x4, x5] ∧ Same H0 H1 ∧ ∃ fs : List (Addr × Product), H1 fo = some (.lst (fs.map fun x => V.ref x.1)) ∧ (∀ x ∈ fs, PrAt H1 x.1 x.2) ∧
        fs.map (·.2) = ((M.map (·.2)).take i).filter fun p => (othersOf (M.map (·.2)) p).isEmpty)
      ⟨none, none, none, rfl, s1, [], upd_same, fun _ z => (nomatch z), rfl⟩ (fun i σ H1 _ ⟨_, _, _, _, s2, _⟩ => SqL.of (s2 _ _ hmo)) ?_ ?_⟩
    · rintro i v σ H1 hi ⟨x3, x4, x5, rfl, s2, fs, hfo, hfs, efs⟩
      obtain ⟨x, hx, rfl⟩ : ∃ x, M[i]? = some x ∧ V.ref x.1 = v := by
        rw [List.getElem?_map] at hi
        exact Option.map_eq_some_iff.mp hi
      have mx : x ∈ M := List.mem_of_getElem? hx
      have bd : ∀ r ∈ M.map (·.2), r.length ≤ 1000 ∧ ∀ y ∈ r, y.ls.length ≤ 63 := fun r hr => by
        obtain ⟨p, hp, rfl⟩ := plainM r hr
        exact ⟨Nat.le_trans (plainP_len p) (hwf p hp).1, fun y hy => ((hwf p hp).2 y (plainP_mem hy)).1⟩
      -- others
      refine ⟨_, rfl, o, rfl, ⟨_, SqL.of (s2 _ _ hmo)⟩, fun O hO => ?_⟩
      have nO : H0 O = none := s2.free hO
      refine lc_list (K := K) (a := o) (xs := M.map fun x => V.ref x.1) (fun j H2 => Same H1 H2 ∧ ∃ xs, H2 O = some (.lst xs) ∧ xs.length = (((M.map (·.2)).take j).filter fun q => decide (q ≠ x.2) && within x.2 q).length)
        ⟨same_new hO, [], upd_same, rfl⟩ (fun j H2 _ z => SqL.of (z.1 _ _ (s2 _ _ hmo))) ?_ ?_
      · rintro j v H2 hj ⟨s3, xs, hxs, exs⟩
        obtain ⟨y, hy, rfl⟩ : ∃ y, M[j]? = some y ∧ V.ref y.1 = v := by
          rw [List.getElem?_map] at hj
          exact Option.map_eq_some_iff.mp hj
        have my : y ∈ M := List.mem_of_getElem? hy
        have ey : (M.map (·.2))[j]? = some y.2 := by rw [List.getElem?_map, hy]; rfl
        have en := len_filter_take (S := M.map (·.2)) (fun q => decide (q ≠ x.2) && within x.2 q) j y.2 ey
        have s03 : Same H0 H2 := s2.trans s3
        have small : xs.length < sizeLine := by
          have l1 := List.length_filter_le (fun q => decide (q ≠ x.2) && within x.2 q) ((M.map (·.2)).take j)
          have l2 : ((M.map (·.2)).take j).length ≤ (M.map (·.2)).length := List.length_take_le' _ _
          rw [List.length_map] at l2
          exact small1000 (by omega)
        refine ⟨rfl, _, rfl, _, rfl, _, _, prK y.2, prK x.2, rfl, rfl, ((hkM y my).up s03.tups).at2, ((hkM x mx).up s03.tups).at2, _, rfl, ?_⟩
        have ed : (!decide (prK y.2 = prK x.2)) = decide (y.2 ≠ x.2) := by
          by_cases h : y.2 = x.2
          · rw [h]; simp
          · have h2 : ¬ prK y.2 = prK x.2 := fun z => h (prK_inj z)
            simp [h, h2]
        show (if (!decide (prK y.2 = prK x.2)) = true then _ else _)
        rw [ed]
        by_cases hyx : y.2 = x.2
        · have e0 : decide (y.2 ≠ x.2) = false := decide_eq_false fun z => z hyx
          rw [e0]
          refine iteF (iteF ⟨s3, xs, hxs, ?_⟩)
          rw [en, e0, exs]
          simp
        · have e0 : decide (y.2 ≠ x.2) = true := decide_eq_true hyx
          rw [e0]
          have b1 := bd x.2 (List.mem_map.mpr ⟨x, mx, rfl⟩)
          have b2 := bd y.2 (List.mem_map.mpr ⟨y, my, rfl⟩)
          refine iteT ⟨_, rfl, _, rfl, x.1, y.1, x.2, y.2, rfl, (hkM x mx).up s03.tups, (hkM y my).up s03.tups, b1.1, b2.1, b1.2, fun H3 s4 => ⟨_, rfl, ?_⟩⟩
          have hxs3 := s4 _ _ hxs
          cases hwi : within x.2 y.2 with
          | false =>
            refine iteF ⟨s3.trans s4, xs, hxs3, ?_⟩
            rw [en, e0, hwi, exs]
            simp
          | true =>
            refine iteT ⟨_, rfl, xs, hxs3, small, (s3.trans s4).put hO, _, upd_same, ?_⟩
            rw [en, e0, hwi, List.length_append, exs]
            simp
      · rintro H2 ⟨s3, xs, hxs, exs⟩
        have ei : ((M.map (·.2)).take (M.map fun x => V.ref x.1).length) = M.map (·.2) := by
          rw [List.length_map, show M.length = (M.map (·.2)).length from (List.length_map _).symm, List.take_length]
        rw [ei] at exs
        refine ⟨_, rfl, O, xs, rfl, .inl (SqL.of hxs), rfl, _, rfl, ?_⟩
        have hfo2 := s3 _ _ hfo
        have efs2 := len_filter_take (S := M.map (·.2)) (fun p => (othersOf (M.map (·.2)) p).isEmpty) i x.2 (by rw [List.getElem?_map, hx]; rfl)
        have eo : (othersOf (M.map (·.2)) x.2).length = xs.length := exs.symm
        by_cases h0 : xs.length = 0
        · have e1 : decide (V.int ((xs.length : Nat) : Int) = V.int 0) = true := decide_eq_true (by rw [h0]; rfl)
          rw [e1]
          have e2 : (othersOf (M.map (·.2)) x.2).isEmpty = true := by
            rw [List.isEmpty_iff]
            exact List.length_eq_zero_iff.mp (by rw [eo, h0])
          have lf : fs.length ≤ M.length := by
            have z := congrArg List.length efs
            rw [List.length_map] at z
            rw [z]
            refine Nat.le_trans (List.length_filter_le _ _) ?_
            have l2 : ((M.map (·.2)).take i).length ≤ (M.map (·.2)).length := List.length_take_le' _ _
            rw [List.length_map] at l2
            exact l2
          have tp := tups_put (o := .lst (fs.map (fun x => V.ref x.1) ++ [.ref x.1])) hfo2
          refine iteT ⟨_, rfl, .inl ⟨rfl, _, SqL.of hfo2⟩, _, rfl, fo, _, _, rfl, rfl, hfo2, by rw [List.length_map]; exact small1000 (by omega), _, _, _, rfl, (s2.trans s3).put nf, fs ++ [x], ?_, ?_, ?_⟩
          · rw [upd_same, List.map_append]
            rfl
          · intro y hy
            rcases List.mem_append.mp hy with z | z
            · exact ((hfs y z).up s3.tups).up tp
            · rw [List.mem_singleton.mp z]
              exact (((hkM x mx).up s2.tups).up s3.tups).up tp
          · rw [efs2, e2, List.map_append, efs]
            rfl
        · have e1 : decide (V.int ((xs.length : Nat) : Int) = V.int 0) = false := decide_eq_false fun z => h0 (by have z := V.int.inj z; omega)
          rw [e1]
          have e2 : (othersOf (M.map (·.2)) x.2).isEmpty = false := by
            cases h : (othersOf (M.map (·.2)) x.2).isEmpty with
            | false => rfl
            | true =>
              rw [List.isEmpty_iff] at h
              rw [h] at eo
              exact absurd eo.symm h0
          refine iteF ⟨_, _, _, rfl, s2.trans s3, fs, hfo2, fun y hy => (hfs y hy).up s3.tups, ?_⟩
          rw [efs2, e2, efs]
          simp
    · rintro σ H1 ⟨x3, x4, x5, rfl, s2, fs, hfo, hfs, efs⟩
      refine ⟨_, rfl, fo, _, rfl, .inl ⟨SqL.of hfo, fun t ht => ?_⟩⟩
      have ei : ((M.map (·.2)).take (M.map fun x => V.ref x.1).length) = M.map (·.2) := by
        rw [List.length_map, show M.length = (M.map (·.2)).length from (List.length_map _).symm, List.take_length]
      rw [ei] at efs
      have efs : fs.map (·.2) = keepMax (M.map (·.2)) := efs
      have lf : (fs.map (·.2)).length ≤ M.length := by
        rw [efs]
        have z := List.length_filter_le (fun p => (othersOf (M.map (·.2)) p).isEmpty) (M.map (·.2))
        rw [List.length_map] at z
        exact z
      refine q _ t (fs.map (·.2)) ((so.trans s2).new ht) (exAt_of upd_same fun x hx => (hfs x hx).up (tups_new ht)) (Nat.le_trans lf lM) (fun p hp => ?_) fun v => ?_
      · rw [efs] at hp
        exact plainM p (List.mem_filter.mp hp).1
      · unfold Words
        rw [efs, keepMax_words (M.map (·.2)) (fun p hp => ?_) (fun p hp => ?_) v]
        · constructor
          · rintro ⟨p, hp, hv⟩
            obtain ⟨r, hr, rfl⟩ := plainM p hp
            exact ⟨r, hr, (plainP_words r v).mp hv⟩
          · rintro ⟨p, hp, hv⟩
            exact ⟨plainP p, (same_set _).mpr (List.mem_map.mpr ⟨p, hp, rfl⟩), (plainP_words p v).mpr hv⟩
        · obtain ⟨r, hr, rfl⟩ := plainM p hp
          exact plainP_plain r
        · obtain ⟨r, hr, rfl⟩ := plainM p hp
          exact plainP_rising fun s hs => (((hwf r hr).2 _ hs).2 s rfl).1
/-! ### plain -/
theorem scPlain : FnScope ["expression"] ["expression"] (defScope sPlain) := ⟨rfl, rfl, rfl, by decide +kernel, rfl, by decide +kernel, by decide +kernel⟩
theorem d_plain (S0 : Src K mg "plain" sPlain ["expression"]) (D1 : Dfn P w K mg base "plain_products" 4 ["products"] spPlains) : Dfn P w K mg base "plain" 5 ["expression"] spPlains := by
  obtain ⟨f, fd, gf, F, bd⟩ := S0.ex
  obtain ⟨f1, fd1, g1, G1, b1, k1⟩ := D1.ex
  refine ⟨f, fd, gf, F.ok scPlain (fun vs H Q E h => ?_) (fun cdv A outer s H vs Q E hr h => ?_), bd, F.kp⟩
  · obtain ⟨e, S, rfl, _⟩ := h
    rfl
  obtain ⟨e, S, rfl, he, h1, h2, q⟩ := h
  exact ⟨_, pss_one (ps_ret (pe_call G1 hr (by rfl) g1 k1 b1 .nil pass0 (pa_cons (pv 0) pa_nil))), _, rfl, e, S, rfl, he, h1, h2, q⟩
end
end Wk

/-! W6: any_of, makers. -/
namespace Wk
open PySem L2 KX K55
/-- grammars that come -/
structure WFG (R : Rules) : Prop where
  few : R.length ≤ 5
  nm : ∀ n b, (n, b) ∈ R → n < 3
  len : ∀ n b, (n, b) ∈ R → b.length ≤ 3
  inn : ∀ n b, (n, b) ∈ R → ∀ m, Thing.nm m ∈ b → m < 3
  two : ∀ n b, (n, b) ∈ R → (K55.namesOf b).length ≤ 2
theorem inV_nm (n : Nat) (fs : List Nat) : inV (nmV n) (fs.map nmV) = decide (n ∈ fs) := by
  unfold inV
  induction fs with
  | nil => simp
  | cons m fs ih =>
    rw [List.map_cons, List.any_cons, ih]
    have e : eqV (nmV m) (nmV n) = decide (n = m) := by
      show (((m : Nat) : Int) == ((n : Nat) : Int)) = _
      by_cases h : n = m
      · rw [h]; simp
      · have h2 : ¬ ((m : Nat) : Int) = ((n : Nat) : Int) := fun z => h (by omega)
        rw [decide_eq_false h]
        exact beq_eq_false_iff_ne.mpr h2
    rw [e]
    by_cases h : n = m <;> simp [h]
theorem flat_nm (fs : List Nat) : (fs.map nmV).all flatV = true := by
  rw [List.all_map, List.all_eq_true]
  intro x _
  rfl
theorem map_nmV (fs : List Nat) : fs.map nmV = (fs.map fun n : Nat => (n : Int)).map V.int := by
  rw [List.map_map]
  rfl
section
variable {P : Program} {w : World} {K : PySem.W.Frag} {mg : Str → Option Value} {base : Heap}
/-! ### any_of -/
def anyP (s : List Nat) : Product := if s = [] then [] else [.an s]
def spAnyOf : Sp := fun vs H Q _ => ∃ s : List Nat, vs = [.str (tx s)] ∧ ∀ H' t, Same H H' → PrAt H' t (anyP s) → Q (.ref t) H'
theorem scAnyOf : FnScope ["letters"] ["letters"] (defScope sAnyOf) := ⟨rfl, rfl, rfl, by decide +kernel, rfl, by decide +kernel, by decide +kernel⟩
theorem tx_nil : ("" : Str) = tx [] := by decide +kernel
theorem d_anyOf (S0 : Src K mg "any_of" sAnyOf ["letters"]) : Dfn P w K mg base "any_of" 1 ["letters"] spAnyOf := by
  obtain ⟨f, fd, gf, F, bd⟩ := S0.ex
  refine ⟨f, fd, gf, F.ok scAnyOf (fun vs H Q E h => ?_) (fun cdv A outer s H vs Q E hr h => ?_), bd, F.kp⟩
  · obtain ⟨z, rfl, _⟩ := h
    rfl
  obtain ⟨z, rfl, q⟩ := h
  refine ⟨_, pss_cons (ps_if (pt_cmpR op_eq (pv 0) pe_str (nomark _)) (pss_one (ps_ret (pe_tup pa_nil))) pss_nil)
    (pss_one (ps_ret (pe_tup (pa_cons (pe_tup (pa_cons pe_str (pa_cons (pv 0) pa_nil))) pa_nil)))), ?_⟩
  refine ⟨_, rfl, rfl, _, rfl, ?_⟩
  by_cases hz : z = []
  · have e : decide (V.str (tx z) = V.str "") = true := decide_eq_true (by rw [hz, tx_nil])
    rw [e]
    refine iteT ⟨Nat.zero_le _, fun t ht => q _ t (same_new ht) ?_⟩
    unfold anyP
    rw [if_pos hz]
    exact ⟨[], upd_same, trivial⟩
  · have e : decide (V.str (tx z) = V.str "") = false := decide_eq_false fun y => hz (tx_inj ((V.str.inj y).trans tx_nil))
    rw [e]
    refine iteF ⟨_, rfl, (by show 2 ≤ sizeLine; decide), fun t ht => ⟨(by show 1 ≤ sizeLine; decide), fun u hu => q _ u ((same_new ht).new hu) ?_⟩⟩
    unfold anyP
    rw [if_neg hz]
    refine ⟨[t], upd_same, ?_, trivial⟩
    show upd (upd H t _) u _ t = _
    rw [upd_ne (ne_of_none upd_same hu), upd_same]
    rfl
/-! ### makers -/
def spMakers : Sp := fun vs H Q _ => ∃ (g : Addr) (N : Nat) (R : Rules), vs = [.ref g] ∧ GramAt H g N R ∧ WFG R ∧
  ∀ H' t (F : List Nat), Same H H' → H' t = some (.tup (F.map nmV)) → (∀ n, n ∈ F ↔ K55.Prod R n) → Q (.ref t) H'
abbrev nMakers : List Str := ["grammar", "found", "more", "name", "body", "one"]
theorem scMakers : FnScope nMakers ["grammar"] (defScope sMakers) := ⟨rfl, rfl, rfl, by decide +kernel, rfl, by decide +kernel, by decide +kernel⟩
theorem nodup3 {fs : List Nat} (nd : fs.Nodup) (h : ∀ n ∈ fs, n < 3) : fs.length ≤ 3 := by
  have := nodup_len fs (List.range 3) nd fun x hx => List.mem_range.mpr (h x hx)
  simpa using this
theorem all_in (l F : List Nat) (i n : Nat) (h : l[i]? = some n) : ((l.take (i + 1)).map fun n => decide (n ∈ F)).map V.bl = ((l.take i).map fun n => decide (n ∈ F)).map V.bl ++ [V.bl (decide (n ∈ F))] := by
  rw [List.take_add_one, h, List.map_append, List.map_append]
  rfl
theorem d_makers (S0 : Src K mg "makers" sMakers ["grammar"]) (B : Blt mg) (D1 : Dfn P w K mg base "names_in" 1 ["body"] spNames) : Dfn P w K mg base "makers" 2 ["grammar"] spMakers := by
  obtain ⟨f, fd, gf, F, bd⟩ := S0.ex
  obtain ⟨f1, fd1, g1, G1, b1, k1⟩ := D1.ex
  refine ⟨f, fd, gf, F.ok scMakers (fun vs H Q E h => ?_) (fun cdv A outer s H vs Q E hr h => ?_), bd, F.kp⟩
  · obtain ⟨g, N, R, rfl, _⟩ := h
    rfl
  obtain ⟨g, N, R, rfl, ⟨rs, hg, as, hrs, has⟩, wf, q⟩ := h
  refine ⟨_, pss_cons (ps_set (i := 1) scMakers.nd rfl (.inr rfl) (pe_lst pa_nil)) (pss_cons (ps_set (i := 2) scMakers.nd rfl (.inl rfl) pe_bl)
    (pss_cons (ps_while PassesOwn.never (pt_val (pv 2))
      (pss_cons (ps_set (i := 2) scMakers.nd rfl (.inl rfl) pe_bl)
      (pss_one (ps_for PassesOwn.never rfl (pi_tup (pe_ix ix_tup (pv 0) pe_int (fun _ _ => rfl))) (pg_tup rfl (pgs_cons (pg_name (i := 3) scMakers.nd rfl (.inl rfl)) (pgs_cons (pg_name (i := 4) scMakers.nd rfl (.inl rfl)) pgs_nil)))
        (pss_one (ps_if (PW.pt (pw_and (pt_cmpR op_notIn_seq (pv 3) (pv 1) (by rfl)) (pw_and1 (pt_val (pe_callB (cr_all rfl) (by rfl) B.all (by decide +kernel)
            (pa_cons (pe_lc (own := [("one", 5)]) (g := gName 5) (tt := tYes) rfl scMakers.nd (pi_list (pe_call G1 hr (by rfl) g1 k1 b1 .nil pass0 (pa_cons (pv 4) pa_nil))) (blkOk_by (N := nMakers) (sc := defScope sMakers) (by decide +kernel)) (fun _ _ _ _ _ => pg_name (i := 5) scMakers.nd rfl (Or.inl rfl)) (fun _ _ _ _ _ => pts_nil)
              (fun _ _ _ _ _ => pe_cmpR (r := rIn K false) op_in_seq (pv 5) (pv 1) (by rfl))) pa_nil))))))
          (pss_cons (ps_expr (pe_bm PySem.F.plainAttrs_list PySem.F.slot_list_append PySem.F.type_list_append mt_append (pv 1) (pa_cons (pv 3) pa_nil)))
            (pss_one (ps_set (i := 2) scMakers.nd rfl (.inl rfl) pe_bl))) pss_nil))))))
    (pss_one (ps_ret (pe_callTy call_tuple_of (by rfl) B.tuple (by decide +kernel) (pa_cons (pe_callB cr_sorted (by rfl) B.sorted (by decide +kernel) (pa_cons (pv 1) pa_nil)) pa_nil)))))), ?_⟩
  have las : as.length = R.length := has.len
  refine ⟨Nat.zero_le _, fun o no => ?_⟩
  have s0 : Same H (upd H o (.lst [])) := same_new no
  refine ⟨fun m σ H' => ∃ (fs : List Nat) (mr : Bool) (x3 x4 x5 : Option V), m = (3 - fs.length) + (if mr = true then 1 else 0) ∧ σ = [some (.ref g), some (.ref o), some (.bl mr), x3, x4, x5] ∧ Same H H' ∧ H' o = some (.lst (fs.map nmV)) ∧ fs.Nodup ∧
      (∀ n ∈ fs, n < 3 ∧ K55.Prod R n) ∧ (mr = false → ∀ n body, (n, body) ∈ R → (∀ k, Thing.nm k ∈ body → k ∈ fs) → n ∈ fs),
    ⟨_, [], true, none, none, none, rfl, rfl, s0, upd_same, List.nodup_nil, fun _ z => (nomatch z), fun z => nomatch z⟩, ?_⟩
  rintro m σ H1 ⟨fs, mr, x3, x4, x5, rfl, rfl, s1, ho, nd, hfs, fix⟩
  refine ⟨_, rfl, mr, rfl, ?_⟩
  cases mr with
  | false =>
    refine iteF ?_
    have l3 := nodup3 nd fun n hn => (hfs n hn).1
    refine ⟨_, rfl, o, fs.map (fun n : Nat => (n : Int)), rfl, by rw [← map_nmV]; exact SqL.of ho, by rw [List.length_map]; omega, fun ns' p pm _ np => ?_⟩
    refine ⟨p, _, rfl, .inl ⟨SqL.of upd_same, fun t ht => ?_⟩⟩
    obtain ⟨F', eF, hF⟩ := map_back (f := fun n : Nat => (n : Int)) (ks := fs) (L := ns') fun x hx => pm.mem_iff.mp hx
    subst eF
    refine q _ t F' ((s1.new np).new ht) (by rw [upd_same, map_nmV]) fun n => ?_
    have e1 : n ∈ F' ↔ n ∈ fs := by
      constructor
      · exact hF n
      · intro hn
        have z : (n : Int) ∈ F'.map (fun n : Nat => (n : Int)) := pm.mem_iff.mpr (List.mem_map.mpr ⟨n, hn, rfl⟩)
        obtain ⟨k, hk, e⟩ := List.mem_map.mp z
        have : k = n := by omega
        exact this ▸ hk
    rw [e1]
    exact ⟨fun hn => (hfs n hn).2, fun hp => makers_all (fix rfl) hp⟩
  | true =>
    refine iteT ⟨_, fun _ _ z => z, ?_⟩
    refine ⟨_, rfl, g, _, 1, _, rfl, rfl, SqT.of (s1 _ _ hg), atI_nat (j := 1) rfl, rs, rfl, ⟨_, SqT.of (s1 _ _ hrs)⟩,
      for_tup (K := K) (a := rs) (xs := as.map V.ref) (fun i σ H' => ∃ (fs' : List Nat) (mr : Bool) (x3 x4 x5 : Option V), σ = [some (.ref g), some (.ref o), some (.bl mr), x3, x4, x5] ∧ Same H H' ∧ H' o = some (.lst (fs'.map nmV)) ∧ fs'.Nodup ∧
        (∀ n ∈ fs', n < 3 ∧ K55.Prod R n) ∧ fs.length ≤ fs'.length ∧ (mr = true → fs.length < fs'.length) ∧ (mr = false → ∀ n body, (n, body) ∈ R.take i → (∀ k, Thing.nm k ∈ body → k ∈ fs') → n ∈ fs'))
      ⟨fs, false, x3, x4, x5, rfl, s1, ho, nd, hfs, Nat.le_refl _, fun z => (nomatch z), fun _ n body z => (nomatch z)⟩ (fun i σ H' _ ⟨_, _, _, _, _, _, sm, _⟩ => SqT.of (sm _ _ hrs)) ?_ ?_⟩
    · rintro i v σ H2 hi ⟨fs', mr, y3, y4, y5, rfl, s2, ho2, nd2, hfs2, le2, lt2, fix2⟩
      obtain ⟨ra, hra, rfl⟩ : ∃ c, as[i]? = some c ∧ V.ref c = v := by
        rw [List.getElem?_map] at hi
        exact Option.map_eq_some_iff.mp hi
      obtain ⟨⟨n, body⟩, hR, ba, hra2, hba⟩ := has.getL hra
      have mR : (n, body) ∈ R := List.mem_of_getElem? hR
      have eR : R.take (i + 1) = R.take i ++ [(n, body)] := by rw [List.take_add_one, hR]; rfl
      have hb2 : BodyAt H2 ba body := hba.up s2.tups
      have l3 := nodup3 nd2 fun n hn => (hfs2 n hn).1
      refine ⟨ra, _, rfl, SqT.of (s2 _ _ hra2), rfl, _, _, rfl, _, _, rfl, rfl, ?_⟩
      refine ⟨_, rfl, _, rfl, o, _, rfl, .inl (SqL.of ho2), rfl, flat_nm _, _, rfl, ?_⟩
      show (if (!inV (nmV n) (fs'.map nmV)) = true then _ else _)
      rw [inV_nm]
      by_cases hn : n ∈ fs'
      · rw [decide_eq_true hn]
        refine iteF (iteF ⟨fs', mr, _, _, _, rfl, s2, ho2, nd2, hfs2, le2, lt2, fun hm n' body' h1 h2 => ?_⟩)
        rw [eR] at h1
        rcases List.mem_append.mp h1 with z | z
        · exact fix2 hm n' body' z h2
        · cases List.mem_singleton.mp z
          exact hn
      · rw [decide_eq_false hn]
        refine iteT ⟨_, rfl, ba, body, rfl, hb2, by have := wf.len n body mR; omega, fun H3 p s3 np hp => ⟨p, rfl, ⟨_, SqL.of hp⟩, fun D hD => ?_⟩⟩
        have ho3 := s3 _ _ ho2
        refine lc_list (K := K) (a := p) (xs := (K55.namesOf body).map nmV) (fun j H' => Same H3 H' ∧ H' D = some (.lst ((((K55.namesOf body).take j).map fun n => decide (n ∈ fs')).map V.bl))) ⟨same_new hD, upd_same⟩ (fun j H' _ z => SqL.of (z.1 _ _ hp)) ?_ ?_
        · rintro j v H4 hj ⟨s4, hd4⟩
          obtain ⟨k, hk, rfl⟩ : ∃ k, (K55.namesOf body)[j]? = some k ∧ nmV k = v := by
            rw [List.getElem?_map] at hj
            exact Option.map_eq_some_iff.mp hj
          refine ⟨rfl, _, rfl, _, rfl, o, _, rfl, .inl (SqL.of (s4 _ _ ho3)), rfl, flat_nm _, _, hd4, ?_, s4.put hD, ?_⟩
          · rw [List.length_map, List.length_map]
            have l1 : ((K55.namesOf body).take j).length ≤ (K55.namesOf body).length := List.length_take_le' _ _
            have l2 := wf.two n body mR
            exact small1000 (by omega)
          · rw [upd_same]
            show some (HO.lst (_ ++ [V.bl (inV (nmV k) (fs'.map nmV))])) = _
            rw [inV_nm, all_in _ _ _ _ hk]
        · rintro H4 ⟨s4, hd4⟩
          rw [List.length_map, List.take_length] at hd4
          refine ⟨D, _, rfl, SqL.of hd4, _, rfl, ?_⟩
          have s24 : Same H H4 := s2.trans (s3.trans s4)
          have ho4 := s4 _ _ ho3
          cases hall : ((K55.namesOf body).map fun n => decide (n ∈ fs')).all id with
          | false =>
            refine iteF ⟨fs', mr, _, _, _, rfl, s24, ho4, nd2, hfs2, le2, lt2, fun hm n' body' h1 h2 => ?_⟩
            rw [eR] at h1
            rcases List.mem_append.mp h1 with z | z
            · exact fix2 hm n' body' z h2
            · cases List.mem_singleton.mp z
              have z : ((K55.namesOf body).map fun n => decide (n ∈ fs')).all id = true := by
                rw [List.all_map, List.all_eq_true]
                intro k hk
                exact decide_eq_true (h2 k (mem_namesOf.mp hk))
              rw [hall] at z
              cases z
          | true =>
            have hin : ∀ k, Thing.nm k ∈ body → k ∈ fs' := fun k hk => by
              rw [List.all_map, List.all_eq_true] at hall
              exact of_decide_eq_true (hall k (mem_namesOf.mpr hk))
            have pn : K55.Prod R n := prod_rule mR fun k hk => (hfs2 k (hin k hk)).2
            refine iteT ⟨_, rfl, .inl ⟨rfl, _, SqL.of ho4⟩, _, rfl, o, _, _, rfl, rfl, ho4, by rw [List.length_map]; exact small1000 (by omega), ?_⟩
            refine ⟨fs' ++ [n], true, _, _, _, rfl, s24.put no, ?_, ?_, ?_, ?_, ?_, fun z => nomatch z⟩
            · rw [upd_same, List.map_append]
              rfl
            · refine List.nodup_append.mpr ⟨nd2, by simp, fun x hx y hy e => ?_⟩
              rw [List.mem_singleton.mp hy] at e
              exact hn (e ▸ hx)
            · intro k hk
              rcases List.mem_append.mp hk with z | z
              · exact hfs2 k z
              · rw [List.mem_singleton.mp z]
                exact ⟨wf.nm n body mR, pn⟩
            · rw [List.length_append]
              omega
            · intro _
              rw [List.length_append, List.length_singleton]
              omega
    · rintro σ H2 ⟨fs', mr, y3, y4, y5, rfl, s2, ho2, nd2, hfs2, le2, lt2, fix2⟩
      rw [List.length_map, las, List.take_length] at fix2
      have l3 := nodup3 nd2 fun n hn => (hfs2 n hn).1
      refine ⟨(3 - fs'.length) + (if mr = true then 1 else 0), ?_, fs', mr, y3, y4, y5, rfl, rfl, s2, ho2, nd2, hfs2, fix2⟩
      cases mr with
      | false => simp; omega
      | true => have := lt2 rfl; simp; omega
end
end Wk

/-! W7: the class Downs: what it holds, __init__, reached. -/
namespace Wk
open PySem L2 KX K55
structure DTxt (K : PySem.W.Frag) (mg : Str → Option Value) (C : Addr) : Prop where
  cl : Cls K C
  nR : NoAttr K C "rules"
  nT : NoAttr K C "told"
  mgC : mg "Downs" = some (.ref C)
  kp : PySem.W.keepIn K (.ref C) = true
/-- a method of the class as it stands -/
structure SrcM (K : PySem.W.Frag) (C : Addr) (x q : Str) (st : Stmt) (ps : List Str) : Prop where
  ex : ∃ f fd, Meth K C x f ∧ Fun K x q st f fd ∧ Binds K fd ps []
/-- a method that keeps its promise -/
structure DfnM (P : Program) (w : World) (K : PySem.W.Frag) (mg : Str → Option Value) (base : Heap) (C : Addr) (x : Str) (n : Nat) (ps : List Str) (sp : Sp) : Prop where
  ex : ∃ f fd, Meth K C x f ∧ FnOk P w K mg base CX0 n f fd ps sp ∧ Binds K fd ps []
theorem rt_ : ¬ (("rules" : Str) = "told") := by decide +kernel
theorem tr_ : ¬ (("told" : Str) = "rules") := by decide +kernel
def pf (rl dl : Addr) : List (Str × V) := putF "told" (.ref dl) (putF "rules" (.ref rl) [])
theorem pf_eq (rl dl : Addr) : pf rl dl = ([("rules", V.ref rl), ("told", V.ref dl)] : List (Str × V)) := by
  show (if ("rules" : Str) = "told" then [(("rules" : Str), V.ref dl)] else (("rules" : Str), V.ref rl) :: putF "told" (V.ref dl) []) = ([("rules", V.ref rl), ("told", V.ref dl)] : List (Str × V))
  rw [if_neg rt_]
  all_goals rfl
theorem pf_rules (rl dl : Addr) : (pf rl dl).lookup ("rules" : Str) = some (.ref rl) := by
  unfold pf
  rw [lookup_putF, if_neg rt_, lookup_putF, if_pos rfl]
theorem pf_told (rl dl : Addr) : (pf rl dl).lookup ("told" : Str) = some (.ref dl) := by
  unfold pf
  rw [lookup_putF, if_pos rfl]
theorem pf_no (rl dl : Addr) {m : Str} (h1 : ¬ m = "told") (h2 : ¬ m = "rules") : (pf rl dl).lookup m = none := by
  unfold pf
  rw [lookup_putF, if_neg h1, lookup_putF, if_neg h2]
  all_goals rfl
theorem tups_ins {H : Hp} {p C dx : Addr} {fs : List (Str × V)} {o : HO} (n : H p = some (.ins C dx fs)) : Tups H (upd H p o) := Tups.upd n fun _ z => nomatch z
def RulesL (H : Hp) (rl : Addr) (R : Rules) : Prop := ∃ as : List Addr, H rl = some (.lst (as.map V.ref)) ∧ All2 (RuleAt H) as R
theorem RulesL.same {H H' : Hp} {rl : Addr} {R : Rules} (s : Same H H') (x : RulesL H rl R) : RulesL H' rl R := by
  obtain ⟨as, e, r⟩ := x
  exact ⟨as, s _ _ e, r.imp fun _ _ y => y.up s.tups⟩
/-- the thing: its rules -/
def DObj (C : Addr) (H : Hp) (p rl dl : Addr) (R : Rules) : Prop := ∃ dx, H p = some (.ins C dx (pf rl dl)) ∧ RulesL H rl R
theorem DObj.same {C : Addr} {H H' : Hp} {p rl dl : Addr} {R : Rules} (s : Same H H') (x : DObj C H p rl dl R) : DObj C H' p rl dl R := by
  obtain ⟨dx, e, r⟩ := x
  exact ⟨dx, s _ _ e, r.same s⟩
section
variable {P : Program} {w : World} {K : PySem.W.Frag} {mg : Str → Option Value} {base : Heap} {C : Addr}
def spInit (C : Addr) : Sp := fun vs H Q _ => ∃ (H0 : Hp) (p g dx : Addr) (N : Nat) (R : Rules), vs = [.ref p, .ref g] ∧ Same H0 H ∧ H0 p = none ∧ H p = some (.ins C dx []) ∧ GramAt H0 g N R ∧ WFG R ∧
  ∀ H' rl dl F, Same H0 H' → (∀ n, n ∈ F ↔ K55.Prod R n) → DObj C H' p rl dl (goodRules R F) → H' dl = some (.dK []) → H0 dl = none → Q .non H'
abbrev nInit : List Str := ["self", "grammar", "names", "name", "body", "one"]
theorem scInit : FnScope nInit ["self", "grammar"] (defScope sInit) := ⟨rfl, rfl, rfl, by decide +kernel, rfl, by decide +kernel, by decide +kernel⟩
theorem filter_one {α : Type} (f : α → Bool) (r : α) : [r].filter f = if f r = true then [r] else [] := by
  cases h : f r <;> simp [h]
theorem pf0_rules (rl : Addr) : (putF "rules" (.ref rl) []).lookup ("rules" : Str) = some (V.ref rl) := by
  rw [lookup_putF, if_pos rfl]
theorem good_take (R : Rules) (F : List Nat) (i : Nat) (r : Nat × Body) (h : R[i]? = some r) : goodRules (R.take (i + 1)) F = goodRules (R.take i) F ++ (if (decide (r.1 ∈ F) && (K55.namesOf r.2).all fun m => decide (m ∈ F)) = true then [r] else []) := by
  have e : R.take (i + 1) = R.take i ++ [r] := by rw [List.take_add_one, h]; rfl
  rw [e]
  unfold goodRules
  rw [List.filter_append]
  rw [filter_one]
theorem d_init (S0 : SrcM K C "__init__" "Downs.__init__" sInit ["self", "grammar"]) (T : DTxt K mg C) (B : Blt mg) (D1 : Dfn P w K mg base "makers" 2 ["grammar"] spMakers) (D2 : Dfn P w K mg base "names_in" 1 ["body"] spNames) :
    DfnM P w K mg base C "__init__" 3 ["self", "grammar"] (spInit C) := by
  obtain ⟨f, fd, gf, F, bd⟩ := S0.ex
  obtain ⟨f1, fd1, g1, G1, b1, k1⟩ := D1.ex
  obtain ⟨f2, fd2, g2, G2, b2, k2⟩ := D2.ex
  refine ⟨f, fd, gf, F.ok scInit (fun vs H Q E h => ?_) (fun cdv A outer s H vs Q E hr h => ?_), bd⟩
  · obtain ⟨H0, p, g, dx, N, R, rfl, _⟩ := h
    rfl
  obtain ⟨H0, p, g, dx, N, R, rfl, sH, p0, hp, ⟨rs, hg, as, hrs, has⟩, wf, q⟩ := h
  have hr1 : Room 1 _ := hr.mono (by decide)
  refine ⟨_, pss_cons (ps_set (i := 2) scInit.nd rfl (.inr rfl) (pe_call G1 hr (by rfl) g1 k1 b1 .nil pass0 (pa_cons (pv 1) pa_nil)))
    (pss_cons (ps_fld (pv 0) (pe_lst pa_nil) rfl)
    (pss_cons (ps_for PassesOwn.never rfl (pi_tup (pe_ix ix_tup (pv 1) pe_int (fun _ _ => rfl))) (pg_tup rfl (pgs_cons (pg_name (i := 3) scInit.nd rfl (.inl rfl)) (pgs_cons (pg_name (i := 4) scInit.nd rfl (.inl rfl)) pgs_nil)))
      (pss_one (ps_if (PW.pt (pw_and (pt_cmpR op_in_seq (pv 3) (pv 2) (by rfl)) (pw_and1 (pt_val (pe_callB (cr_all rfl) (by rfl) B.all (by decide +kernel)
            (pa_cons (pe_lc (own := [("one", 5)]) (g := gName 5) (tt := tYes) rfl scInit.nd (pi_list (pe_call G2 hr1 (by rfl) g2 k2 b2 .nil pass0 (pa_cons (pv 4) pa_nil))) (blkOk_by (N := nInit) (sc := defScope sInit) (by decide +kernel)) (fun _ _ _ _ _ => pg_name (i := 5) scInit.nd rfl (Or.inl rfl)) (fun _ _ _ _ _ => pts_nil)
              (fun _ _ _ _ _ => pe_cmpR (r := rIn K false) op_in_seq (pv 5) (pv 2) (by rfl))) pa_nil))))))
        (pss_one (ps_expr (pe_bm PySem.F.plainAttrs_list PySem.F.slot_list_append PySem.F.type_list_append mt_append (pe_fld (pv 0) rfl) (pa_cons (pe_tup (pa_cons (pv 3) (pa_cons (pv 4) pa_nil))) pa_nil)))) pss_nil)))
    (pss_one (ps_fld (pv 0) pe_dnewK rfl)))), ?_⟩
  have las : as.length = R.length := has.len
  refine ⟨_, rfl, g, N, R, rfl, ⟨rs, sH _ _ hg, as, sH _ _ hrs, has.imp fun _ _ y => y.up sH.tups⟩, wf, fun H1 t Fn s1 ht hF => ?_⟩
  have hp1 := s1 _ _ hp
  refine ⟨Nat.zero_le _, fun rl nrl => ?_⟩
  have nprl : p ≠ rl := ne_of_none hp1 nrl
  have s01 : Same H0 H1 := sH.trans s1
  have rl0 : H0 rl = none := s01.free nrl
  have hp2 : (upd H1 rl (.lst [])) p = some (.ins C dx []) := by rw [upd_ne nprl]; exact hp1
  refine ⟨_, rfl, p, C, dx, [], rfl, hp2, T.cl, T.nR, (by show 0 < 1000; decide), ?_⟩
  have hp3 : (upd (upd H1 rl (.lst [])) p (.ins C dx (putF "rules" (.ref rl) []))) p = some (.ins C dx (putF "rules" (.ref rl) [])) := upd_same
  have hr3 : (upd (upd H1 rl (.lst [])) p (.ins C dx (putF "rules" (.ref rl) []))) rl = some (.lst []) := by rw [upd_ne nprl.symm, upd_same]
  have ht3 : (upd (upd H1 rl (.lst [])) p (.ins C dx (putF "rules" (.ref rl) []))) t = some (.tup (Fn.map nmV)) := tups_ins hp2 _ _ (tups_new nrl _ _ ht)
  have s03 : Same H0 (upd (upd H1 rl (.lst [])) p (.ins C dx (putF "rules" (.ref rl) []))) := (s01.new nrl).put p0
  generalize upd (upd H1 rl (.lst [])) p (.ins C dx (putF "rules" (.ref rl) [])) = H3 at hp3 hr3 ht3 s03
  refine ⟨_, rfl, g, _, 1, _, rfl, rfl, SqT.of (s03 _ _ hg), atI_nat (j := 1) rfl, rs, rfl, ⟨_, SqT.of (s03 _ _ hrs)⟩,
    for_tup (K := K) (a := rs) (xs := as.map V.ref) (fun i σ H' => ∃ (x3 x4 x5 : Option V), σ = [some (.ref p), some (.ref g), some (.ref t), x3, x4, x5] ∧ Same H0 H' ∧ H' p = some (.ins C dx (putF "rules" (.ref rl) [])) ∧ H' t = some (.tup (Fn.map nmV)) ∧
      RulesL H' rl (goodRules (R.take i) Fn))
    ⟨none, none, none, rfl, s03, hp3, ht3, [], hr3, trivial⟩ (fun i σ H' _ ⟨_, _, _, _, sm, _⟩ => SqT.of (sm _ _ hrs)) ?_ ?_⟩
  · rintro i v σ H4 hi ⟨x3, x4, x5, rfl, s4, hp4, ht4, as', hr4, has'⟩
    obtain ⟨ra, hra, rfl⟩ : ∃ c, as[i]? = some c ∧ V.ref c = v := by
      rw [List.getElem?_map] at hi
      exact Option.map_eq_some_iff.mp hi
    obtain ⟨⟨n, body⟩, hR, ba, hra2, hba⟩ := has.getL hra
    have mR : (n, body) ∈ R := List.mem_of_getElem? hR
    have hb4 : BodyAt H4 ba body := hba.up s4.tups
    have eg := good_take R Fn i (n, body) hR
    refine ⟨ra, _, rfl, SqT.of (s4 _ _ hra2), rfl, _, _, rfl, _, _, rfl, rfl, ?_⟩
    refine ⟨_, rfl, _, rfl, t, _, rfl, .inr (SqT.of ht4), rfl, flat_nm _, _, rfl, ?_⟩
    show (if inV (nmV n) (Fn.map nmV) = true then _ else _)
    rw [inV_nm]
    by_cases hn : n ∈ Fn
    · rw [decide_eq_true hn]
      refine iteT ⟨_, rfl, ba, body, rfl, hb4, by have := wf.len n body mR; omega, fun H5 y s5 ny hy => ⟨y, rfl, ⟨_, SqL.of hy⟩, fun D hD => ?_⟩⟩
      have ht5 := s5 _ _ ht4
      refine lc_list (K := K) (a := y) (xs := (K55.namesOf body).map nmV) (fun j H' => Same H5 H' ∧ H' D = some (.lst ((((K55.namesOf body).take j).map fun n => decide (n ∈ Fn)).map V.bl))) ⟨same_new hD, upd_same⟩ (fun j H' _ z => SqL.of (z.1 _ _ hy)) ?_ ?_
      · rintro j v H6 hj ⟨s6, hd6⟩
        obtain ⟨k, hk, rfl⟩ : ∃ k, (K55.namesOf body)[j]? = some k ∧ nmV k = v := by
          rw [List.getElem?_map] at hj
          exact Option.map_eq_some_iff.mp hj
        refine ⟨rfl, _, rfl, _, rfl, t, _, rfl, .inr (SqT.of (s6 _ _ ht5)), rfl, flat_nm _, _, hd6, ?_, s6.put hD, ?_⟩
        · rw [List.length_map, List.length_map]
          have l1 : ((K55.namesOf body).take j).length ≤ (K55.namesOf body).length := List.length_take_le' _ _
          have l2 := wf.two n body mR
          exact small1000 (by omega)
        · rw [upd_same]
          show some (HO.lst (_ ++ [V.bl (inV (nmV k) (Fn.map nmV))])) = _
          rw [inV_nm, all_in _ _ _ _ hk]
      · rintro H6 ⟨s6, hd6⟩
        rw [List.length_map, List.take_length] at hd6
        refine ⟨D, _, rfl, SqL.of hd6, _, rfl, ?_⟩
        have s46 : Same H4 H6 := s5.trans s6
        have hp6 := s46 _ _ hp4
        have hr6 := s46 _ _ hr4
        cases hall : ((K55.namesOf body).map fun n => decide (n ∈ Fn)).all id with
        | false =>
          refine iteF ⟨_, _, _, rfl, s4.trans s46, hp6, s46 _ _ ht4, ?_⟩
          have e0 : ((K55.namesOf body).all fun m => decide (m ∈ Fn)) = false := by rw [List.all_map] at hall; exact hall
          rw [eg, e0, Bool.and_false]
          refine RulesL.same s46 ⟨as', hr4, ?_⟩
          rw [if_neg (by decide), List.append_nil]
          exact has'
        | true =>
          have e0 : ((K55.namesOf body).all fun m => decide (m ∈ Fn)) = true := by rw [List.all_map] at hall; exact hall
          refine iteT ⟨_, rfl, p, C, dx, _, _, rfl, hp6, T.cl, T.nR, pf0_rules rl, .inl ⟨rfl, _, SqL.of hr6⟩, _, rfl, _, rfl, (by show 2 ≤ sizeLine; decide), fun u hu => ?_⟩
          have npu : p ≠ u := ne_of_none hp6 hu
          have nru : rl ≠ u := ne_of_none hr6 hu
          have hr7 : (upd H6 u (.tup [.int (n : Nat), .ref ba])) rl = some (.lst (as'.map V.ref)) := by rw [upd_ne nru]; exact hr6
          have tp := tups_put (o := .lst (as'.map V.ref ++ [.ref u])) hr7
          have npr : p ≠ rl := ne_of hp6 hr6 (by intro z; cases z)
          refine ⟨rl, _, _, rfl, rfl, hr7, ?_, _, _, _, rfl, ((s4.trans s46).new hu).put rl0, ?_, ?_, as' ++ [u], ?_, ?_⟩
          · rw [List.length_map, has'.len]
            have l1 : (goodRules (R.take i) Fn).length ≤ (R.take i).length := List.length_filter_le _ _
            have l2 : (R.take i).length ≤ R.length := List.length_take_le' _ _
            have l3 := wf.few
            exact small1000 (by omega)
          · rw [upd_ne npr, upd_ne npu]
            exact hp6
          · exact tp _ _ (tups_new hu _ _ (s46 _ _ ht4))
          · rw [upd_same, List.map_append]
            rfl
          · rw [eg, decide_eq_true hn, e0, Bool.and_true, if_pos rfl]
            refine KX.All2.append (has'.imp fun _ _ z => ((z.up s46.tups).up (tups_new hu)).up tp) ⟨⟨ba, tp _ _ upd_same, ((hb4.up s46.tups).up (tups_new hu)).up tp⟩, trivial⟩
    · rw [decide_eq_false hn]
      refine iteF (iteF ⟨_, _, _, rfl, s4, hp4, ht4, as', hr4, ?_⟩)
      rw [eg, decide_eq_false hn, Bool.false_and, if_neg (by decide), List.append_nil]
      exact has'
  · rintro σ H4 ⟨x3, x4, x5, rfl, s4, hp4, ht4, hrl⟩
    rw [List.length_map, las, List.take_length] at hrl
    intro d hd
    have npd : p ≠ d := ne_of_none hp4 hd
    have hp5 : (upd H4 d (.dK [])) p = some (.ins C dx (putF "rules" (.ref rl) [])) := by rw [upd_ne npd]; exact hp4
    refine ⟨_, rfl, p, C, dx, _, rfl, hp5, T.cl, T.nT, (by show 1 < 1000; decide), ?_⟩
    obtain ⟨as', hr4, has'⟩ := hrl
    have nrd : rl ≠ d := ne_of_none hr4 hd
    have npr : p ≠ rl := ne_of hp4 hr4 (by intro z; cases z)
    refine q _ rl d Fn ((s4.new hd).put p0) hF ⟨dx, upd_same, as', ?_, has'.imp fun _ _ z => (z.up (tups_new hd)).up (tups_ins hp5)⟩ ?_ ?_
    · rw [upd_ne npr.symm, upd_ne nrd]
      exact hr4
    · rw [upd_ne npd.symm, upd_same]
    · exact s4.free hd
end
end Wk

/-! W8: Downs.reached. -/
namespace Wk
open PySem L2 KX K55
theorem WFG.sub {R R' : Rules} (w : WFG R) (h : ∀ r ∈ R', r ∈ R) (hl : R'.length ≤ R.length) : WFG R' :=
  ⟨Nat.le_trans hl w.few, fun n b m => w.nm n b (h _ m), fun n b m => w.len n b (h _ m), fun n b m => w.inn n b (h _ m), fun n b m => w.two n b (h _ m)⟩
theorem WFG.good {R : Rules} (w : WFG R) (F : List Nat) : WFG (goodRules R F) := w.sub (fun _ h => (List.mem_filter.mp h).1) (List.length_filter_le _ _)
/-- the search's standing: found, left, the name at work (none: 3) -/
structure RS (R : Rules) (n : Nat) (fs ls : List Nat) (h : Nat → Prop) : Prop where
  nd : fs.Nodup
  fd : ∀ m ∈ fs, m < 3 ∧ Reach R n m
  lf : ∀ m ∈ ls, m = n ∨ m ∈ fs
  cl : ∀ x, x = n ∨ x ∈ fs → x ∈ ls ∨ h x ∨ ∀ body, (x, body) ∈ R → ∀ b, Thing.nm b ∈ body → b ∈ fs
theorem RS.push {R : Rules} {n : Nat} {fs ls : List Nat} {h : Nat → Prop} (s : RS R n fs ls h) {m : Nat} (no : m ∉ fs) (h3 : m < 3) (r : Reach R n m) : RS R n (fs ++ [m]) (ls ++ [m]) h where
  nd := List.nodup_append.mpr ⟨s.nd, by simp, fun x hx y hy e => no (by rw [List.mem_singleton.mp hy] at e; exact e ▸ hx)⟩
  fd := fun x hx => by
    rcases List.mem_append.mp hx with z | z
    · exact s.fd x z
    · rw [List.mem_singleton.mp z]; exact ⟨h3, r⟩
  lf := fun x hx => by
    rcases List.mem_append.mp hx with z | z
    · rcases s.lf x z with e | e
      · exact .inl e
      · exact .inr (List.mem_append_left _ e)
    · exact .inr (List.mem_append_right _ z)
  cl := fun x hx => by
    by_cases e : x ∈ [m]
    · exact .inl (List.mem_append_right _ e)
    · have hx' : x = n ∨ x ∈ fs := by
        rcases hx with z | z
        · exact .inl z
        · rcases List.mem_append.mp z with y | y
          · exact .inr y
          · exact absurd y e
      rcases s.cl x hx' with z | z | z
      · exact .inl (List.mem_append_left _ z)
      · exact .inr (.inl z)
      · exact .inr (.inr fun body hb b hbb => List.mem_append_left _ (z body hb b hbb))
theorem RS.pop {R : Rules} {n h : Nat} {fs ls : List Nat} (s : RS R n fs (ls ++ [h]) fun _ => False) : RS R n fs ls (fun x => x = h) ∧ (h = n ∨ h ∈ fs) := by
  refine ⟨⟨s.nd, s.fd, fun m hm => s.lf m (List.mem_append_left _ hm), fun x hx => ?_⟩, s.lf h (List.mem_append_right _ List.mem_cons_self)⟩
  rcases s.cl x hx with z | z | z
  · rcases List.mem_append.mp z with y | y
    · exact .inl y
    · exact .inr (.inl (List.mem_singleton.mp y))
  · exact z.elim
  · exact .inr (.inr z)
theorem RS.close {R : Rules} {n h : Nat} {fs ls : List Nat} (s : RS R n fs ls (fun x => x = h)) (c : ∀ body, (h, body) ∈ R → ∀ b, Thing.nm b ∈ body → b ∈ fs) : RS R n fs ls fun _ => False := by
  refine ⟨s.nd, s.fd, s.lf, fun x hx => ?_⟩
  rcases s.cl x hx with z | z | z
  · exact .inl z
  · exact .inr (.inr (by rw [z]; exact c))
  · exact .inr (.inr z)
theorem RS.done {R : Rules} {n : Nat} {fs : List Nat} (s : RS R n fs [] fun _ => False) (m : Nat) : m ∈ fs ↔ Reach R n m := by
  have cl : ∀ x, x = n ∨ x ∈ fs → ∀ body, (x, body) ∈ R → ∀ b, Thing.nm b ∈ body → b ∈ fs := fun x hx => by
    rcases s.cl x hx with z | z | z
    · cases z
    · exact z.elim
    · exact z
  refine ⟨fun h => (s.fd m h).2, fun h => reach_in (S := fun x => x ∈ fs) (cl n (.inl rfl)) (fun x hx => cl x (.inr hx)) h⟩
theorem RS.len {R : Rules} {n : Nat} {fs ls : List Nat} {h : Nat → Prop} (s : RS R n fs ls h) : fs.length ≤ 3 := nodup3 s.nd fun m hm => (s.fd m hm).1
section
variable {P : Program} {w : World} {K : PySem.W.Frag} {mg : Str → Option Value} {base : Heap} {C : Addr}
def spReached (C : Addr) : Sp := fun vs H Q _ => ∃ (p rl dl : Addr) (R : Rules) (n : Nat), vs = [.ref p, .int (n : Nat)] ∧ DObj C H p rl dl R ∧ WFG R ∧
  ∀ H' y (fs : List Nat), Same H H' → H y = none → H' y = some (.lst (fs.map nmV)) → fs.length ≤ 3 → (∀ m, m ∈ fs ↔ Reach R n m) → Q (.ref y) H'
abbrev nReached : List Str := ["self", "name", "found", "left", "here", "one", "body", "other"]
theorem scReached : FnScope nReached ["self", "name"] (defScope sReached) := ⟨rfl, rfl, rfl, by decide +kernel, rfl, by decide +kernel, by decide +kernel⟩
theorem d_reached (S0 : SrcM K C "reached" "Downs.reached" sReached ["self", "name"]) (T : DTxt K mg C) (B : Blt mg) (D1 : Dfn P w K mg base "names_in" 1 ["body"] spNames) :
    DfnM P w K mg base C "reached" 2 ["self", "name"] (spReached C) := by
  obtain ⟨f, fd, gf, F, bd⟩ := S0.ex
  obtain ⟨f1, fd1, g1, G1, b1, k1⟩ := D1.ex
  refine ⟨f, fd, gf, F.ok scReached (fun vs H Q E h => ?_) (fun cdv A outer s H vs Q E hr h => ?_), bd⟩
  · obtain ⟨p, rl, dl, R, n, rfl, _⟩ := h
    rfl
  obtain ⟨p, rl, dl, R, n, rfl, ⟨dx, hp, as, hrl, has⟩, wf, q⟩ := h
  refine ⟨_, pss_cons (ps_set (i := 2) scReached.nd rfl (.inl rfl) (pe_lst pa_nil)) (pss_cons (ps_set (i := 3) scReached.nd rfl (.inl rfl) (pe_lst (pa_cons (pv 1) pa_nil)))
    (pss_cons (ps_while PassesOwn.never (pt_cmpR op_gt (pe_callB call_len_seq (by rfl) B.len PySem.boot_len (pa_cons (pv 3) pa_nil)) pe_int (nomark _))
      (pss_cons (ps_set (i := 4) scReached.nd rfl (.inl rfl) (pe_bm0 PySem.F.plainAttrs_list PySem.F.slot_list_pop PySem.F.type_list_pop mt_pop (pv 3)))
      (pss_one (ps_for PassesOwn.never rfl (pi_list (pe_fld (pv 0) rfl)) (pg_tup rfl (pgs_cons (pg_name (i := 5) scReached.nd rfl (.inl rfl)) (pgs_cons (pg_name (i := 6) scReached.nd rfl (.inl rfl)) pgs_nil)))
        (pss_one (ps_if (pt_cmpR op_eq (pv 5) (pv 4) (nomark _))
          (pss_one (ps_for PassesOwn.never rfl (pi_list (pe_call G1 hr (by rfl) g1 k1 b1 .nil pass0 (pa_cons (pv 6) pa_nil))) (pg_name (i := 7) scReached.nd rfl (.inl rfl))
            (pss_one (ps_if (pt_cmpR op_notIn_seq (pv 7) (pv 2) (by rfl))
              (pss_cons (ps_expr (pe_bm PySem.F.plainAttrs_list PySem.F.slot_list_append PySem.F.type_list_append mt_append (pv 2) (pa_cons (pv 7) pa_nil)))
              (pss_one (ps_expr (pe_bm PySem.F.plainAttrs_list PySem.F.slot_list_append PySem.F.type_list_append mt_append (pv 3) (pa_cons (pv 7) pa_nil))))) pss_nil)))) pss_nil))))))
    (pss_one (ps_ret (pv 2))))), ?_⟩
  have lR : R.length ≤ 5 := wf.few
  have las : as.length = R.length := has.len
  refine ⟨Nat.zero_le _, fun o no => ⟨_, rfl, (by show 1 ≤ sizeLine; decide), fun l nl => ?_⟩⟩
  have s1 : Same H (upd (upd H o (.lst [])) l (.lst [.int (n : Nat)])) := (same_new no).new nl
  have l0 : H l = none := (same_new no).free nl
  have nol : o ≠ l := ne_of_none upd_same nl
  refine ⟨fun m σ H' => ∃ (fs ls : List Nat) (x4 x5 x6 x7 : Option V), m = ls.length + 2 * (3 - fs.length) ∧ σ = [some (.ref p), some (.int (n : Nat)), some (.ref o), some (.ref l), x4, x5, x6, x7] ∧ Same H H' ∧ H' o = some (.lst (fs.map nmV)) ∧ H' l = some (.lst (ls.map nmV)) ∧
      (RS R n fs ls fun _ => False) ∧ ls.length + 2 * (3 - fs.length) ≤ 7,
    ⟨_, [], [n], none, none, none, none, rfl, rfl, s1, by rw [upd_ne nol, upd_same]; rfl, upd_same, ⟨List.nodup_nil, fun _ z => (nomatch z), fun m hm => .inl (List.mem_singleton.mp hm), fun x hx => by
      rcases hx with z | z
      · exact .inl (List.mem_singleton.mpr z)
      · cases z⟩, Nat.le_refl _⟩, ?_⟩
  rintro m σ H1 ⟨fs, ls, x4, x5, x6, x7, rfl, rfl, s2, ho, hl, rs, top⟩
  refine ⟨_, rfl, l, _, rfl, .inl (SqL.of hl), _, _, rfl, rfl, _, rfl, ?_⟩
  rw [List.length_map]
  have lf3 := rs.len
  rcases List.eq_nil_or_concat ls with e | ⟨ls0, h, e⟩
  · subst e
    exact iteF ⟨_, rfl, q H1 o fs s2 no ho lf3 rs.done⟩
  · have e : ls = ls0 ++ [h] := e.trans (by rw [List.concat_eq_append])
    subst e
    have gt : decide ((0 : Int) < (((ls0 ++ [h]).length : Nat) : Int)) = true := decide_eq_true (by rw [List.length_append, List.length_singleton]; omega)
    show (if decide ((0 : Int) < (((ls0 ++ [h]).length : Nat) : Int)) = true then _ else _)
    rw [gt]
    refine iteT ⟨_, fun _ _ z => z, ?_⟩
    obtain ⟨rs1, hh⟩ := rs.pop
    have ehl : (ls0 ++ [h]).map nmV = ls0.map nmV ++ [nmV h] := by rw [List.map_append]; rfl
    rw [ehl] at hl
    refine ⟨_, rfl, .inl ⟨rfl, _, SqL.of hl⟩, l, _, nmV h, rfl, rfl, hl, ?_, ?_⟩
    · rw [List.length_append, List.length_singleton, Nat.add_sub_cancel, List.getElem?_append_right (Nat.le_refl _), Nat.sub_self]
      rfl
    rw [List.dropLast_concat]
    have hl2 : (upd H1 l (.lst (ls0.map nmV))) l = some (.lst (ls0.map nmV)) := upd_same
    have ho2 : (upd H1 l (.lst (ls0.map nmV))) o = some (.lst (fs.map nmV)) := by rw [upd_ne nol]; exact ho
    have s3 : Same H (upd H1 l (.lst (ls0.map nmV))) := s2.put l0
    generalize upd H1 l (.lst (ls0.map nmV)) = H2 at hl2 ho2 s3
    refine ⟨_, rfl, p, C, dx, _, _, rfl, s3 _ _ hp, T.cl, T.nR, pf_rules rl dl, rl, rfl, ⟨_, SqL.of (s3 _ _ hrl)⟩,
      for_list (K := K) (a := rl) (xs := as.map V.ref) (fun i σ H' => ∃ (fs' ls' : List Nat) (x5 x6 x7 : Option V), σ = [some (.ref p), some (.int (n : Nat)), some (.ref o), some (.ref l), some (nmV h), x5, x6, x7] ∧ Same H H' ∧ H' o = some (.lst (fs'.map nmV)) ∧ H' l = some (.lst (ls'.map nmV)) ∧
        RS R n fs' ls' (fun x => x = h) ∧ ls'.length + 2 * (3 - fs'.length) ≤ ls0.length + 2 * (3 - fs.length) ∧ ∀ body, (h, body) ∈ R.take i → ∀ b, Thing.nm b ∈ body → b ∈ fs')
      ⟨fs, ls0, x5, x6, x7, rfl, s3, ho2, hl2, rs1, Nat.le_refl _, fun body z => nomatch z⟩ (fun i σ H' _ ⟨_, _, _, _, _, _, sm, _⟩ => SqL.of (sm _ _ hrl)) ?_ ?_⟩
    · rintro i v σ H4 hi ⟨fs', ls', y5, y6, y7, rfl, s4, ho4, hl4, rs4, me, done⟩
      obtain ⟨ra, hra, rfl⟩ : ∃ c, as[i]? = some c ∧ V.ref c = v := by
        rw [List.getElem?_map] at hi
        exact Option.map_eq_some_iff.mp hi
      obtain ⟨⟨k, body⟩, hR, ba, hra2, hba⟩ := has.getL hra
      have mR : (k, body) ∈ R := List.mem_of_getElem? hR
      have eR : R.take (i + 1) = R.take i ++ [(k, body)] := by rw [List.take_add_one, hR]; rfl
      refine ⟨ra, _, rfl, SqT.of (s4 _ _ hra2), rfl, _, _, rfl, _, _, rfl, rfl, ?_⟩
      refine ⟨_, rfl, _, rfl, rfl, _, rfl, ?_⟩
      by_cases hk : k = h
      · subst hk
        have e1 : decide (V.int ((k : Nat) : Int) = nmV k) = true := decide_eq_true rfl
        show (if decide (V.int ((k : Nat) : Int) = nmV k) = true then _ else _)
        rw [e1]
        refine iteT ⟨_, rfl, ba, body, rfl, hba.up s4.tups, by have := wf.len k body mR; omega, fun H5 y s5 ny hy => ⟨y, rfl, ⟨_, SqL.of hy⟩, ?_⟩⟩
        refine for_list (K := K) (a := y) (xs := (K55.namesOf body).map nmV) (fun j σ H' => ∃ (fs' ls' : List Nat) (x7 : Option V), σ = [some (.ref p), some (.int (n : Nat)), some (.ref o), some (.ref l), some (nmV k), some (.int (k : Nat)), some (.ref ba), x7] ∧ Same H H' ∧ H' y = some (.lst ((K55.namesOf body).map nmV)) ∧
            H' o = some (.lst (fs'.map nmV)) ∧ H' l = some (.lst (ls'.map nmV)) ∧
            RS R n fs' ls' (fun x => x = k) ∧ ls'.length + 2 * (3 - fs'.length) ≤ ls0.length + 2 * (3 - fs.length) ∧ (∀ body, (k, body) ∈ R.take i → ∀ b, Thing.nm b ∈ body → b ∈ fs') ∧ ∀ b ∈ (K55.namesOf body).take j, b ∈ fs')
          ⟨fs', ls', y7, rfl, s4.trans s5, hy, s5 _ _ ho4, s5 _ _ hl4, rs4, me, done, fun b z => nomatch z⟩ (fun j σ H' _ ⟨_, _, _, _, _, hy', _⟩ => SqL.of hy') ?_ ?_
        · rintro j v σ H6 hj ⟨fs2, ls2, z7, rfl, s6, hy6, ho6, hl6, rs6, me6, done6, dj⟩
          obtain ⟨b, hb, rfl⟩ : ∃ b, (K55.namesOf body)[j]? = some b ∧ nmV b = v := by
            rw [List.getElem?_map] at hj
            exact Option.map_eq_some_iff.mp hj
          have mb : Thing.nm b ∈ body := mem_namesOf.mp (List.mem_of_getElem? hb)
          have et : (K55.namesOf body).take (j + 1) = (K55.namesOf body).take j ++ [b] := by rw [List.take_add_one, hb]; rfl
          have l6 := rs6.len
          refine ⟨_, rfl, _, rfl, o, _, rfl, .inl (SqL.of ho6), rfl, flat_nm _, _, rfl, ?_⟩
          show (if (!inV (nmV b) (fs2.map nmV)) = true then _ else _)
          rw [inV_nm]
          by_cases hbf : b ∈ fs2
          · rw [decide_eq_true hbf]
            refine iteF ⟨fs2, ls2, _, rfl, s6, hy6, ho6, hl6, rs6, me6, done6, fun x hx => ?_⟩
            rw [et] at hx
            rcases List.mem_append.mp hx with z | z
            · exact dj x z
            · rw [List.mem_singleton.mp z]; exact hbf
          · rw [decide_eq_false hbf]
            have nyo : y ≠ o := (ne_of_none ho4 ny).symm
            have nyl : y ≠ l := (ne_of_none hl4 ny).symm
            have lls : ls2.length ≤ 1000 := by
              rw [List.length_append, List.length_singleton] at top
              omega
            have rk : Reach R n k ∨ k = n := by
              rcases hh with z | z
              · exact .inr z
              · exact .inl (rs.fd k z).2
            have rb : Reach R n b := by
              rcases rk with z | z
              · exact z.trans (.one mR mb)
              · rw [← z]; exact .one mR mb
            have hl6' : (upd H6 o (.lst (fs2.map nmV ++ [nmV b]))) l = some (.lst (ls2.map nmV)) := by rw [upd_ne nol.symm]; exact hl6
            refine iteT ⟨_, rfl, .inl ⟨rfl, _, SqL.of ho6⟩, _, rfl, o, _, _, rfl, rfl, ho6, by rw [List.length_map]; exact small1000 (by omega),
              _, rfl, .inl ⟨rfl, _, SqL.of hl6'⟩, _, rfl, l, _, _, rfl, rfl, hl6', by rw [List.length_map]; exact small1000 lls, ?_⟩
            refine ⟨fs2 ++ [b], ls2 ++ [b], _, rfl, (s6.put no).put l0, ?_, ?_, ?_, rs6.push hbf (wf.inn k body mR b mb) rb, ?_, fun body' h1 b' h2 => List.mem_append_left _ (done6 body' h1 b' h2), fun x hx => ?_⟩
            · rw [upd_ne nyl, upd_ne nyo]; exact hy6
            · rw [upd_ne nol, upd_same, List.map_append]; rfl
            · rw [upd_same, List.map_append]; rfl
            · have l7 := (rs6.push hbf (wf.inn k body mR b mb) rb).len
              rw [List.length_append, List.length_append, List.length_singleton]
              rw [List.length_append, List.length_singleton] at l7
              omega
            · rw [et] at hx
              rcases List.mem_append.mp hx with z | z
              · exact List.mem_append_left _ (dj x z)
              · exact List.mem_append_right _ z
        · rintro σ H6 ⟨fs2, ls2, z7, rfl, s6, hy6, ho6, hl6, rs6, me6, done6, dj⟩
          rw [List.length_map, List.take_length] at dj
          refine ⟨fs2, ls2, _, _, _, rfl, s6, ho6, hl6, rs6, me6, fun body' h1 b h2 => ?_⟩
          rw [eR] at h1
          rcases List.mem_append.mp h1 with z | z
          · exact done6 body' z b h2
          · cases List.mem_singleton.mp z
            exact dj b (mem_namesOf.mpr h2)
      · have e1 : decide (V.int ((k : Nat) : Int) = nmV h) = false := decide_eq_false fun z => hk (by have z := V.int.inj z; omega)
        show (if decide (V.int ((k : Nat) : Int) = nmV h) = true then _ else _)
        rw [e1]
        refine iteF ⟨fs', ls', _, _, _, rfl, s4, ho4, hl4, rs4, me, fun body' h1 b h2 => ?_⟩
        rw [eR] at h1
        rcases List.mem_append.mp h1 with z | z
        · exact done body' z b h2
        · cases List.mem_singleton.mp z
          exact absurd rfl hk
    · rintro σ H4 ⟨fs', ls', y5, y6, y7, rfl, s4, ho4, hl4, rs4, me, done⟩
      rw [List.length_map, las, List.take_length] at done
      refine ⟨ls'.length + 2 * (3 - fs'.length), ?_, fs', ls', _, _, _, _, rfl, rfl, s4, ho4, hl4, rs4.close done, ?_⟩
      · rw [List.length_append, List.length_singleton]
        omega
      · rw [List.length_append, List.length_singleton] at top
        omega
end
end Wk

/-! W9: Downs.letters. -/
namespace Wk
open PySem L2 KX K55
/-! ### a dict of letters -/
def kvL (ks : List Nat) : List (Key × V) := ks.map fun c => (Sum.inr (tx [c]), V.bl true)
def addL (ks : List Nat) (c : Nat) : List Nat := if c ∈ ks then ks else ks ++ [c]
theorem tx1_inj {c d : Nat} (h : tx [c] = tx [d]) : c = d := by
  have := tx_inj h
  injection this
theorem kvL_any (ks : List Nat) (c : Nat) : ((kvL ks).any fun kv => decide (kv.1 = Sum.inr (tx [c]))) = decide (c ∈ ks) := by
  unfold kvL
  induction ks with
  | nil => rfl
  | cons d ks ih =>
    rw [List.map_cons, List.any_cons, ih]
    by_cases h : d = c
    · subst h; simp
    · have h2 : ¬ (Sum.inr (tx [d]) : Key) = Sum.inr (tx [c]) := fun z => h (tx1_inj (Sum.inr.inj z))
      have h3 : ¬ c = d := fun z => h z.symm
      simp [h2, h3]
theorem put_kvL (ks : List Nat) (c : Nat) : putK (kvL ks) (Sum.inr (tx [c])) (V.bl true) = kvL (addL ks c) := by
  unfold putK addL
  rw [kvL_any]
  by_cases h : c ∈ ks
  · rw [if_pos (decide_eq_true h), if_pos h]
    unfold kvL
    rw [List.map_map]
    refine List.map_congr_left fun d _ => ?_
    show (if (Sum.inr (tx [d]) : Key) = Sum.inr (tx [c]) then (Sum.inr (tx [d]), V.bl true) else (Sum.inr (tx [d]), V.bl true)) = _
    split <;> rfl
  · rw [if_neg (by simpa using h), if_neg h]
    unfold kvL
    rw [List.map_append]
    rfl
theorem mem_addL {ks : List Nat} {c d : Nat} : d ∈ addL ks c ↔ d ∈ ks ∨ d = c := by
  unfold addL
  by_cases h : c ∈ ks
  · rw [if_pos h]
    exact ⟨.inl, fun z => z.elim id fun e => e ▸ h⟩
  · rw [if_neg h, List.mem_append, List.mem_singleton]
theorem addL_nd {ks : List Nat} {c : Nat} (h : ks.Nodup) : (addL ks c).Nodup := by
  unfold addL
  by_cases m : c ∈ ks
  · rw [if_pos m]; exact h
  · rw [if_neg m]
    exact List.nodup_append.mpr ⟨h, by simp, fun x hx y hy e => m (by rw [List.mem_singleton.mp hy] at e; exact e ▸ hx)⟩
theorem addL_len (ks : List Nat) (c : Nat) : (addL ks c).length ≤ ks.length + 1 := by
  unfold addL
  split
  · omega
  · rw [List.length_append, List.length_singleton]; omega
theorem join1 : ∀ s : List Nat, Str.join ("" : Str) (s.map fun c => tx [c]) = tx s
  | [] => rfl
  | [c] => rfl
  | c :: d :: s => by
    show tx [c] ++ ("" : Str) ++ Str.join "" ((d :: s).map fun c => tx [c]) = tx (c :: d :: s)
    rw [join1 (d :: s), tx_nil, tx_append, tx_append]
    rfl
theorem rising_of : ∀ {p : Nat} {s : List Nat}, PyProof.Rows.risingS (tx [p]) (s.map fun c => tx [c]) = true → (p :: s).Nodup → (p :: s).Pairwise (· < ·)
  | p, [], _, _ => by simp
  | p, c :: s, h, nd => by
    rw [List.map_cons] at h
    unfold PyProof.Rows.risingS at h
    rw [Bool.and_eq_true] at h
    have nd2 := (List.nodup_cons.mp nd).2
    have ih := rising_of h.2 nd2
    have npc : p ≠ c := fun e => (List.nodup_cons.mp nd).1 (e ▸ List.mem_cons_self)
    have lt : p < c := by
      have z := h.1
      rw [tx_list, tx_list, PyProof.Rows.ltCps_eq] at z
      have z2 : ¬ [c] < [p] := by simpa using z
      have z3 : ¬ c < p := fun q => z2 (List.cons_lt_cons_iff.mpr (.inl q))
      omega
    refine List.pairwise_cons.mpr ⟨fun x hx => ?_, ih⟩
    rcases List.mem_cons.mp hx with e | hx
    · rw [e]; exact lt
    · exact Nat.lt_trans lt ((List.pairwise_cons.mp ih).1 x hx)
theorem mem_take1 {α : Type} {l : List α} {i : Nat} {y : α} (h : l[i]? = some y) {x : α} : x ∈ l.take (i + 1) ↔ x ∈ l.take i ∨ x = y := by
  rw [List.take_add_one, h]
  simp
section
variable {P : Program} {w : World} {K : PySem.W.Frag} {mg : Str → Option Value} {base : Heap} {C : Addr}
def spLetters (C : Addr) : Sp := fun vs H Q _ => ∃ (p rl dl q : Addr) (R : Rules) (b : Body), vs = [.ref p, .ref q] ∧ DObj C H p rl dl R ∧ WFG R ∧ H q = some (.lst (b.map thV)) ∧ b.length ≤ 40 ∧
  ∀ H' (s : List Nat), Same H H' → s.Pairwise (· < ·) → s.length ≤ 63 → (∀ c, c ∈ s ↔ LetterOf R b c) → Q (.str (tx s)) H'
abbrev nLetters : List Str := ["self", "things", "names", "found", "thing", "name", "body"]
theorem scLetters : FnScope nLetters ["self", "things"] (defScope sLetters) := ⟨rfl, rfl, rfl, by decide +kernel, rfl, by decide +kernel, by decide +kernel⟩
theorem d_letters (S0 : SrcM K C "letters" "Downs.letters" sLetters ["self", "things"]) (T : DTxt K mg C) (B : Blt mg) (D1 : DfnM P w K mg base C "reached" 2 ["self", "name"] (spReached C)) :
    DfnM P w K mg base C "letters" 3 ["self", "things"] (spLetters C) := by
  obtain ⟨f, fd, gf, F, bd⟩ := S0.ex
  obtain ⟨f1, fd1, m1, G1, b1⟩ := D1.ex
  refine ⟨f, fd, gf, F.ok scLetters (fun vs H Q E h => ?_) (fun cdv A outer s H vs Q E hr h => ?_), bd⟩
  · obtain ⟨p, rl, dl, q, R, b, rfl, _⟩ := h
    rfl
  obtain ⟨p, rl, dl, qa, R, b, rfl, ⟨dx, hp, as, hrl, has⟩, wf, hq, hb40, q⟩ := h
  refine ⟨_, pss_cons (ps_set (i := 2) scLetters.nd rfl (.inl rfl) (pe_lst pa_nil)) (pss_cons (ps_set (i := 3) scLetters.nd rfl (.inl rfl) pe_dnewK)
    (pss_cons (ps_for PassesOwn.never rfl (pi_list (pv 1)) (pg_name (i := 4) scLetters.nd rfl (.inl rfl))
      (pss_one (ps_if (pt_val (pe_isS (by rfl) (by rfl) B.isi B.str (pv 4))) (pss_one (ps_dput (hu_of hr) (pv 3) (pv 4) pe_bl rfl))
        (pss_one (ps_expr (pe_bm PySem.F.plainAttrs_list PySem.F.slot_list_extend PySem.F.type_list_extend mt_extend (pv 2)
          (pa_cons (pe_op op_cat (pe_lst (pa_cons (pv 4) pa_nil)) (pe_meth (pv 0) T.cl m1 G1 hr b1 .nil pass0 (pa_cons (pv 4) pa_nil))) pa_nil)))))))
    (pss_cons (ps_for PassesOwn.never rfl (pi_list (pe_fld (pv 0) rfl)) (pg_tup rfl (pgs_cons (pg_name (i := 5) scLetters.nd rfl (.inl rfl)) (pgs_cons (pg_name (i := 6) scLetters.nd rfl (.inl rfl)) pgs_nil)))
      (pss_one (ps_if (pt_cmpR op_in_seq (pv 5) (pv 2) (by rfl))
        (pss_one (ps_for PassesOwn.never rfl (pi_tup (pv 6)) (pg_name (i := 4) scLetters.nd rfl (.inl rfl))
          (pss_one (ps_if (pt_val (pe_isS (by rfl) (by rfl) B.isi B.str (pv 4))) (pss_one (ps_dput (hu_of hr) (pv 3) (pv 4) pe_bl rfl)) pss_nil)))) pss_nil)))
    (pss_one (ps_ret (pe_join pe_str (pe_callB (call_sortedD rfl) (by rfl) B.sorted (by decide +kernel) (pa_cons (pv 3) pa_nil)))))))), ?_⟩
  have lR : R.length ≤ 5 := wf.few
  have las : as.length = R.length := has.len
  refine ⟨Nat.zero_le _, fun o no => fun d nd => ?_⟩
  have s1 : Same H (upd (upd H o (.lst [])) d (.dK [])) := (same_new no).new nd
  have d0 : H d = none := (same_new no).free nd
  have nod : o ≠ d := ne_of_none upd_same nd
  refine ⟨_, rfl, qa, rfl, ⟨_, SqL.of (s1 _ _ hq)⟩, for_list (K := K) (a := qa) (xs := b.map thV) (fun i σ H' => ∃ (ns ks : List Nat) (x4 x5 x6 : Option V), σ = [some (.ref p), some (.ref qa), some (.ref o), some (.ref d), x4, x5, x6] ∧ Same H H' ∧
      H' o = some (.lst (ns.map nmV)) ∧ H' d = some (.dK (kvL ks)) ∧ ks.Nodup ∧ (∀ m, m ∈ ns ↔ ∃ a, Thing.nm a ∈ b.take i ∧ Reach0 R a m) ∧ (∀ c, c ∈ ks ↔ Thing.lt c ∈ b.take i) ∧ ns.length ≤ 4 * i ∧ ks.length ≤ i)
    ⟨[], [], none, none, none, rfl, s1, by rw [upd_ne nod, upd_same]; rfl, upd_same, List.nodup_nil, fun m => ⟨fun z => (nomatch z), fun ⟨_, z, _⟩ => (nomatch z)⟩, fun c => ⟨fun z => (nomatch z), fun z => (nomatch z)⟩, Nat.le_refl _, Nat.le_refl _⟩
    (fun i σ H' _ ⟨_, _, _, _, _, _, sm, _⟩ => SqL.of (sm _ _ hq)) ?_ ?_⟩
  · rintro i v σ H2 hi ⟨ns, ks, x4, x5, x6, rfl, s2, ho, hd, kn, hns, hks, ln, lk⟩
    obtain ⟨t, ht, rfl⟩ : ∃ t, b[i]? = some t ∧ thV t = v := by
      rw [List.getElem?_map] at hi
      exact Option.map_eq_some_iff.mp hi
    have mt := fun x : Thing => mem_take1 ht (x := x)
    have hib : i < b.length := (List.getElem?_eq_some_iff.mp ht).1
    refine ⟨_, rfl, _, rfl, th_isS t, _, rfl, ?_⟩
    rw [th_S]
    cases t with
    | lt c =>
      refine iteT ⟨_, rfl, _, rfl, d, _, rfl, DPut.k (k := Sum.inr (tx [c])) hd (by unfold kvL; rw [List.length_map]; exact small1000 (by omega)), ?_⟩
      refine ⟨ns, addL ks c, _, _, _, rfl, s2.put d0, by rw [upd_ne nod]; exact ho, by rw [upd_same, put_kvL], addL_nd kn, fun m => ?_, fun c' => ?_, by omega, by have := addL_len ks c; omega⟩
      · rw [hns m]
        constructor
        · rintro ⟨a, h1, h2⟩; exact ⟨a, (mt _).mpr (.inl h1), h2⟩
        · rintro ⟨a, h1, h2⟩
          rcases (mt _).mp h1 with z | z
          · exact ⟨a, z, h2⟩
          · cases z
      · rw [mem_addL, hks c', mt]
        constructor
        · rintro (z | z)
          · exact .inl z
          · rw [z]; exact .inr rfl
        · rintro (z | z)
          · exact .inl z
          · cases z; exact .inr rfl
    | nm n =>
      refine iteF ⟨_, rfl, .inl ⟨rfl, _, SqL.of ho⟩, _, rfl, (by show 1 ≤ sizeLine; decide), fun u hu => ?_⟩
      have hu1 : (upd H2 u (.lst [thV (.nm n)])) u = some (.lst [thV (.nm n)]) := upd_same
      have s3 : Same H (upd H2 u (.lst [thV (.nm n)])) := s2.new hu
      have ou : o ≠ u := ne_of_none ho hu
      have du : d ≠ u := ne_of_none hd hu
      have ho3 : (upd H2 u (.lst [thV (.nm n)])) o = some (.lst (ns.map nmV)) := by rw [upd_ne ou]; exact ho
      have hd3 : (upd H2 u (.lst [thV (.nm n)])) d = some (.dK (kvL ks)) := by rw [upd_ne du]; exact hd
      refine ⟨_, rfl, p, dx, _, rfl, s3 _ _ hp, pf_no rl dl (by decide +kernel) (by decide +kernel), _, rfl, p, rl, dl, R, n, rfl, ⟨dx, s3 _ _ hp, as, s3 _ _ hrl, has.imp fun _ _ z => z.up s3.tups⟩, wf, fun H4 y fs s4 ny hy lf hfs => ?_⟩
      have ho4 := s4 _ _ ho3
      have hd4 := s4 _ _ hd3
      refine ⟨u, y, _, _, rfl, rfl, s4 _ _ hu1, hy, ?_, fun z hz => ?_⟩
      · rw [List.length_map, List.length_singleton]
        exact Nat.le_of_lt (small1000 (by omega))
      have oz : o ≠ z := ne_of_none ho4 hz
      have dz : d ≠ z := ne_of_none hd4 hz
      have ho5 : (upd H4 z (.lst ([thV (.nm n)] ++ fs.map nmV))) o = some (.lst (ns.map nmV)) := by rw [upd_ne oz]; exact ho4
      refine ⟨o, z, _, _, rfl, rfl, ho5, upd_same, ?_, ?_⟩
      · rw [List.length_append, List.length_singleton, List.length_map, List.length_map]
        exact Nat.le_of_lt (small1000 (by omega))
      refine ⟨ns ++ (n :: fs), ks, _, _, _, rfl, ((s3.trans s4).new hz).put no, ?_, ?_, kn, fun m => ?_, fun c' => ?_, ?_, by omega⟩
      · rw [upd_same, List.map_append]
        rfl
      · rw [upd_ne nod.symm, upd_ne dz]
        exact hd4
      · rw [List.mem_append, hns m, List.mem_cons, hfs m]
        constructor
        · rintro (⟨a, h1, h2⟩ | h | h)
          · exact ⟨a, (mt _).mpr (.inl h1), h2⟩
          · exact ⟨n, (mt _).mpr (.inr rfl), .inl h.symm⟩
          · exact ⟨n, (mt _).mpr (.inr rfl), .inr h⟩
        · rintro ⟨a, h1, h2⟩
          rcases (mt _).mp h1 with z | z
          · exact .inl ⟨a, z, h2⟩
          · cases z
            rcases h2 with e | h2
            · exact .inr (.inl e.symm)
            · exact .inr (.inr h2)
      · rw [hks c', mt]
        constructor
        · exact .inl
        · rintro (z | z)
          · exact z
          · cases z
      · rw [List.length_append, List.length_cons]
        omega
  · rintro σ H2 ⟨ns, ks, x4, x5, x6, rfl, s2, ho, hd, kn, hns, hks, ln, lk⟩
    rw [List.length_map, List.take_length] at hns hks
    rw [List.length_map] at ln lk
    refine ⟨_, rfl, p, C, dx, _, _, rfl, s2 _ _ hp, T.cl, T.nR, pf_rules rl dl, rl, rfl, ⟨_, SqL.of (s2 _ _ hrl)⟩,
      for_list (K := K) (a := rl) (xs := as.map V.ref) (fun i σ H' => ∃ (ks : List Nat) (x4 x5 x6 : Option V), σ = [some (.ref p), some (.ref qa), some (.ref o), some (.ref d), x4, x5, x6] ∧ Same H H' ∧
        H' o = some (.lst (ns.map nmV)) ∧ H' d = some (.dK (kvL ks)) ∧ ks.Nodup ∧ (∀ c, c ∈ ks ↔ Thing.lt c ∈ b ∨ ∃ n body, (n, body) ∈ R.take i ∧ n ∈ ns ∧ Thing.lt c ∈ body) ∧ ks.length ≤ b.length + 3 * i)
      ⟨ks, x4, x5, x6, rfl, s2, ho, hd, kn, fun c => by
        rw [hks c]
        exact ⟨.inl, fun z => z.elim id fun ⟨_, _, y, _⟩ => (nomatch y)⟩, lk⟩
      (fun i σ H' _ ⟨_, _, _, _, _, sm, _⟩ => SqL.of (sm _ _ hrl)) ?_ ?_⟩
    · rintro i v σ H4 hi ⟨ks, y4, y5, y6, rfl, s4, ho4, hd4, kn4, hk4, lk4⟩
      obtain ⟨ra, hra, rfl⟩ : ∃ c, as[i]? = some c ∧ V.ref c = v := by
        rw [List.getElem?_map] at hi
        exact Option.map_eq_some_iff.mp hi
      obtain ⟨⟨n, body⟩, hR, ba, hra2, hba⟩ := has.getL hra
      have mR : (n, body) ∈ R := List.mem_of_getElem? hR
      have mt := fun x : Nat × Body => mem_take1 hR (x := x)
      have iR : i < R.length := (List.getElem?_eq_some_iff.mp hR).1
      have hb4 : BodyAt H4 ba body := hba.up s4.tups
      refine ⟨ra, _, rfl, SqT.of (s4 _ _ hra2), rfl, _, _, rfl, _, _, rfl, rfl, ?_⟩
      refine ⟨_, rfl, _, rfl, o, _, rfl, .inl (SqL.of ho4), rfl, flat_nm _, _, rfl, ?_⟩
      show (if inV (nmV n) (ns.map nmV) = true then _ else _)
      rw [inV_nm]
      by_cases hn : n ∈ ns
      · rw [decide_eq_true hn]
        refine iteT ⟨_, rfl, ba, rfl, ⟨_, SqT.of hb4⟩, for_tup (K := K) (a := ba) (xs := body.map thV) (fun j σ H' => ∃ (ks : List Nat) (x4 : Option V), σ = [some (.ref p), some (.ref qa), some (.ref o), some (.ref d), x4, some (.int (n : Nat)), some (.ref ba)] ∧ Same H H' ∧
            H' o = some (.lst (ns.map nmV)) ∧ H' d = some (.dK (kvL ks)) ∧ ks.Nodup ∧ (∀ c, c ∈ ks ↔ (Thing.lt c ∈ b ∨ ∃ n body, (n, body) ∈ R.take i ∧ n ∈ ns ∧ Thing.lt c ∈ body) ∨ Thing.lt c ∈ body.take j) ∧ ks.length ≤ b.length + 3 * i + j ∧ BodyAt H' ba body)
          ⟨ks, y4, rfl, s4, ho4, hd4, kn4, fun c => by
            rw [hk4 c]
            exact ⟨.inl, fun z => z.elim id fun y => (nomatch y)⟩, lk4, hb4⟩
          (fun j σ H' _ ⟨_, _, _, _, _, _, _, _, _, hb'⟩ => SqT.of hb') ?_ ?_⟩
        · rintro j v σ H5 hj ⟨ks, z4, rfl, s5, ho5, hd5, kn5, hk5, lk5, hb5⟩
          obtain ⟨t, ht, rfl⟩ : ∃ t, body[j]? = some t ∧ thV t = v := by
            rw [List.getElem?_map] at hj
            exact Option.map_eq_some_iff.mp hj
          have mt2 := fun x : Thing => mem_take1 ht (x := x)
          have jl : j < body.length := (List.getElem?_eq_some_iff.mp ht).1
          have l3 := wf.len n body mR
          refine ⟨_, rfl, _, rfl, th_isS t, _, rfl, ?_⟩
          rw [th_S]
          cases t with
          | lt c =>
            refine iteT ⟨_, rfl, _, rfl, d, _, rfl, DPut.k (k := Sum.inr (tx [c])) hd5 (by unfold kvL; rw [List.length_map]; exact small1000 (by omega)), ?_⟩
            refine ⟨addL ks c, _, rfl, s5.put d0, by rw [upd_ne nod]; exact ho5, by rw [upd_same, put_kvL], addL_nd kn5, fun c' => ?_, by have := addL_len ks c; omega, hb5.up (tups_putD hd5)⟩
            rw [mem_addL, hk5 c', mt2]
            constructor
            · rintro ((z | z) | z)
              · exact .inl z
              · exact .inr (.inl z)
              · rw [z]; exact .inr (.inr rfl)
            · rintro (z | z | z)
              · exact .inl (.inl z)
              · exact .inl (.inr z)
              · cases z; exact .inr rfl
          | nm m =>
            refine iteF ⟨ks, _, rfl, s5, ho5, hd5, kn5, fun c' => ?_, by omega, hb5⟩
            rw [hk5 c', mt2]
            constructor
            · rintro (z | z)
              · exact .inl z
              · exact .inr (.inl z)
            · rintro (z | z | z)
              · exact .inl z
              · exact .inr z
              · cases z
        · rintro σ H5 ⟨ks, z4, rfl, s5, ho5, hd5, kn5, hk5, lk5, hb5⟩
          rw [List.length_map] at lk5
          rw [List.length_map, List.take_length] at hk5
          have l3 := wf.len n body mR
          refine ⟨ks, _, _, _, rfl, s5, ho5, hd5, kn5, fun c => ?_, by omega⟩
          rw [hk5 c]
          constructor
          · rintro ((z | ⟨n', b', h1, h2, h3⟩) | z)
            · exact .inl z
            · exact .inr ⟨n', b', (mt _).mpr (.inl h1), h2, h3⟩
            · exact .inr ⟨n, body, (mt _).mpr (.inr rfl), hn, z⟩
          · rintro (z | ⟨n', b', h1, h2, h3⟩)
            · exact .inl (.inl z)
            · rcases (mt _).mp h1 with z | z
              · exact .inl (.inr ⟨n', b', z, h2, h3⟩)
              · cases z
                exact .inr h3
      · rw [decide_eq_false hn]
        refine iteF ⟨ks, _, _, _, rfl, s4, ho4, hd4, kn4, fun c => ?_, by omega⟩
        rw [hk4 c]
        constructor
        · rintro (z | ⟨n', b', h1, h2, h3⟩)
          · exact .inl z
          · exact .inr ⟨n', b', (mt _).mpr (.inl h1), h2, h3⟩
        · rintro (z | ⟨n', b', h1, h2, h3⟩)
          · exact .inl z
          · rcases (mt _).mp h1 with z | z
            · exact .inr ⟨n', b', z, h2, h3⟩
            · cases z
              exact absurd h2 hn
    · rintro σ H4 ⟨ks, y4, y5, y6, rfl, s4, ho4, hd4, kn4, hk4, lk4⟩
      rw [List.length_map, las] at lk4
      rw [List.length_map, las, List.take_length] at hk4
      refine ⟨⟨_, rfl⟩, _, rfl, d, kvL ks, ks.map fun c => tx [c], rfl, .of hd4, by unfold kvL; rw [List.map_map, List.map_map]; rfl, by rw [List.length_map]; omega, fun ys y pm srt ny => ?_⟩
      obtain ⟨s, es, hs⟩ := map_back (f := fun c => tx [c]) (ks := ks) (L := ys) fun x hx => pm.mem_iff.mp hx
      subst es
      have eq_ks : ∀ c, c ∈ s ↔ c ∈ ks := fun c => ⟨hs c, fun hc => by
        obtain ⟨c', h1, h2⟩ := List.mem_map.mp (pm.mem_iff.mpr (List.mem_map.mpr ⟨c, hc, rfl⟩))
        rw [← tx1_inj h2]; exact h1⟩
      have ls : s.length = ks.length := by
        have z := pm.length_eq
        rw [List.length_map, List.length_map] at z
        exact z
      have ndm : (ks.map fun c => tx [c]).Nodup := List.pairwise_map.mpr (kn4.imp fun {x y} ne e => ne (tx1_inj e))
      have nds : s.Nodup := L2.nodup_of_map (pm.nodup_iff.mpr ndm)
      have pw : s.Pairwise (· < ·) := by
        cases s with
        | nil => exact List.Pairwise.nil
        | cons c s => exact rising_of srt nds
      refine ⟨_, y, s.map fun c => tx [c], rfl, rfl, .inl (SqL.of upd_same), ?_, ?_⟩
      · have e1 : ((s.map fun c => tx [c]).map fun x : Str => x.length) = s.map fun _ => 1 := by
          rw [List.map_map]
          exact List.map_congr_left fun c _ => tx_len [c]
        have e2 : ∀ l : List Nat, (l.map fun _ => 1).sum = l.length := fun l => by
          induction l with
          | nil => rfl
          | cons x l ih => rw [List.map_cons, List.sum_cons, ih, List.length_cons]; omega
        rw [e1, e2, show (("" : Str).length) = 0 from by decide +kernel, Nat.mul_zero]
        omega
      · rw [show Txt.join ("" : Str) (s.map fun c => tx [c]) = Str.join "" (s.map fun c => tx [c]) from TL.join_eq _ _, join1]
        refine q _ s (s4.new ny) pw (by omega) fun c => ?_
        rw [eq_ks c, hk4 c]
        unfold LetterOf
        constructor
        · rintro (z | ⟨n, body, h1, h2, h3⟩)
          · exact .inl z
          · obtain ⟨a, h4, h5⟩ := (hns n).mp h2
            exact .inr ⟨a, h4, n, body, h5, h1, h3⟩
        · rintro (z | ⟨a, h4, n, body, h5, h1, h3⟩)
          · exact .inl z
          · exact .inr ⟨n, body, h1, (hns n).mpr ⟨a, h4, h5⟩, h3⟩
end
end Wk

/-! W10: what was told; of_body. -/
namespace Wk
open PySem L2 KX K55
/-- all but one address is as it was -/
def Oth (d : Addr) (H H' : Hp) : Prop := ∀ b o, b ≠ d → H b = some o → H' b = some o
theorem Oth.refl (d : Addr) (H : Hp) : Oth d H H := fun _ _ _ e => e
theorem Oth.trans {d : Addr} {H H1 H2 : Hp} (x : Oth d H H1) (y : Oth d H1 H2) : Oth d H H2 := fun b o n e => y b o n (x b o n e)
theorem _root_.L2.Same.oth {H H' : Hp} (s : Same H H') (d : Addr) : Oth d H H' := fun b o _ e => s b o e
theorem Oth.put {d : Addr} {H H1 : Hp} {x : Addr} {o : HO} (s : Oth d H H1) (n : H x = none) : Oth d H (upd H1 x o) := fun b u nb e => by rw [upd_ne (ne_of_none e n)]; exact s b u nb e
theorem Oth.new {d : Addr} {H H1 : Hp} {x : Addr} {o : HO} (s : Oth d H H1) (n : H1 x = none) : Oth d H (upd H1 x o) := s.trans ((same_new n).oth d)
theorem Oth.own {d : Addr} {H H1 : Hp} {o : HO} (s : Oth d H H1) : Oth d H (upd H1 d o) := fun b u nb e => by rw [upd_ne nb]; exact s b u nb e
theorem Oth.free {d : Addr} {H H1 : Hp} {x : Addr} (s : Oth d H H1) (hd : x ≠ d) (n : H1 x = none) : H x = none := by
  cases e : H x with
  | none => rfl
  | some o => rw [s x o hd e] at n; cases n
/-- what is to be shown of a name's products -/
structure GoodN (R : Rules) (n : Nat) (S : List Product) : Prop where
  cn : S.length ≤ cnB (rank R n) (kc R n)
  wf : ∀ p ∈ S, p.length ≤ plB (rank R n) ∧ WFP p
  words : ∀ v, Words S v ↔ Dn R [.nm n] v
def kvT (x : Nat × Addr) : Key × V := (Sum.inl (x.1 : Nat), V.ref x.2)
/-- the dict at d holds names and their products -/
def TDict (H : Hp) (d : Addr) (R : Rules) : Prop := ∃ ms : List (Nat × Addr), H d = some (.dK (ms.map kvT)) ∧ (ms.map (·.1)).Nodup ∧ ∀ x ∈ ms, x.1 < 3 ∧ ∃ S, ExAt H x.2 S ∧ GoodN R x.1 S
theorem TDict.up {H H' : Hp} {d : Addr} {R : Rules} (x : TDict H d R) (t : Tups H H') (e : ∀ o, H d = some o → H' d = some o) : TDict H' d R := by
  obtain ⟨ms, h1, h2, h3⟩ := x
  refine ⟨ms, e _ h1, h2, fun y hy => ?_⟩
  obtain ⟨l, S, h4, h5⟩ := h3 y hy
  exact ⟨l, S, h4.up t, h5⟩
theorem TDict.is {H : Hp} {d : Addr} {R : Rules} (x : TDict H d R) : ∃ kvs, H d = some (.dK kvs) := by
  obtain ⟨ms, h, _⟩ := x
  exact ⟨_, h⟩
theorem Oth.tups {d : Addr} {H H' : Hp} {R : Rules} (s : Oth d H H') (t : TDict H d R) : Tups H H' := fun b xs e => by
  obtain ⟨kvs, hd⟩ := t.is
  exact s b _ (ne_of e hd (by intro z; cases z)) e
theorem DObj.oth {C : Addr} {H H' : Hp} {p rl dl : Addr} {R : Rules} (s : Oth dl H H') (t : TDict H dl R) (x : DObj C H p rl dl R) : DObj C H' p rl dl R := by
  obtain ⟨dx, e, as, e2, r⟩ := x
  obtain ⟨kvs, hd⟩ := t.is
  exact ⟨dx, s _ _ (ne_of e hd (by intro z; cases z)) e, as, s _ _ (ne_of e2 hd (by intro z; cases z)) e2, r.imp fun _ _ y => y.up (s.tups t)⟩
theorem ExL.up {H H' : Hp} {e : Addr} {S : List Product} (x : ExL H e S) (t : Tups H H') (k : ∀ o, H e = some o → H' e = some o) : ExL H' e S := by
  obtain ⟨bs, h, r⟩ := x
  exact ⟨bs, k _ h, r.imp fun _ _ y => y.up t⟩
theorem ExL.is {H : Hp} {e : Addr} {S : List Product} (x : ExL H e S) : ∃ xs, H e = some (.lst xs) ∧ xs.length = S.length := by
  obtain ⟨bs, h, r⟩ := x
  exact ⟨_, h, by rw [List.length_map]; exact r.len⟩
/-! ### crossing -/
def cross (S1 S2 : List Product) : List Product := S1.flatMap fun p => S2.map fun q => p ++ q
theorem cross_words (S1 S2 : List Product) (v : List Nat) : Words (cross S1 S2) v ↔ ∃ u w, v = u ++ w ∧ Words S1 u ∧ Words S2 w := by
  unfold Words cross
  constructor
  · rintro ⟨r, hr, hv⟩
    obtain ⟨p, hp, hr⟩ := List.mem_flatMap.mp hr
    obtain ⟨q, hq, rfl⟩ := List.mem_map.mp hr
    obtain ⟨u, w, e, h1, h2⟩ := inP_append.mp hv
    exact ⟨u, w, e, ⟨p, hp, h1⟩, q, hq, h2⟩
  · rintro ⟨u, w, rfl, ⟨p, hp, h1⟩, q, hq, h2⟩
    exact ⟨p ++ q, List.mem_flatMap.mpr ⟨p, hp, List.mem_map.mpr ⟨q, hq, rfl⟩⟩, inP_append.mpr ⟨u, w, rfl, h1, h2⟩⟩
theorem cross_len (S1 S2 : List Product) : (cross S1 S2).length = S1.length * S2.length := by
  unfold cross
  induction S1 with
  | nil => simp
  | cons p S1 ih => rw [List.flatMap_cons, List.length_append, ih, List.length_map, List.length_cons, Nat.succ_mul, Nat.add_comm]
theorem cross_mem {S1 S2 : List Product} {r : Product} (h : r ∈ cross S1 S2) : ∃ p ∈ S1, ∃ q ∈ S2, r = p ++ q := by
  unfold cross at h
  obtain ⟨p, hp, hr⟩ := List.mem_flatMap.mp h
  obtain ⟨q, hq, rfl⟩ := List.mem_map.mp hr
  exact ⟨p, hp, q, hq, rfl⟩
theorem WFP.append {p q : Product} (h : WFP p) (k : WFP q) : WFP (p ++ q) := fun a ha => (List.mem_append.mp ha).elim (h a) (k a)
/-! ### a comprehension over a list or a tuple -/
theorem _root_.L2.Same.seqT {K : PySem.W.Frag} {H H' : Hp} {a : Addr} {xs : List V} (e : Same H H') (h : SqT K H a xs) : SqT K H' a xs := by
  rcases h with (h | ⟨o, h⟩) | h
  · exact .inl (.inl (e _ _ h))
  · exact .inl (.inr ⟨o, e _ _ h⟩)
  · exact .inr h
theorem lc_anyseq {K : PySem.W.Frag} {tl : TE} {g : TG} {tt : TT} {te : TE} {vs : List Nat} {σ : L2.St} {H : Hp} {Q : VK} {s : Addr} {xs : List V} (hv : ∀ R : VK, R (.ref s) H → tl σ H R) (isq : SqL K H s xs ∨ SqT K H s xs)
    (body : ∀ D, H D = none → ∃ Pv : Nat → Hp → Prop, Pv 0 (upd H D (.lst [])) ∧ (∀ i H', Pv i H' → Same H H') ∧
      (∀ i x H', xs[i]? = some x → Pv i H' → g x (wipe σ vs) H' fun σ2 H2 => wipe σ2 vs = wipe σ vs ∧ tt σ2 H2 fun b H3 =>
        if b = true then te σ2 H3 fun y H4 => ∃ acc, H4 D = some (.lst acc) ∧ acc.length < sizeLine ∧ Pv (i + 1) (upd H4 D (.lst (acc ++ [y]))) else Pv (i + 1) H3) ∧ ∀ H', Pv xs.length H' → Q (.ref D) H') :
    tLc (fun st H R => iList K tl st H R ∨ iTup K tl st H R) g tt te vs σ H Q := by
  rcases isq with h | h
  · refine .inl (hv _ ⟨s, rfl, ⟨xs, h⟩, fun D hD => ?_⟩)
    obtain ⟨Pv, h0, hl, hs, hd⟩ := body D hD
    exact lc_list Pv h0 (fun i H' _ z => (hl i H' z).seq h) hs hd
  · refine .inr (hv _ ⟨s, rfl, ⟨xs, h⟩, fun D hD => ?_⟩)
    obtain ⟨Pv, h0, hl, hs, hd⟩ := body D hD
    exact lc_tup Pv h0 (fun i H' _ z => (hl i H' z).seqT h) hs hd
theorem cat_read {K : PySem.W.Frag} {H : Hp} {a b : Addr} {p q : Product} {Q : VK} (ha : PrAt H a p) (hb : PrAt H b q) (hz : p.length + q.length ≤ 1000) (k : ∀ H' t, Same H H' → PrAt H' t (p ++ q) → Q (.ref t) H') : rCatA K (.ref a) (.ref b) H Q := by
  obtain ⟨cs, e1, r1⟩ := id ha
  obtain ⟨ds, e2, r2⟩ := id hb
  refine ⟨a, b, _, _, rfl, rfl, SqT.of e1, SqT.of e2, ?_, fun z => ?_, fun _ z => ?_, fun _ _ t ht => ?_⟩
  · rw [List.length_map, List.length_map, r1.len, r2.len]
    exact Nat.le_of_lt (small1000 hz)
  · have z' : cs = [] := List.map_eq_nil_iff.mp z
    subst z'
    have ep : p = [] := List.length_eq_zero_iff.mp r1.len.symm
    subst ep
    exact k H b (Same.refl H) hb
  · have z' : ds = [] := List.map_eq_nil_iff.mp z
    subst z'
    have ep : q = [] := List.length_eq_zero_iff.mp r2.len.symm
    subst ep
    refine k H a (Same.refl H) ?_
    rw [List.append_nil]
    exact ha
  · refine k _ t (same_new ht) ⟨cs ++ ds, by rw [upd_same, List.map_append], ?_⟩
    exact KX.All2.append (r1.imp fun _ _ y => y.up (tups_new ht)) (r2.imp fun _ _ y => y.up (tups_new ht))
def AnyEx (H : Hp) (s : Addr) (S : List Product) : Prop := ExAt H s S ∨ ExL H s S
theorem AnyEx.same {H H' : Hp} {s : Addr} {S : List Product} (x : AnyEx H s S) (g : Same H H') : AnyEx H' s S := x.imp (fun y => y.up g.tups) fun y => y.up g.tups fun o e => g _ _ e
theorem AnyEx.sq {K : PySem.W.Frag} {H : Hp} {s : Addr} {S : List Product} (x : AnyEx H s S) : ∃ bs : List Addr, (SqL K H s (bs.map V.ref) ∨ SqT K H s (bs.map V.ref)) ∧ All2 (PrAt H) bs S := by
  rcases x with ⟨bs, e, r⟩ | ⟨bs, e, r⟩
  · exact ⟨bs, .inr (SqT.of e), r⟩
  · exact ⟨bs, .inl (SqL.of e), r⟩
end Wk

/-! W11: of_body. -/
namespace Wk
open PySem L2 KX K55
def thW (a b : Nat) : Thing → Nat
  | .nm _ => a
  | .lt _ => b
theorem words_mb (R : Rules) (c : Nat) (v : List Nat) : Words [[Piece.mb c]] v ↔ Dn R [.lt c] v := by
  rw [dn_lt, ← inP_mb]
  unfold Words
  simp
theorem words_nil (R : Rules) (v : List Nat) : Words [[]] v ↔ Dn R [] v := by
  rw [dn_nil, ← inP_nil]
  unfold Words
  simp
theorem namesOf_snoc (b : Body) (t : Thing) : K55.namesOf (b ++ [t]) = K55.namesOf b ++ (match t with | .nm n => [n] | .lt _ => []) := by
  unfold K55.namesOf
  rw [List.filterMap_append]
  cases t <;> rfl
section
variable {P : Program} {w : World} {K : PySem.W.Frag} {mg : Str → Option Value} {base : Heap} {C : Addr}
def spExpr (C : Addr) (r : Nat) : Sp := fun vs H Q _ => ∃ (p rl dl : Addr) (R : Rules) (n : Nat), vs = [.ref p, .int (n : Nat)] ∧ DObj C H p rl dl R ∧ TDict H dl R ∧ WFG R ∧ AllProd R ∧ n < 3 ∧ rank R n ≤ r ∧
  ∀ H' e S, Oth dl H H' → TDict H' dl R → ExAt H' e S → GoodN R n S → Q (.ref e) H'
def spOfBody (C : Addr) (r : Nat) : Sp := fun vs H Q _ => ∃ (p rl dl b : Addr) (R : Rules) (body : Body) (r0 kq : Nat), vs = [.ref p, .ref b] ∧ DObj C H p rl dl R ∧ TDict H dl R ∧ WFG R ∧ AllProd R ∧ BodyAt H b body ∧ body.length ≤ 3 ∧ (K55.namesOf body).length ≤ 2 ∧
  (∀ m, Thing.nm m ∈ body → m < 3 ∧ rank R m ≤ r0 ∧ kc R m ≤ kq) ∧ r0 ≤ r ∧ r0 ≤ 3 ∧ kq ≤ 5 ∧
  ∀ H' y S, Oth dl H H' → TDict H' dl R → H y = none → y ≠ dl → ExL H' y S → S.length ≤ cnB r0 kq * cnB r0 kq → (∀ p ∈ S, p.length ≤ 2 * plB r0 + 3 ∧ WFP p) → (∀ v, Words S v ↔ Dn R body v) → Q (.ref y) H'
def sTurn (K : PySem.W.Frag) : TS := tSeq (tAsg (tLst tNil) (gName 5)) (tSeq (tFor (iList K (tVar 2)) (gName 6) (tDrop (tBM K "list" rExtend (tVar 5) (tCons (tLc (fun st H R => iList K (tVar 4) st H R ∨ iTup K (tVar 4) st H R) (gName 7) tYes (tOp (rCatA K) (tVar 6) (tVar 7)) [7]) tNil)))) (tAsg (tVar 5) (gName 2)))
/-- further = []; for one in found: further.extend([one + other for other in some]); found = further -/
theorem turn_read {D : Ends} {H H4 : Hp} {dl p ba fo sa : Addr} {R : Rules} {S So : List Product} {kvs : List (Key × V)} {x3 x5 x6 x7 : Option V} (s4 : Oth dl H H4) (hT4 : TDict H4 dl R) (hS : ExL H4 fo S) (hA : AnyEx H4 sa So) (hdl : H dl = some (.dK kvs)) (fo0 : H fo = none)
    (lS : ∀ p ∈ S, p.length ≤ 100) (lo : ∀ p ∈ So, p.length ≤ 100) (lx : S.length * So.length ≤ 10000000)
    (k : ∀ (H' : Hp) (fu : Addr) (x6 x7 : Option V), Oth dl H H' → TDict H' dl R → H fu = none → ExL H' fu (cross S So) → D.nx [some (.ref p), some (.ref ba), some (.ref fu), x3, some (.ref sa), some (.ref fu), x6, x7] H') :
    sTurn K D [some (.ref p), some (.ref ba), some (.ref fo), x3, some (.ref sa), x5, x6, x7] H4 := by
  refine ⟨Nat.zero_le _, fun fu nfu => ?_⟩
  obtain ⟨kv4, hdl4⟩ := hT4.is
  have fud : fu ≠ dl := (ne_of_none hdl4 nfu).symm
  have fu0 : H fu = none := s4.free fud nfu
  obtain ⟨bs, hfo, hbs⟩ := id hS
  have fofu : fo ≠ fu := ne_of_none hfo nfu
  have s45 : Same H4 (upd H4 fu (.lst [])) := same_new nfu
  obtain ⟨ds, hds, has⟩ := hA.sq (K := K)
  refine ⟨_, rfl, fo, rfl, ⟨_, SqL.of (s45 _ _ hfo)⟩, for_list (K := K) (a := fo) (xs := bs.map V.ref) (fun i σ H' => ∃ (x6 x7 : Option V), σ = [some (.ref p), some (.ref ba), some (.ref fo), x3, some (.ref sa), some (.ref fu), x6, x7] ∧ Same H4 H' ∧
      ExL H' fu (cross (S.take i) So)) ⟨x6, x7, rfl, s45, [], upd_same, trivial⟩ (fun i σ H' _ ⟨_, _, _, sm, _⟩ => SqL.of (sm _ _ hfo)) ?_ ?_⟩
  · rintro i v σ H5 hi ⟨y6, y7, rfl, s5, hX⟩
    obtain ⟨a, ha, rfl⟩ : ∃ c, bs[i]? = some c ∧ V.ref c = v := by
      rw [List.getElem?_map] at hi
      exact Option.map_eq_some_iff.mp hi
    obtain ⟨pr, hpr, pp⟩ := hbs.getL ha
    have mp : pr ∈ S := List.mem_of_getElem? hpr
    have iS : i < S.length := (List.getElem?_eq_some_iff.mp hpr).1
    have ep : S.take (i + 1) = S.take i ++ [pr] := by rw [List.take_add_one, hpr]; rfl
    obtain ⟨xs, hxs, lxs⟩ := hX.is
    obtain ⟨gs, hgs, hgx⟩ := id hX
    refine ⟨_, rfl, .inl ⟨rfl, _, SqL.of hxs⟩, ?_⟩
    refine lc_anyseq (s := sa) (xs := ds.map V.ref) (fun R hR => ⟨_, rfl, hR⟩) (hds.imp s5.seq s5.seqT) fun D nD => ?_
    have Dfu : fu ≠ D := ne_of_none hgs nD
    refine ⟨fun j H' => Same H5 H' ∧ ExL H' D ((So.take j).map fun q => pr ++ q), ⟨same_new nD, [], upd_same, trivial⟩, fun j H' z => z.1, ?_, ?_⟩
    · rintro j v H6 hj ⟨s6, hY⟩
      obtain ⟨b, hb, rfl⟩ : ∃ c, ds[j]? = some c ∧ V.ref c = v := by
        rw [List.getElem?_map] at hj
        exact Option.map_eq_some_iff.mp hj
      obtain ⟨qr, hqr, pq⟩ := has.getL hb
      have mq : qr ∈ So := List.mem_of_getElem? hqr
      have eq : So.take (j + 1) = So.take j ++ [qr] := by rw [List.take_add_one, hqr]; rfl
      refine ⟨rfl, _, rfl, _, rfl, ?_⟩
      refine cat_read ((pp.up s5.tups).up s6.tups) ((pq.up s5.tups).up s6.tups) (by have := lS pr mp; have := lo qr mq; omega) fun H7 t s7 ht => ?_
      obtain ⟨es, hes, hey⟩ := hY
      have hes7 := s7 _ _ hes
      have tp := tups_put (o := .lst (es.map V.ref ++ [.ref t])) hes7
      refine ⟨_, hes7, ?_, (s6.trans s7).put nD, es ++ [t], by rw [upd_same, List.map_append]; rfl, ?_⟩
      · rw [List.length_map, hey.len, List.length_map]
        have l1 : (So.take j).length ≤ So.length := List.length_take_le' _ _
        have l2 : So.length ≤ S.length * So.length := Nat.le_mul_of_pos_left _ (by omega)
        rw [sizeLine_eq]
        omega
      · rw [eq, List.map_append]
        exact KX.All2.append (hey.imp fun _ _ z => (z.up s7.tups).up tp) ⟨ht.up tp, trivial⟩
    · rintro H6 ⟨s6, hY⟩
      have el : So.take (ds.map V.ref).length = So := by rw [List.length_map, has.len, List.take_length]
      rw [el] at hY
      obtain ⟨es, hes, hey⟩ := hY
      have hgs6 := s6 _ _ hgs
      have tp := tups_put (o := .lst (gs.map V.ref ++ es.map V.ref)) hgs6
      have ec : cross (S.take (i + 1)) So = cross (S.take i) So ++ So.map fun q => pr ++ q := by
        rw [ep]
        unfold cross
        rw [List.flatMap_append]
        simp
      refine ⟨fu, D, _, _, rfl, rfl, hgs6, hes, ?_, _, _, rfl, (s5.trans s6).put nfu, gs ++ es, by rw [upd_same, List.map_append], ?_⟩
      · rw [List.length_map, List.length_map, hgx.len, hey.len, List.length_map, cross_len, List.length_take, sizeLine_eq]
        have z : min i S.length * So.length + So.length ≤ S.length * So.length := by
          rw [← Nat.succ_mul]
          exact Nat.mul_le_mul_right _ (by omega)
        omega
      · rw [ec]
        exact KX.All2.append (hgx.imp fun _ _ z => (z.up s6.tups).up tp) (hey.imp fun _ _ z => z.up tp)
  · rintro σ H5 ⟨y6, y7, rfl, s5, hX⟩
    have el : S.take (bs.map V.ref).length = S := by rw [List.length_map, hbs.len, List.take_length]
    rw [el] at hX
    refine ⟨_, rfl, k H5 fu y6 y7 (s4.trans (s5.oth dl)) (hT4.up s5.tups fun u e => s5 _ _ e) fu0 hX⟩
abbrev nOfBody : List Str := ["self", "body", "found", "thing", "some", "further", "one", "other"]
theorem scOfBody : FnScope nOfBody ["self", "body"] (defScope sOfBody) := ⟨rfl, rfl, rfl, by decide +kernel, rfl, by decide +kernel, by decide +kernel⟩
theorem d_ofBody (r L : Nat) (S0 : SrcM K C "of_body" "Downs.of_body" sOfBody ["self", "body"]) (T : DTxt K mg C) (B : Blt mg) (D1 : DfnM P w K mg base C "expression" L ["self", "name"] (spExpr C r)) :
    DfnM P w K mg base C "of_body" (L + 1) ["self", "body"] (spOfBody C r) := by
  obtain ⟨f, fd, gf, F, bd⟩ := S0.ex
  obtain ⟨f1, fd1, m1, G1, b1⟩ := D1.ex
  refine ⟨f, fd, gf, F.ok scOfBody (fun vs H Q E h => ?_) (fun cdv A outer s H vs Q E hr h => ?_), bd⟩
  · obtain ⟨p, rl, dl, b, R, body, r0, kq, rfl, _⟩ := h
    rfl
  obtain ⟨p, rl, dl, ba, R, body, r0, kq, rfl, hD, hT, wf, ap, hb, lb, nb2, hnm, r0r, r3, k5, q⟩ := h
  refine ⟨_, pss_cons (ps_set (i := 2) scOfBody.nd rfl (.inl rfl) (pe_lst (pa_cons (pe_tup pa_nil) pa_nil)))
    (pss_cons (ps_for PassesOwn.never rfl (pi_tup (pv 1)) (pg_name (i := 3) scOfBody.nd rfl (.inl rfl))
      (pss_cons (ps_set (i := 4) scOfBody.nd rfl (.inl rfl) (pe_lst (pa_cons (pe_tup (pa_cons (pe_tup (pa_cons pe_str (pa_cons (pv 3) pa_nil))) pa_nil)) pa_nil)))
      (pss_cons (ps_if (pt_not (pt_val (pe_isS (by rfl) (by rfl) B.isi B.str (pv 3)))) (pss_one (ps_set (i := 4) scOfBody.nd rfl (.inl rfl) (pe_meth (pv 0) T.cl m1 G1 hr b1 .nil pass0 (pa_cons (pv 3) pa_nil)))) pss_nil)
      (pss_cons (ps_set (i := 5) scOfBody.nd rfl (.inl rfl) (pe_lst pa_nil))
      (pss_cons (ps_for PassesOwn.never rfl (pi_list (pv 2)) (pg_name (i := 6) scOfBody.nd rfl (.inr rfl))
        (pss_one (ps_expr (pe_bm PySem.F.plainAttrs_list PySem.F.slot_list_extend PySem.F.type_list_extend mt_extend (pv 5)
          (pa_cons (pe_lc (own := [("other", 7)]) (g := gName 7) (tt := tYes) rfl scOfBody.nd (pi_seq (pv 4)) (blkOk_by (N := nOfBody) (sc := defScope sOfBody) (by decide +kernel)) (fun _ _ _ _ _ => pg_name (i := 7) scOfBody.nd rfl (Or.inl rfl)) (fun _ _ _ _ _ => pts_nil)
            (fun _ _ _ _ _ => pe_op (r := rCatA K) op_catA (pv 6) (pv 7))) pa_nil)))))
      (pss_one (ps_set (i := 2) scOfBody.nd rfl (.inl rfl) (pv 5))))))))
    (pss_one (ps_ret (pv 2)))), ?_⟩
  have hT0 := hT
  obtain ⟨kvs0, hdl⟩ := hT.is
  have nbd : ba ≠ dl := ne_of hb hdl (by intro z; cases z)
  have c1 : 1 ≤ cnB r0 kq := cnB_pos r3 k5
  have p35 : plB r0 ≤ 35 := plB_top r3
  have c81 : cnB r0 kq ≤ 81 := cnB_top r3 k5
  refine ⟨Nat.zero_le _, fun t0 nt0 => ⟨(by show 1 ≤ sizeLine; decide), fun o no => ?_⟩⟩
  have s1 : Oth dl H (upd (upd H t0 (.tup [])) o (.lst [.ref t0])) := ((Oth.refl dl H).new nt0).new no
  have o0 : H o = none := (same_new nt0).free no
  have od : o ≠ dl := (ne_of_none hdl o0).symm
  have t0o : t0 ≠ o := ne_of_none upd_same no
  have tp1 : Same H (upd (upd H t0 (.tup [])) o (.lst [.ref t0])) := (same_new nt0).new no
  refine ⟨_, rfl, ba, rfl, ⟨_, SqT.of (tp1 _ _ hb)⟩, for_tup (K := K) (a := ba) (xs := body.map thV) (fun i σ H' => ∃ (fo : Addr) (S : List Product) (x3 x4 x5 x6 x7 : Option V), σ = [some (.ref p), some (.ref ba), some (.ref fo), x3, x4, x5, x6, x7] ∧ Oth dl H H' ∧ TDict H' dl R ∧
      H fo = none ∧ ExL H' fo S ∧ S.length ≤ cnB r0 kq ^ (K55.namesOf (body.take i)).length ∧ (∀ p ∈ S, p.length ≤ (K55.namesOf (body.take i)).length * plB r0 + i ∧ WFP p) ∧ (∀ v, Words S v ↔ Dn R (body.take i) v))
    ⟨o, [[]], none, none, none, none, none, rfl, s1, hT.up tp1.tups (fun u e => tp1 _ _ e), o0, ⟨[t0], upd_same, ⟨[], by rw [upd_ne t0o, upd_same]; rfl, trivial⟩, trivial⟩, Nat.le_refl _, fun p hp => by
      rw [List.mem_singleton.mp hp]
      exact ⟨Nat.zero_le _, fun _ z => nomatch z⟩, words_nil R⟩
    (fun i σ H' _ ⟨_, _, _, _, _, _, _, _, sm, _⟩ => SqT.of (sm _ _ nbd hb)) ?_ ?_⟩
  · rintro i v σ H2 hi ⟨fo, S, x3, x4, x5, x6, x7, rfl, s2, hT2, fo0, hS, lS, wS, eS⟩
    obtain ⟨t, ht, rfl⟩ : ∃ t, body[i]? = some t ∧ thV t = v := by
      rw [List.getElem?_map] at hi
      exact Option.map_eq_some_iff.mp hi
    have mt : t ∈ body := List.mem_of_getElem? ht
    have eb : body.take (i + 1) = body.take i ++ [t] := by rw [List.take_add_one, ht]; rfl
    have ib : i < body.length := (List.getElem?_eq_some_iff.mp ht).1
    have fod : fo ≠ dl := (ne_of_none hdl fo0).symm
    obtain ⟨kv2, hdl2⟩ := hT2.is
    have n2 : (K55.namesOf (body.take i)).length ≤ 2 := by
      have z : (K55.namesOf (body.take i)).length ≤ (K55.namesOf body).length := by
        have e : body = body.take i ++ body.drop i := (List.take_append_drop i body).symm
        have e2 : K55.namesOf body = K55.namesOf (body.take i) ++ K55.namesOf (body.drop i) := by
          conv => lhs; rw [e]
          unfold K55.namesOf
          rw [List.filterMap_append]
        rw [e2, List.length_append]
        omega
      omega
    have pow2 : cnB r0 kq ^ (K55.namesOf (body.take i)).length ≤ 81 * 81 := by
      refine Nat.le_trans (Nat.pow_le_pow_right c1 n2) ?_
      rw [Nat.pow_two]
      exact Nat.mul_le_mul c81 c81
    have hi1 : (K55.namesOf (body.take (i + 1))).length = (K55.namesOf (body.take i)).length + thW 1 0 t := by
      rw [eb, namesOf_snoc, List.length_append]
      cases t <;> rfl
    have lens : ∀ p ∈ S, p.length ≤ 100 := fun p hp => by
      have z := (wS p hp).1
      have z2 := Nat.mul_le_mul_right (plB r0) n2
      omega
    -- what a turn leaves
    have fin : ∀ (H' : Hp) (fu : Addr) (So : List Product) (x3 x4 x5 x6 x7 : Option V), Oth dl H H' → TDict H' dl R → H fu = none → ExL H' fu (cross S So) → So.length ≤ thW (cnB r0 kq) 1 t →
        (∀ p ∈ So, p.length ≤ thW (plB r0) 1 t ∧ WFP p) → (∀ v, Words So v ↔ Dn R [t] v) →
        ∃ (fo : Addr) (S : List Product) (y3 y4 y5 y6 y7 : Option V), [some (V.ref p), some (.ref ba), some (.ref fu), x3, x4, x5, x6, x7] = [some (.ref p), some (.ref ba), some (.ref fo), y3, y4, y5, y6, y7] ∧ Oth dl H H' ∧ TDict H' dl R ∧
          H fo = none ∧ ExL H' fo S ∧ S.length ≤ cnB r0 kq ^ (K55.namesOf (body.take (i + 1))).length ∧ (∀ p ∈ S, p.length ≤ (K55.namesOf (body.take (i + 1))).length * plB r0 + (i + 1) ∧ WFP p) ∧ (∀ v, Words S v ↔ Dn R (body.take (i + 1)) v) := by
      intro H' fu So x3 x4 x5 x6 x7 s4 hT4 fu0 hX lo wo eo
      refine ⟨fu, cross S So, _, _, _, _, _, rfl, s4, hT4, fu0, hX, ?_, fun p hp => ?_, fun v => ?_⟩
      · rw [cross_len, hi1]
        cases t with
        | lt c => exact Nat.le_trans (Nat.mul_le_mul lS lo) (by show _ * 1 ≤ cnB r0 kq ^ (_ + 0); rw [Nat.mul_one]; exact Nat.le_refl _)
        | nm n => exact Nat.le_trans (Nat.mul_le_mul lS lo) (by show _ * cnB r0 kq ≤ cnB r0 kq ^ (_ + 1); rw [Nat.pow_succ]; exact Nat.le_refl _)
      · obtain ⟨p1, h1, p2, h2, rfl⟩ := cross_mem hp
        have z1 := wS p1 h1
        have z2 := wo p2 h2
        refine ⟨?_, z1.2.append z2.2⟩
        rw [List.length_append, hi1]
        cases t with
        | lt c => have y1 := z1.1; have y2 : p2.length ≤ 1 := z2.1; show _ ≤ (_ + 0) * _ + _; rw [Nat.add_zero]; omega
        | nm n => have y1 := z1.1; have y2 : p2.length ≤ plB r0 := z2.1; show _ ≤ (_ + 1) * _ + _; rw [Nat.add_mul]; omega
      · rw [cross_words, eb, dn_append]
        constructor
        · rintro ⟨u, w', e, h1, h2⟩; exact ⟨u, w', e, (eS u).mp h1, (eo w').mp h2⟩
        · rintro ⟨u, w', e, h1, h2⟩; exact ⟨u, w', e, (eS u).mpr h1, (eo w').mpr h2⟩
    -- some = [(("maybe", thing),)]
    refine ⟨_, rfl, (by show 2 ≤ sizeLine; decide), fun t1 n1 => ⟨(by show 1 ≤ sizeLine; decide), fun t2 n2' => ⟨(by show 1 ≤ sizeLine; decide), fun sm nsm => ?_⟩⟩⟩
    have e1 : (upd (upd (upd H2 t1 (.tup [.str "maybe", thV t])) t2 (.tup [.ref t1])) sm (.lst [.ref t2])) t1 = some (.tup [.str "maybe", thV t]) := by
      rw [upd_ne (ne_of_none (by rw [upd_ne (ne_of_none upd_same n2'), upd_same]) nsm), upd_ne (ne_of_none upd_same n2'), upd_same]
    have e2 : (upd (upd (upd H2 t1 (.tup [.str "maybe", thV t])) t2 (.tup [.ref t1])) sm (.lst [.ref t2])) t2 = some (.tup [.ref t1]) := by
      rw [upd_ne (ne_of_none upd_same nsm), upd_same]
    have e3 : (upd (upd (upd H2 t1 (.tup [.str "maybe", thV t])) t2 (.tup [.ref t1])) sm (.lst [.ref t2])) sm = some (.lst [.ref t2]) := upd_same
    have s23 : Same H2 (upd (upd (upd H2 t1 (.tup [.str "maybe", thV t])) t2 (.tup [.ref t1])) sm (.lst [.ref t2])) := ((same_new n1).new n2').new nsm
    generalize upd (upd (upd H2 t1 (.tup [.str "maybe", thV t])) t2 (.tup [.ref t1])) sm (.lst [.ref t2]) = H3 at e1 e2 e3 s23
    have s3 : Oth dl H H3 := s2.trans (s23.oth dl)
    have hT3 : TDict H3 dl R := hT2.up s23.tups fun u e => s23 _ _ e
    have hS3 : ExL H3 fo S := hS.up s23.tups fun u e => s23 _ _ e
    refine ⟨_, rfl, _, rfl, th_isS t, _, rfl, ?_⟩
    rw [th_S]
    cases t with
    | lt c =>
      refine iteF ?_
      refine turn_read (S := S) (So := [[.mb c]]) s3 hT3 hS3 (.inr ⟨[t2], e3, ⟨[t1], e2, e1, trivial⟩, trivial⟩) hdl fo0 lens (fun p hp => by rw [List.mem_singleton.mp hp]; show 1 ≤ 100; decide) (by rw [List.length_singleton]; omega) fun H' fu x6 x7 s4 hT4 fu0 hX => ?_
      refine fin H' fu [[.mb c]] _ _ _ _ _ s4 hT4 fu0 hX (Nat.le_refl _) (fun p hp => ?_) (words_mb R c)
      rw [List.mem_singleton.mp hp]
      refine ⟨Nat.le_refl _, fun a ha => ?_⟩
      rw [List.mem_singleton.mp ha]
      exact ⟨(by show 1 ≤ 63; decide), fun s e => nomatch e⟩
    | nm n =>
      obtain ⟨n3, rn, kn⟩ := hnm n mt
      have hD3 : DObj C H3 p rl dl R := hD.oth s3 hT0
      obtain ⟨dx, hp3, hrest⟩ := id hD3
      refine iteT ⟨_, rfl, p, dx, _, rfl, hp3, pf_no rl dl (by decide +kernel) (by decide +kernel), _, rfl, p, rl, dl, R, n, rfl, hD3, hT3, wf, ap, n3, Nat.le_trans rn r0r, fun H4 e So s4 hT4 hE hG => ?_⟩
      refine turn_read (S := S) (So := So) (s3.trans s4) hT4 (hS3.up (s4.tups hT3) fun u e => s4 _ _ fod e) (.inl hE) hdl fo0 lens (fun p hp => ?_) ?_ fun H' fu x6 x7 s5 hT5 fu0 hX => ?_
      · have := (hG.wf p hp).1
        have := plB_top (Nat.le_trans rn r3)
        omega
      · have z1 := hG.cn
        have z2 := cnB_top (Nat.le_trans rn r3) (Nat.le_trans kn k5)
        have z3 := Nat.mul_le_mul (Nat.le_trans lS pow2) (Nat.le_trans z1 z2)
        omega
      refine fin H' fu So _ _ _ _ _ s5 hT5 fu0 hX (Nat.le_trans hG.cn (cnB_mono rn r3 kn k5)) (fun p hp => ⟨Nat.le_trans (hG.wf p hp).1 (plB_mono rn), (hG.wf p hp).2⟩) hG.words
  · rintro σ H2 ⟨fo, S, x3, x4, x5, x6, x7, rfl, s2, hT2, fo0, hS, lS, wS, eS⟩
    rw [List.length_map, List.take_length] at lS wS eS
    refine ⟨_, rfl, q H2 fo S s2 hT2 fo0 (ne_of_none hdl fo0).symm hS (Nat.le_trans lS ?_) (fun p hp => ⟨Nat.le_trans (wS p hp).1 ?_, (wS p hp).2⟩) eS⟩
    · refine Nat.le_trans (Nat.pow_le_pow_right c1 nb2) ?_
      rw [Nat.pow_two]
      exact Nat.le_refl _
    · have := Nat.mul_le_mul_right (plB r0) nb2
      omega
end
end Wk

/-! W12: the plain part of of_knot; slices of tuples. -/
namespace Wk
open PySem L2 KX K55
theorem one_at {α : Type} {l : List α} {j : Nat} {t : α} (h : l[j]? = some t) : l = l.take j ++ t :: l.drop (j + 1) := by
  obtain ⟨lt, e⟩ := List.getElem?_eq_some_iff.mp h
  have z : l.drop j = t :: l.drop (j + 1) := by rw [List.drop_eq_getElem_cons lt, e]
  rw [← z, List.take_append_drop]
theorem two_at {α : Type} {l : List α} {i j : Nat} {t u : α} (hi : l[i]? = some t) (hj : l[j]? = some u) (lt : i < j) : ∃ p q s, l = p ++ t :: (q ++ u :: s) := by
  have e := one_at hi
  have hj2 : (l.drop (i + 1))[j - (i + 1)]? = some u := by
    rw [List.getElem?_drop, show i + 1 + (j - (i + 1)) = j by omega]
    exact hj
  have e2 := one_at hj2
  rw [e2] at e
  exact ⟨_, _, _, e⟩
/-- a name of the knot -/
def kAt (ks : List Nat) : Thing → Bool
  | .nm x => decide (x ∈ ks)
  | .lt _ => false
theorem inV_th (ks : List Nat) (t : Thing) : inV (thV t) (ks.map nmV) = kAt ks t := by
  cases t with
  | nm x => exact inV_nm x ks
  | lt c =>
    show inV (V.str (tx [c])) (ks.map nmV) = false
    unfold inV
    rw [List.any_map, List.any_eq_false]
    intro x _
    show ¬ (eqV (nmV x) (V.str (tx [c])) = true)
    show ¬ (false = true)
    decide
theorem th_flat (t : Thing) : flatV (thV t) = true := by cases t <;> rfl
/-- the places of the knot's names -/
structure Pos (ks : List Nat) (body : Body) (i : Nat) (js : List Nat) : Prop where
  all : ∀ j, j ∈ js ↔ j < i ∧ ∃ t, body[j]? = some t ∧ kAt ks t = true
  up : js.Pairwise (· < ·)
theorem Pos.zero (ks : List Nat) (body : Body) : Pos ks body 0 [] := ⟨fun j => ⟨fun z => (nomatch z), fun z => absurd z.1 (Nat.not_lt_zero j)⟩, List.Pairwise.nil⟩
theorem Pos.next {ks : List Nat} {body : Body} {i : Nat} {js : List Nat} (p : Pos ks body i js) {t : Thing} (h : body[i]? = some t) : Pos ks body (i + 1) (if kAt ks t = true then js ++ [i] else js) := by
  by_cases c : kAt ks t = true
  · rw [if_pos c]
    refine ⟨fun j => ?_, List.pairwise_append.mpr ⟨p.up, List.pairwise_singleton _ _, fun x hx y hy => ?_⟩⟩
    · rw [List.mem_append, p.all, List.mem_singleton]
      constructor
      · rintro (⟨h1, h2⟩ | e)
        · exact ⟨by omega, h2⟩
        · rw [e]; exact ⟨by omega, t, h, c⟩
      · rintro ⟨h1, h2⟩
        by_cases e : j = i
        · exact .inr e
        · exact .inl ⟨by omega, h2⟩
    · rw [List.mem_singleton.mp hy]
      exact ((p.all x).mp hx).1
  · rw [if_neg c]
    refine ⟨fun j => ?_, p.up⟩
    rw [p.all]
    constructor
    · rintro ⟨h1, h2⟩; exact ⟨by omega, h2⟩
    · rintro ⟨h1, t', h2, h3⟩
      refine ⟨?_, t', h2, h3⟩
      rcases Nat.lt_or_ge j i with z | z
      · exact z
      · have e : j = i := by omega
        subst e
        rw [h] at h2
        cases h2
        exact absurd h3 c
theorem kAt_nm {ks : List Nat} {t : Thing} (h : kAt ks t = true) : ∃ x, t = .nm x ∧ x ∈ ks := by
  cases t with
  | nm x => exact ⟨x, rfl, of_decide_eq_true h⟩
  | lt c => cases h
/-- the standing after some rules of the knot -/
structure LinS (R : Rules) (n : Nat) (rs : Rules) (ahead behind : Body) (exits : List Body) : Prop where
  each : ∀ m body, (m, body) ∈ rs →
    (body ∈ exits ∧ ∀ x, Thing.nm x ∈ body → ¬ InKnot R n x) ∨
    ∃ p x s, body = p ++ .nm x :: s ∧ InKnot R n x ∧ (∀ t ∈ p, t ∈ ahead) ∧ ∀ t ∈ s, t ∈ behind
  ahd : ∀ c, LetterOf R ahead c → ∃ m p x s, Knot0 R n m ∧ (m, p ++ .nm x :: s) ∈ R ∧ InKnot R n x ∧ LetterOf R p c
  bhd : ∀ c, LetterOf R behind c → ∃ m p x s, Knot0 R n m ∧ (m, p ++ .nm x :: s) ∈ R ∧ InKnot R n x ∧ LetterOf R s c
  ext : ∀ e ∈ exits, ∃ m, Knot0 R n m ∧ (m, e) ∈ R ∧ ∀ x, Thing.nm x ∈ e → ¬ InKnot R n x
  la : ahead.length ≤ 3 * rs.length
  lb : behind.length ≤ 3 * rs.length
  le : exits.length ≤ rs.length
theorem no_letter {R : Rules} {c : Nat} (h : LetterOf R [] c) : False := by
  rcases h with h | ⟨a, h, _⟩ <;> cases h
theorem LinS.nil (R : Rules) (n : Nat) : LinS R n [] [] [] [] := ⟨fun _ _ z => (nomatch z), fun _ z => (no_letter z).elim, fun _ z => (no_letter z).elim, fun _ z => (nomatch z), Nat.le_refl _, Nat.le_refl _, Nat.le_refl _⟩
theorem LinS.exit {R : Rules} {n : Nat} {rs : Rules} {ahead behind : Body} {exits : List Body} (L : LinS R n rs ahead behind exits) {m : Nat} {body : Body} (hm : Knot0 R n m) (hr : (m, body) ∈ R) (no : ∀ x, Thing.nm x ∈ body → ¬ InKnot R n x) :
    LinS R n (rs ++ [(m, body)]) ahead behind (exits ++ [body]) where
  each := fun m' body' h => by
    rcases List.mem_append.mp h with z | z
    · rcases L.each m' body' z with ⟨h1, h2⟩ | h1
      · exact .inl ⟨List.mem_append_left _ h1, h2⟩
      · exact .inr h1
    · cases List.mem_singleton.mp z
      exact .inl ⟨List.mem_append_right _ List.mem_cons_self, no⟩
  ahd := L.ahd
  bhd := L.bhd
  ext := fun e he => by
    rcases List.mem_append.mp he with z | z
    · exact L.ext e z
    · rw [List.mem_singleton.mp z]; exact ⟨m, hm, hr, no⟩
  la := by rw [List.length_append, List.length_singleton]; have := L.la; omega
  lb := by rw [List.length_append, List.length_singleton]; have := L.lb; omega
  le := by rw [List.length_append, List.length_append, List.length_singleton, List.length_singleton]; have := L.le; omega
theorem LinS.lin {R : Rules} {n : Nat} {rs : Rules} {ahead behind : Body} {exits : List Body} (L : LinS R n rs ahead behind exits) {m x : Nat} {p s : Body} (hm : Knot0 R n m) (hr : (m, p ++ .nm x :: s) ∈ R) (hx : InKnot R n x) (l3 : (p ++ Thing.nm x :: s).length ≤ 3) :
    LinS R n (rs ++ [(m, p ++ .nm x :: s)]) (ahead ++ p) (behind ++ s) exits where
  each := fun m' body' h => by
    rcases List.mem_append.mp h with z | z
    · rcases L.each m' body' z with h1 | ⟨p', x', s', h1, h2, h3, h4⟩
      · exact .inl h1
      · exact .inr ⟨p', x', s', h1, h2, fun t ht => List.mem_append_left _ (h3 t ht), fun t ht => List.mem_append_left _ (h4 t ht)⟩
    · cases List.mem_singleton.mp z
      exact .inr ⟨p, x, s, rfl, hx, fun t ht => List.mem_append_right _ ht, fun t ht => List.mem_append_right _ ht⟩
  ahd := fun c h => by
    rcases letterOf_append.mp h with h | h
    · exact L.ahd c h
    · exact ⟨m, p, x, s, hm, hr, hx, h⟩
  bhd := fun c h => by
    rcases letterOf_append.mp h with h | h
    · exact L.bhd c h
    · exact ⟨m, p, x, s, hm, hr, hx, h⟩
  ext := L.ext
  la := by rw [List.length_append, List.length_append, List.length_singleton]; rw [List.length_append, List.length_cons] at l3; have := L.la; omega
  lb := by rw [List.length_append, List.length_append, List.length_singleton]; rw [List.length_append, List.length_cons] at l3; have := L.lb; omega
  le := by rw [List.length_append, List.length_singleton]; have := L.le; omega
theorem LinS.whole {R : Rules} {n : Nat} {rs : Rules} {ahead behind : Body} {exits : List Body} (L : LinS R n rs ahead behind exits) (all : ∀ m body, Knot0 R n m → (m, body) ∈ R → (m, body) ∈ rs) : Linear R n ahead behind exits :=
  ⟨fun m body h1 h2 => L.each m body (all m body h1 h2), L.ahd, L.bhd, fun e he => let ⟨m, h1, h2, _⟩ := L.ext e he; ⟨m, h1, h2⟩⟩
theorem inP_any (s v : List Nat) : InP (anyP s) v ↔ ∀ c ∈ v, c ∈ s := by
  unfold anyP
  by_cases h : s = []
  · rw [if_pos h, inP_nil, h]
    constructor
    · intro e; rw [e]; exact fun _ z => nomatch z
    · intro z
      cases v with
      | nil => rfl
      | cons c v => exact (nomatch (z c List.mem_cons_self))
  · rw [if_neg h, inP_an]
theorem anyP_len (s : List Nat) : (anyP s).length ≤ 1 := by
  unfold anyP
  split
  · exact Nat.zero_le _
  · exact Nat.le_refl _
theorem anyP_wf {s : List Nat} (h : s.Pairwise (· < ·)) (l : s.length ≤ 63) : WFP (anyP s) := fun a ha => by
  unfold anyP at ha
  split at ha
  · cases ha
  · rename_i ne
    rw [List.mem_singleton.mp ha]
    exact ⟨l, fun t e => by cases e; exact ⟨h, ne⟩⟩
/-! ### slices of tuples -/
theorem slice_to {K : PySem.W.Frag} {H : Hp} {a : Addr} {xs : List V} {k : Nat} {Q : VK} (hk : k ≤ xs.length) (hx : H a = some (.tup xs)) (q : ∀ H' t, Same H H' → H' t = some (.tup (xs.take k)) → Q (.ref t) H') : rSlA K (.ref a) none (some (k : Int)) H Q := by
  have e1 : HT.sIx xs.length 0 none = 0 := HT.sIx_none _ _
  have e2 : HT.sIx xs.length xs.length (some (k : Int)) = k := by rw [HT.sIx_nat]; omega
  refine ⟨a, xs, rfl, SqT.of hx, fun h => ?_, fun _ t ht => q _ t (same_new ht) ?_⟩
  · rw [e2] at h
    refine q H a (Same.refl H) ?_
    rw [h.2, List.take_length]
    exact hx
  · rw [upd_same]
    unfold cutV
    rw [e1, e2]
    rfl
theorem slice_from {K : PySem.W.Frag} {H : Hp} {a : Addr} {xs : List V} {k : Nat} {i : Int} {Q : VK} (ei : i = ((k : Nat) : Int)) (hk : k ≤ xs.length) (hx : H a = some (.tup xs)) (q : ∀ H' t, Same H H' → H' t = some (.tup (xs.drop k)) → Q (.ref t) H') : rSlA K (.ref a) (some i) none H Q := by
  subst ei
  have e1 : HT.sIx xs.length 0 (some (k : Int)) = k := by rw [HT.sIx_nat]; omega
  have e2 : HT.sIx xs.length xs.length none = xs.length := HT.sIx_none _ _
  refine ⟨a, xs, rfl, SqT.of hx, fun h => ?_, fun _ t ht => q _ t (same_new ht) ?_⟩
  · rw [e1] at h
    refine q H a (Same.refl H) ?_
    rw [h.1]
    exact hx
  · rw [upd_same]
    unfold cutV
    rw [e1, e2, List.take_of_length_le (by rw [List.length_drop]; exact Nat.le_refl _)]
end Wk

/-! W13: of_knot. -/
namespace Wk
open PySem L2 KX K55
section
open Classical
noncomputable def knR (R : Rules) (n : Nat) : Rules := R.filter fun r => decide (Knot0 R n r.1)
theorem knR_len (R : Rules) (n : Nat) : (knR R n).length = kn R n := rfl
theorem mem_knR {R : Rules} {n m : Nat} {body : Body} : (m, body) ∈ knR R n ↔ (m, body) ∈ R ∧ Knot0 R n m := by
  unfold knR
  rw [List.mem_filter, decide_eq_true_eq]
noncomputable def knRt (R : Rules) (n i : Nat) : Rules := (R.take i).filter fun r => decide (Knot0 R n r.1)
theorem knRt_all (R : Rules) (n : Nat) : knRt R n R.length = knR R n := by
  unfold knRt knR
  rw [List.take_length]
theorem knRt_next {R : Rules} {n i : Nat} {r : Nat × Body} (h : R[i]? = some r) : knRt R n (i + 1) = knRt R n i ++ (if Knot0 R n r.1 then [r] else []) := by
  have e : R.take (i + 1) = R.take i ++ [r] := by rw [List.take_add_one, h]; rfl
  unfold knRt
  rw [e, List.filter_append, filter_one]
  congr 1
  by_cases c : Knot0 R n r.1
  · rw [if_pos (decide_eq_true c), if_pos c]
  · rw [if_neg (by rw [decide_eq_false c]; decide), if_neg c]
theorem rank_pos {R : Rules} {n : Nat} (h : n < 3) : 1 ≤ rank R n := by
  unfold rank
  exact List.length_pos_of_mem (List.mem_filter.mpr ⟨List.mem_range.mpr h, decide_eq_true (.inl rfl)⟩)
end
section
variable {P : Program} {w : World} {K : PySem.W.Frag} {mg : Str → Option Value} {base : Heap} {C : Addr}
def spKnot (C : Addr) (r : Nat) : Sp := fun vs H Q _ => ∃ (p rl dl ka : Addr) (R : Rules) (n : Nat) (ks : List Nat), vs = [.ref p, .int (n : Nat), .ref ka] ∧ DObj C H p rl dl R ∧ TDict H dl R ∧ WFG R ∧ AllProd R ∧ n < 3 ∧ rank R n ≤ r + 1 ∧
  H ka = some (.lst (ks.map nmV)) ∧ (∀ m, m ∈ ks ↔ InKnot R n m) ∧ ks.length ≤ 3 ∧
  ∀ H' y S, Oth dl H H' → TDict H' dl R → H y = none → y ≠ dl → ExL H' y S → S.length ≤ cnB (rank R n) (kc R n) → (∀ p ∈ S, p.length ≤ plB (rank R n) ∧ WFP p) → (∀ v, Words S v ↔ Dn R [.nm n] v) → Q (.ref y) H'
abbrev nKnot : List Str := ["self", "name", "knot", "rules", "ahead", "behind", "exits", "one", "body", "places", "found", "product", "rule", "at", "thing"]
theorem scKnot : FnScope nKnot ["self", "name", "knot"] (defScope sKnot) := ⟨rfl, rfl, rfl, by decide +kernel, rfl, by decide +kernel, by decide +kernel⟩
theorem d_knot (r L : Nat) (hL : 3 ≤ L) (S0 : SrcM K C "of_knot" "Downs.of_knot" sKnot ["self", "name", "knot"]) (T : DTxt K mg C) (B : Blt mg) (D1 : DfnM P w K mg base C "of_body" L ["self", "body"] (spOfBody C r))
    (D2 : DfnM P w K mg base C "letters" 3 ["self", "things"] (spLetters C)) (D3 : Dfn P w K mg base "any_of" 1 ["letters"] spAnyOf) :
    DfnM P w K mg base C "of_knot" (L + 1) ["self", "name", "knot"] (spKnot C r) := by
  obtain ⟨f, fd, gf, F, bd⟩ := S0.ex
  obtain ⟨f1, fd1, m1, G1, b1⟩ := D1.ex
  obtain ⟨f2, fd2, m2, G2, b2⟩ := D2.ex
  obtain ⟨f3, fd3, g3, G3, b3, k3⟩ := D3.ex
  refine ⟨f, fd, gf, F.ok scKnot (fun vs H Q E h => ?_) (fun cdv A outer s H vs Q E hr h => ?_), bd⟩
  · obtain ⟨p, rl, dl, ka, R, n, ks, rfl, _⟩ := h
    rfl
  obtain ⟨p, rl, dl, ka, R, n, ks, rfl, hD, hT, wf, ap, n3, rn, hka, hks, lks, q⟩ := h
  have hr3 : Room 3 _ := hr.mono hL
  have hr1 : Room 1 _ := hr.mono (by omega)
  refine ⟨_, pss_cons (ps_setLc (i := 3) (own := [("rule", 12)]) (g := gName 12) rfl scKnot.nd rfl rfl (sw_true rfl rfl rfl (by decide +kernel)) (pi_list (pe_fld (pv 0) rfl)) (blkOk_by (N := nKnot) (sc := defScope sKnot) (by decide +kernel)) (fun _ _ _ _ _ => pg_name (i := 12) scKnot.nd rfl (Or.inl rfl))
      (fun _ _ _ _ _ => pts_one (pt_cmpR (r := rIn K false) op_in_seq (pe_ix (r := rIxT K) ix_tup (pv 12) pe_int (fun _ _ => rfl)) (pe_op op_cat (pv 2) (pe_lst (pa_cons (pv 1) pa_nil))) (by rfl))) (fun _ _ _ _ _ => pv 12))
    (pss_cons (ps_set (i := 4) scKnot.nd rfl (.inl rfl) (pe_lst pa_nil)) (pss_cons (ps_set (i := 5) scKnot.nd rfl (.inl rfl) (pe_lst pa_nil)) (pss_cons (ps_set (i := 6) scKnot.nd rfl (.inl rfl) (pe_lst pa_nil))
    (pss_cons (ps_for PassesOwn.never rfl (pi_list (pv 3)) (pg_tup rfl (pgs_cons (pg_name (i := 7) scKnot.nd rfl (.inl rfl)) (pgs_cons (pg_name (i := 8) scKnot.nd rfl (.inl rfl)) pgs_nil)))
      (pss_cons (ps_setLc (i := 9) (own := [("at", 13), ("thing", 14)]) (g := gTup K 2 (gCons (gName 13) (gCons (gName 14) gNil))) rfl scKnot.nd rfl rfl (sw_true rfl rfl rfl (by decide +kernel)) (pi_enumT (by rfl) B.enum (pa_cons (pv 8) pa_nil)) (blkOk_by (N := nKnot) (sc := defScope sKnot) (by decide +kernel))
          (fun _ _ _ _ _ => pg_tup rfl (pgs_cons (pg_name (i := 13) scKnot.nd rfl (Or.inl rfl)) (pgs_cons (pg_name (i := 14) scKnot.nd rfl (Or.inl rfl)) pgs_nil)))
          (fun _ _ _ _ _ => pts_one (pt_cmpR (r := rIn K false) op_in_seq (pv 14) (pv 2) (by rfl))) (fun _ _ _ _ _ => pv 13))
      (pss_cons (ps_if (pt_cmpR op_gt (pe_callB call_len_seq (by rfl) B.len PySem.boot_len (pa_cons (pv 9) pa_nil)) pe_int (nomark _))
        (pss_one (ps_ret (pe_lst (pa_cons (pe_call G3 hr1 (by rfl) g3 k3 b3 .nil pass0 (pa_cons (pe_meth (pv 0) T.cl m2 G2 hr3 b2 .nil pass0 (pa_cons (pe_lst (pa_cons (pv 1) pa_nil)) pa_nil)) pa_nil)) pa_nil)))) pss_nil)
      (pss_one (ps_if (pt_cmpR op_eq (pe_callB call_len_seq (by rfl) B.len PySem.boot_len (pa_cons (pv 9) pa_nil)) pe_int (nomark _))
        (pss_cons (ps_expr (pe_bm PySem.F.plainAttrs_list PySem.F.slot_list_extend PySem.F.type_list_extend mt_extT (pv 4) (pa_cons (pe_slice sl_tupA (pv 8) po_none (po_some (pe_ix ix_list (pv 9) pe_int (fun _ _ => rfl)))) pa_nil)))
        (pss_one (ps_expr (pe_bm PySem.F.plainAttrs_list PySem.F.slot_list_extend PySem.F.type_list_extend mt_extT (pv 5) (pa_cons (pe_slice sl_tupA (pv 8) (po_some (pe_op op_add (pe_ix ix_list (pv 9) pe_int (fun _ _ => rfl)) pe_int)) po_none) pa_nil)))))
        (pss_one (ps_expr (pe_bm PySem.F.plainAttrs_list PySem.F.slot_list_append PySem.F.type_list_append mt_append (pv 6) (pa_cons (pv 8) pa_nil)))))))))
    (pss_cons (ps_set (i := 10) scKnot.nd rfl (.inl rfl) (pe_lst pa_nil))
    (pss_cons (ps_for PassesOwn.never rfl (pi_list (pv 6)) (pg_name (i := 8) scKnot.nd rfl (.inl rfl))
      (pss_one (ps_for PassesOwn.never rfl (pi_list (pe_meth (pv 0) T.cl m1 G1 hr b1 .nil pass0 (pa_cons (pv 8) pa_nil))) (pg_name (i := 11) scKnot.nd rfl (.inl rfl))
        (pss_one (ps_expr (pe_bm PySem.F.plainAttrs_list PySem.F.slot_list_append PySem.F.type_list_append mt_append (pv 10) (pa_cons
          (pe_op op_catA (pe_op op_catA (pe_call G3 hr1 (by rfl) g3 k3 b3 .nil pass0 (pa_cons (pe_meth (pv 0) T.cl m2 G2 hr3 b2 .nil pass0 (pa_cons (pv 4) pa_nil)) pa_nil)) (pv 11))
            (pe_call G3 hr1 (by rfl) g3 k3 b3 .nil pass0 (pa_cons (pe_meth (pv 0) T.cl m2 G2 hr3 b2 .nil pass0 (pa_cons (pv 5) pa_nil)) pa_nil))) pa_nil)))))))
    (pss_one (ps_ret (pv 10))))))))), ?_⟩
  obtain ⟨dx, hp, as, hrl, has⟩ := id hD
  obtain ⟨kvs0, hdl⟩ := hT.is
  have las : as.length = R.length := has.len
  have r3 := rank_le R n
  have k5 : kc R n ≤ 5 := Nat.le_trans (kc_le R n) wf.few
  have hpos := rank_pos (R := R) n3
  have noL : (pf rl dl).lookup ("letters" : Str) = none := pf_no rl dl (by decide +kernel) (by decide +kernel)
  have noB : (pf rl dl).lookup ("of_body" : Str) = none := pf_no rl dl (by decide +kernel) (by decide +kernel)
  have in_kn : ∀ m, m ∈ ks ++ [n] ↔ Knot0 R n m := fun m => by
    rw [List.mem_append, hks m, List.mem_singleton]
    unfold Knot0
    exact Or.comm
  have ekn : ks.map nmV ++ [V.int ((n : Nat) : Int)] = (ks ++ [n]).map nmV := by rw [List.map_append]; rfl
  -- rules = [rule for rule in self.rules if rule[0] in knot + [name]]
  refine ⟨_, rfl, p, C, dx, _, _, rfl, hp, T.cl, T.nR, pf_rules rl dl, rl, rfl, ⟨_, SqL.of hrl⟩, fun D nD => ?_⟩
  refine lc_list (K := K) (a := rl) (xs := as.map V.ref) (fun i H' => Same H H' ∧ RulesL H' D (knRt R n i)) ⟨same_new nD, [], upd_same, trivial⟩ (fun i H' _ z => SqL.of (z.1 _ _ hrl)) ?_ ?_
  · rintro i v H1 hi ⟨s1, as', hD1, has'⟩
    obtain ⟨ra, hra, rfl⟩ : ∃ c, as[i]? = some c ∧ V.ref c = v := by
      rw [List.getElem?_map] at hi
      exact Option.map_eq_some_iff.mp hi
    obtain ⟨⟨m, body⟩, hR, hrule⟩ := has.getL hra
    have hrule1 := hrule.up s1.tups
    obtain ⟨ba, hra2, hba⟩ := hrule
    have iR : i < R.length := (List.getElem?_eq_some_iff.mp hR).1
    have lD : as'.length ≤ R.length := by
      rw [has'.len]
      exact Nat.le_trans (List.length_filter_le _ _) (List.length_take_le' _ _)
    refine ⟨rfl, _, rfl, ra, _, 0, _, rfl, rfl, SqT.of (s1 _ _ hra2), atI_nat (j := 0) rfl, _, rfl, _, rfl, (by show 1 ≤ sizeLine; decide), fun u nu => ⟨ka, u, _, _, rfl, rfl, (s1.new nu) _ _ hka, upd_same, ?_, fun z nz => ?_⟩⟩
    · rw [List.length_map, List.length_singleton]
      exact Nat.le_of_lt (small1000 (by omega))
    have s2 : Same H1 (upd (upd H1 u (.lst [V.int ((n : Nat) : Int)])) z (.lst (ks.map nmV ++ [V.int ((n : Nat) : Int)]))) := (same_new nu).new nz
    refine ⟨z, (ks ++ [n]).map nmV, rfl, .inl (SqL.of (by rw [upd_same, ekn])), rfl, flat_nm _, _, rfl, ?_⟩
    show (if inV (nmV m) ((ks ++ [n]).map nmV) = true then _ else _)
    rw [inV_nm]
    have hD2 := s2 _ _ hD1
    by_cases hm : Knot0 R n m
    · rw [decide_eq_true ((in_kn m).mpr hm)]
      have tp := tups_put (o := .lst (as'.map V.ref ++ [.ref ra])) hD2
      refine iteT ⟨_, rfl, _, hD2, ?_, (s1.trans s2).put nD, as' ++ [ra], by rw [upd_same, List.map_append]; rfl, ?_⟩
      · rw [List.length_map]
        have := wf.few
        exact small1000 (by omega)
      · rw [knRt_next hR, if_pos hm]
        exact KX.All2.append (has'.imp fun _ _ y => (y.up s2.tups).up tp) ⟨(hrule1.up s2.tups).up tp, trivial⟩
    · rw [decide_eq_false fun z => hm ((in_kn m).mp z)]
      refine iteF ⟨s1.trans s2, as', hD2, ?_⟩
      rw [knRt_next hR, if_neg hm, List.append_nil]
      exact has'.imp fun _ _ y => y.up s2.tups
  rintro H1 ⟨s1, hRL⟩
  rw [List.length_map, las, knRt_all] at hRL
  -- ahead, behind, exits
  refine ⟨Nat.zero_le _, fun aL naL => ⟨Nat.zero_le _, fun bL nbL => ⟨Nat.zero_le _, fun xL nxL => ?_⟩⟩⟩
  have s12 : Same H1 (upd (upd (upd H1 aL (.lst [])) bL (.lst [])) xL (.lst [])) := ((same_new naL).new nbL).new nxL
  have aL0 : H1 aL = none := naL
  have bL0 : H1 bL = none := (same_new naL).free nbL
  have xL0 : H1 xL = none := ((same_new naL).new nbL).free nxL
  have nab : aL ≠ bL := ne_of_none upd_same nbL
  have nbx : bL ≠ xL := ne_of_none upd_same nxL
  have nax : aL ≠ xL := ne_of_none (by rw [upd_ne nab]; exact upd_same) nxL
  have ha2 : (upd (upd (upd H1 aL (.lst [])) bL (.lst [])) xL (.lst [])) aL = some (.lst []) := by rw [upd_ne nax, upd_ne nab, upd_same]
  have hb2 : (upd (upd (upd H1 aL (.lst [])) bL (.lst [])) xL (.lst [])) bL = some (.lst []) := by rw [upd_ne nbx, upd_same]
  have hx2 : (upd (upd (upd H1 aL (.lst [])) bL (.lst [])) xL (.lst [])) xL = some (.lst []) := upd_same
  generalize upd (upd (upd H1 aL (.lst [])) bL (.lst [])) xL (.lst []) = H2 at s12 ha2 hb2 hx2
  have aLH : H aL = none := s1.free aL0
  have bLH : H bL = none := s1.free bL0
  have xLH : H xL = none := s1.free xL0
  have s2 : Same H H2 := s1.trans s12
  obtain ⟨as2, hD2, has2⟩ := hRL.same s12
  have hD1' : H1 D = some (.lst (as2.map V.ref)) := by
    obtain ⟨as3, h3, r3⟩ := hRL
    have := s12 _ _ h3
    rw [hD2] at this
    rw [h3]
    exact this.symm
  have nDa : D ≠ aL := ne_of_none hD1' aL0
  have nDb : D ≠ bL := ne_of_none hD1' bL0
  have nDx : D ≠ xL := ne_of_none hD1' xL0
  refine ⟨_, rfl, D, rfl, ⟨_, SqL.of hD2⟩, for_list (K := K) (a := D) (xs := as2.map V.ref) (fun i σ H' => ∃ (Ah Bh : Body) (es : List (Addr × Body)) (x7 x8 x9 x10 x11 x12 x13 x14 : Option V),
      σ = [some (.ref p), some (.int (n : Nat)), some (.ref ka), some (.ref D), some (.ref aL), some (.ref bL), some (.ref xL), x7, x8, x9, x10, x11, x12, x13, x14] ∧ Same H H' ∧ H' D = some (.lst (as2.map V.ref)) ∧
      H' aL = some (.lst (Ah.map thV)) ∧ H' bL = some (.lst (Bh.map thV)) ∧ H' xL = some (.lst (es.map fun x => V.ref x.1)) ∧ (∀ x ∈ es, BodyAt H' x.1 x.2) ∧ All2 (RuleAt H') as2 (knR R n) ∧ LinS R n ((knR R n).take i) Ah Bh (es.map (·.2)))
    ⟨[], [], [], none, none, none, none, none, none, none, none, rfl, s2, hD2, ha2, hb2, hx2, fun _ z => (nomatch z), has2, LinS.nil R n⟩ (fun i σ H' _ ⟨_, _, _, _, _, _, _, _, _, _, _, _, _, hD', _⟩ => SqL.of hD') ?_ ?_⟩
  · rintro i v σ H4 hi ⟨Ah, Bh, es, x7, x8, x9, x10, x11, x12, x13, x14, rfl, s4, hD4, ha4, hb4, hx4, hes4, has4, L4⟩
    obtain ⟨ra, hra, rfl⟩ : ∃ c, as2[i]? = some c ∧ V.ref c = v := by
      rw [List.getElem?_map] at hi
      exact Option.map_eq_some_iff.mp hi
    obtain ⟨⟨m, body⟩, hR, ba, hra2, hba⟩ := has4.getL hra
    obtain ⟨mR, hm⟩ := mem_knR.mp (List.mem_of_getElem? hR)
    have iR : i < (knR R n).length := (List.getElem?_eq_some_iff.mp hR).1
    have k5' : (knR R n).length ≤ 5 := Nat.le_trans (List.length_filter_le _ _) wf.few
    have lt5 : ((knR R n).take i).length ≤ 5 := Nat.le_trans (List.length_take_le' _ _) k5'
    have eR : (knR R n).take (i + 1) = (knR R n).take i ++ [(m, body)] := by rw [List.take_add_one, hR]; rfl
    have l3 := wf.len m body mR
    have hba : H4 ba = some (.tup (body.map thV)) := hba
    have hka4 := s4 _ _ hka
    refine ⟨ra, _, rfl, SqT.of hra2, rfl, _, _, rfl, _, _, rfl, rfl, ?_⟩
    refine ⟨_, rfl, ba, _, rfl, SqT.of hba, fun G nG => ?_⟩
    refine lc_enumT (K := K) (a := ba) (xs := body.map thV) (fun j H' => Same H4 H' ∧ ∃ js, H' G = some (.lst (js.map nmV)) ∧ Pos ks body j js ∧ js.length ≤ j) ⟨same_new nG, [], upd_same, Pos.zero ks body, Nat.le_refl _⟩ (fun j H' _ z => SqT.of (z.1 _ _ hba)) ?_ ?_
    · rintro j v H5 t hj ⟨s5, js, hG, hps, lj⟩ nt
      obtain ⟨th, hth, rfl⟩ : ∃ t, body[j]? = some t ∧ thV t = v := by
        rw [List.getElem?_map] at hj
        exact Option.map_eq_some_iff.mp hj
      have jl : j < body.length := (List.getElem?_eq_some_iff.mp hth).1
      have s6 : Same H5 (upd H5 t (.tup [.int (j : Nat), thV th])) := same_new nt
      have hG6 := s6 _ _ hG
      have hps' := hps.next hth
      refine ⟨t, _, rfl, SqT.of upd_same, rfl, _, _, rfl, _, _, rfl, rfl, rfl, _, rfl, _, rfl, ka, _, rfl, .inl (SqL.of ((s5.trans s6) _ _ hka4)), th_flat th, flat_nm _, _, rfl, ?_⟩
      show (if inV (thV th) (ks.map nmV) = true then _ else _)
      rw [inV_th]
      cases hk : kAt ks th with
      | true =>
        rw [hk, if_pos rfl] at hps'
        refine iteT ⟨_, rfl, _, hG6, ?_, (s5.trans s6).put nG, js ++ [j], ?_, hps', ?_⟩
        · rw [List.length_map]
          exact small1000 (by omega)
        · rw [upd_same, List.map_append]
          rfl
        · rw [List.length_append, List.length_singleton]
          omega
      | false =>
        rw [hk] at hps'
        exact iteF ⟨s5.trans s6, js, hG6, hps', by omega⟩
    rintro H5 ⟨s5, js, hG, hps, lj⟩
    rw [List.length_map] at hps lj
    have s45 := s4.trans s5
    have hG0 : H4 G = none := nG
    have hbaT : H5 ba = some (.tup (body.map thV)) := s5 _ _ hba
    have lG : (js.map nmV).length = js.length := List.length_map _
    have pos_of : ∀ j, j ∈ js → ∃ x, body[j]? = some (.nm x) ∧ InKnot R n x := fun j hj => by
      obtain ⟨_, t, h1, h2⟩ := (hps.all j).mp hj
      obtain ⟨x, rfl, hx⟩ := kAt_nm h2
      exact ⟨x, h1, (hks x).mp hx⟩
    refine ⟨_, rfl, G, _, rfl, .inl (SqL.of hG), _, _, rfl, rfl, _, rfl, ?_⟩
    rw [lG]
    by_cases two : 1 < js.length
    · have e1 : decide ((1 : Int) < ((js.length : Nat) : Int)) = true := decide_eq_true (by omega)
      rw [e1]
      obtain ⟨j1, j2, r, ejs⟩ : ∃ j1 j2 r, js = j1 :: j2 :: r := by
        match js, two with
        | j1 :: j2 :: r, _ => exact ⟨j1, j2, r, rfl⟩
      have lt12 : j1 < j2 := by
        have := hps.up
        rw [ejs] at this
        exact (List.pairwise_cons.mp this).1 j2 List.mem_cons_self
      obtain ⟨x, hx, kx⟩ := pos_of j1 (by rw [ejs]; exact List.mem_cons_self)
      obtain ⟨y, hy, ky⟩ := pos_of j2 (by rw [ejs]; exact List.mem_cons_of_mem _ List.mem_cons_self)
      obtain ⟨bp, bq, bs, eb⟩ := two_at hx hy lt12
      rw [eb] at mR
      have hp5 := s45 _ _ hp
      refine iteT ⟨_, rfl, p, dx, _, rfl, hp5, noL, _, rfl, (by show 1 ≤ sizeLine; decide), fun u nu => ?_⟩
      have s56 : Same H5 (upd H5 u (.lst [V.int ((n : Nat) : Int)])) := same_new nu
      refine ⟨p, rl, dl, u, R, [.nm n], rfl, (hD.same s45).same s56, wf, upd_same, (by show 1 ≤ 40; decide), fun H6 ss s6 pw ls eL => ⟨ss, rfl, fun H7 t s7 ht => ⟨(by show 1 ≤ sizeLine; decide), fun y ny => ?_⟩⟩⟩
      have s57 : Same H H7 := s45.trans (s56.trans (s6.trans s7))
      have y0 : H y = none := s57.free ny
      refine q _ y [anyP ss] ((s57.oth dl).new ny) ((hT.up s57.tups fun o e => s57 _ _ e).up (tups_new ny) fun o e => (same_new ny) _ _ e) y0 (ne_of_none hdl y0).symm ⟨[t], upd_same, ht.up (tups_new ny), trivial⟩ (cnB_pos r3 k5) (fun pr hpr => ?_) fun v => ?_
      · rw [List.mem_singleton.mp hpr]
        refine ⟨Nat.le_trans (anyP_len ss) ?_, anyP_wf pw ls⟩
        obtain ⟨r', er⟩ : ∃ r', rank R n = r' + 1 := ⟨rank R n - 1, by omega⟩
        rw [er]
        show 1 ≤ 2 * plB r' + 5
        omega
      · rw [knot_many ap hm mR kx ky v]
        unfold Words
        constructor
        · rintro ⟨pr, hpr, hv⟩ c hc
          rw [List.mem_singleton.mp hpr] at hv
          exact (eL c).mp ((inP_any ss v).mp hv c hc)
        · intro h
          exact ⟨_, List.mem_singleton.mpr rfl, (inP_any ss v).mpr fun c hc => (eL c).mpr (h c hc)⟩
    · have e1 : decide ((1 : Int) < ((js.length : Nat) : Int)) = false := decide_eq_false (by omega)
      rw [e1]
      refine iteF ⟨_, rfl, G, _, rfl, .inl (SqL.of hG), rfl, _, rfl, ?_⟩
      rw [lG]
      have nGa : G ≠ aL := (ne_of_none ha4 hG0).symm
      have nGb : G ≠ bL := (ne_of_none hb4 hG0).symm
      by_cases o1 : js.length = 1
      · have e2 : decide (V.int ((js.length : Nat) : Int) = V.int 1) = true := decide_eq_true (by rw [o1]; rfl)
        rw [e2]
        obtain ⟨j, rfl⟩ : ∃ j, js = [j] := List.length_eq_one_iff.mp o1
        obtain ⟨x, hx, kx⟩ := pos_of j List.mem_cons_self
        have eb := one_at hx
        have jb : j < body.length := (List.getElem?_eq_some_iff.mp hx).1
        have Lp : LinS R n ((knR R n).take i ++ [(m, body)]) (Ah ++ body.take j) (Bh ++ body.drop (j + 1)) (es.map (·.2)) := by
          have z := L4.lin (p := body.take j) (s := body.drop (j + 1)) hm (by rw [← eb]; exact mR) kx (by rw [← eb]; exact l3)
          rw [← eb] at z
          exact z
        have la := L4.la
        have lb := L4.lb
        refine iteT ⟨_, rfl, .inl ⟨rfl, _, SqL.of (s5 _ _ ha4)⟩, _, rfl, _, rfl, G, _, 0, _, rfl, rfl, SqL.of hG, atI_nat (j := 0) rfl, _, rfl, ?_⟩
        refine slice_to (k := j) (by rw [List.length_map]; omega) hbaT fun H6 t1 s6 ht1 => ?_
        have ha6 := s6 _ _ (s5 _ _ ha4)
        refine ⟨aL, t1, _, _, rfl, rfl, ha6, ht1, ?_, ?_⟩
        · rw [List.length_map, List.length_take, List.length_map]
          exact Nat.le_of_lt (small1000 (by omega))
        have tp1 := tups_put (o := .lst (Ah.map thV ++ (body.map thV).take j)) ha6
        have hG7 : (upd H6 aL (.lst (Ah.map thV ++ (body.map thV).take j))) G = some (.lst ([j].map nmV)) := by rw [upd_ne nGa]; exact s6 _ _ hG
        have hb7 : (upd H6 aL (.lst (Ah.map thV ++ (body.map thV).take j))) bL = some (.lst (Bh.map thV)) := by rw [upd_ne nab.symm]; exact s6 _ _ (s5 _ _ hb4)
        refine ⟨_, rfl, .inl ⟨rfl, _, SqL.of hb7⟩, _, rfl, _, rfl, G, _, 0, _, rfl, rfl, SqL.of hG7, atI_nat (j := 0) rfl, _, _, rfl, rfl, _, rfl, ?_⟩
        have ej : (((j : Nat) : Int) + 1) = ((j + 1 : Nat) : Int) := by omega
        dsimp only [tNoPart]
        refine slice_from (k := j + 1) ej (by rw [List.length_map]; omega) (tp1 _ _ (s6.tups _ _ hbaT)) fun H8 t2 s8 ht2 => ?_
        have hb8 := s8 _ _ hb7
        have tp2 := tups_put (o := .lst (Bh.map thV ++ (body.map thV).drop (j + 1))) hb8
        refine ⟨bL, t2, _, _, rfl, rfl, hb8, ht2, ?_, ?_⟩
        · rw [List.length_map, List.length_drop, List.length_map]
          exact Nat.le_of_lt (small1000 (by omega))
        have tall : Tups H4 (upd H8 bL (.lst (Bh.map thV ++ (body.map thV).drop (j + 1)))) := s5.tups.trans (s6.tups.trans (tp1.trans (s8.tups.trans tp2)))
        refine ⟨Ah ++ body.take j, Bh ++ body.drop (j + 1), es, _, _, _, _, _, _, _, _, rfl, ((((s45.trans s6).put aLH).trans s8).put bLH), ?_, ?_, ?_, ?_, fun x hx => (hes4 x hx).up tall, has4.imp fun _ _ y => y.up tall, by rw [eR]; exact Lp⟩
        · rw [upd_ne nDb]
          exact s8 _ _ (by rw [upd_ne nDa]; exact s6 _ _ (s5 _ _ hD4))
        · rw [upd_ne nab]
          exact s8 _ _ (by rw [upd_same, List.map_append, List.map_take])
        · rw [upd_same, List.map_append, List.map_drop]
        · rw [upd_ne nbx.symm]
          exact s8 _ _ (by rw [upd_ne nax.symm]; exact s6 _ _ (s5 _ _ hx4))
      · have e2 : decide (V.int ((js.length : Nat) : Int) = V.int 1) = false := decide_eq_false fun z => o1 (by have z := V.int.inj z; omega)
        rw [e2]
        have ej : js = [] := List.length_eq_zero_iff.mp (by omega)
        subst ej
        have no : ∀ x, Thing.nm x ∈ body → ¬ InKnot R n x := fun x hx kx => by
          obtain ⟨j, hj⟩ := List.mem_iff_getElem?.mp hx
          have z := (hps.all j).mpr ⟨(List.getElem?_eq_some_iff.mp hj).1, _, hj, decide_eq_true ((hks x).mpr kx)⟩
          cases z
        have Lp := L4.exit hm mR no
        have le := L4.le
        have hx5 := s5 _ _ hx4
        have tp := tups_put (o := .lst (es.map (fun x => V.ref x.1) ++ [.ref ba])) hx5
        have tall : Tups H4 (upd H5 xL (.lst (es.map (fun x => V.ref x.1) ++ [.ref ba]))) := s5.tups.trans tp
        rw [List.length_map] at le
        refine iteF ⟨_, rfl, .inl ⟨rfl, _, SqL.of hx5⟩, _, rfl, xL, _, _, rfl, rfl, hx5, by rw [List.length_map]; exact small1000 (by omega), ?_⟩
        refine ⟨Ah, Bh, es ++ [(ba, body)], _, _, _, _, _, _, _, _, rfl, s45.put xLH, ?_, ?_, ?_, ?_, fun x hx => ?_, has4.imp fun _ _ y => y.up tall, by rw [eR, List.map_append]; exact Lp⟩
        · rw [upd_ne nDx]; exact s5 _ _ hD4
        · rw [upd_ne nax]; exact s5 _ _ ha4
        · rw [upd_ne nbx]; exact s5 _ _ hb4
        · rw [upd_same, List.map_append]; rfl
        · rcases List.mem_append.mp hx with z | z
          · exact (hes4 x z).up tall
          · rw [List.mem_singleton.mp z]; exact tall _ _ hba
  rintro σ H4 ⟨Ah, Bh, es, x7, x8, x9, x10, x11, x12, x13, x14, rfl, s4, hD4, ha4, hb4, hx4, hes4, has4, L4⟩
  have full : (knR R n).take (as2.map V.ref).length = knR R n := by rw [List.length_map, has4.len, List.take_length]
  rw [full] at L4
  have Lin : Linear R n Ah Bh (es.map (·.2)) := L4.whole fun m body h1 h2 => mem_knR.mpr ⟨h2, h1⟩
  have kl : (knR R n).length = kn R n := knR_len R n
  have knk := kn_le (R := R) n
  have lA := L4.la
  have lB := L4.lb
  have lE := L4.le
  rw [List.length_map] at lE
  rw [kl] at lA lB lE
  obtain ⟨r0, er⟩ : ∃ r0, rank R n = r0 + 1 := ⟨rank R n - 1, by omega⟩
  have r0r : r0 ≤ r := by omega
  have r02 : r0 < 3 := by omega
  have c1 : 1 ≤ cnB r0 (kc R n - kn R n) := cnB_pos (by omega) (by omega)
  have c81 : cnB r0 (kc R n - kn R n) ≤ 81 := cnB_top (by omega) (by omega)
  have p35 := plB_top (r := r0) (by omega)
  -- found = []
  refine ⟨Nat.zero_le _, fun fo nfo => ?_⟩
  have hT4 : TDict H4 dl R := hT.up s4.tups fun o e => s4 _ _ e
  have hD4' : DObj C H4 p rl dl R := hD.same s4
  have fo0 : H fo = none := s4.free nfo
  have fod : fo ≠ dl := (ne_of_none hdl fo0).symm
  have s45 : Same H4 (upd H4 fo (.lst [])) := same_new nfo
  obtain ⟨kv4, hdl4⟩ := hT4.is
  have xLd : xL ≠ dl := ne_of hx4 hdl4 (by intro z; cases z)
  have aLd : aL ≠ dl := ne_of ha4 hdl4 (by intro z; cases z)
  have bLd : bL ≠ dl := ne_of hb4 hdl4 (by intro z; cases z)
  refine ⟨_, rfl, xL, rfl, ⟨_, SqL.of (s45 _ _ hx4)⟩, for_list (K := K) (a := xL) (xs := es.map fun x => V.ref x.1) (fun i σ H' => ∃ (S : List Product) (x7 x8 x9 x11 x12 x13 x14 : Option V),
      σ = [some (.ref p), some (.int (n : Nat)), some (.ref ka), some (.ref D), some (.ref aL), some (.ref bL), some (.ref xL), x7, x8, x9, some (.ref fo), x11, x12, x13, x14] ∧ Oth dl H4 H' ∧ TDict H' dl R ∧ ExL H' fo S ∧
      S.length ≤ i * (cnB r0 (kc R n - kn R n) * cnB r0 (kc R n - kn R n)) ∧ (∀ pr ∈ S, pr.length ≤ plB (r0 + 1) ∧ WFP pr) ∧ ∀ v, Words S v ↔ Cut R Ah Bh ((es.map (·.2)).take i) v)
    ⟨[], x7, x8, x9, x11, x12, x13, x14, rfl, s45.oth dl, hT4.up s45.tups fun o e => s45 _ _ e, ⟨[], upd_same, trivial⟩, Nat.zero_le _, fun _ z => (nomatch z), fun v => ⟨fun ⟨_, z, _⟩ => (nomatch z), fun ⟨_, z, _⟩ => (nomatch z)⟩⟩
    (fun i σ H' _ ⟨_, _, _, _, _, _, _, _, _, sm, _⟩ => SqL.of (sm _ _ xLd hx4)) ?_ ?_⟩
  · rintro i v σ H5 hi ⟨S, y7, y8, y9, y11, y12, y13, y14, rfl, s5, hT5, hS, lS, wS, eS⟩
    obtain ⟨⟨ba, body⟩, hx, rfl⟩ : ∃ x, es[i]? = some x ∧ V.ref x.1 = v := by
      rw [List.getElem?_map] at hi
      exact Option.map_eq_some_iff.mp hi
    have mx := List.mem_of_getElem? hx
    have ix : i < es.length := (List.getElem?_eq_some_iff.mp hx).1
    have ex : (es.map (·.2))[i]? = some body := by rw [List.getElem?_map, hx]; rfl
    have ee : (es.map (·.2)).take (i + 1) = (es.map (·.2)).take i ++ [body] := by rw [List.take_add_one, ex]; rfl
    have t45 := s5.tups hT4
    have hb5 : BodyAt H5 ba body := (hes4 _ mx).up t45
    obtain ⟨m, km, mR, no⟩ := L4.ext body (List.mem_map.mpr ⟨_, mx, rfl⟩)
    have hD5 : DObj C H5 p rl dl R := hD4'.oth s5 hT4
    obtain ⟨dx5, hp5, _⟩ := id hD5
    refine ⟨_, rfl, p, dx5, _, rfl, hp5, noB, _, rfl, p, rl, dl, ba, R, body, r0, kc R n - kn R n, rfl, hD5, hT5, wf, ap, hb5, wf.len m body mR, wf.two m body mR, fun x hx => ?_, r0r, by omega, by omega, fun H6 y Se s6 hT6 ny yd hY lY wY eY => ?_⟩
    · obtain ⟨o1, o2⟩ := exit_out km mR hx (no x hx)
      have z1 := rank_lt n3 o1 o2
      have z2 := kc_add o1 o2
      exact ⟨wf.inn m body mR x hx, by omega, by omega⟩
    obtain ⟨ys, hys, hYs⟩ := id hY
    have fo5 := hS.is
    obtain ⟨fs5, hfo5, _⟩ := fo5
    have yfo : y ≠ fo := (ne_of_none hfo5 ny).symm
    have hS6 : ExL H6 fo S := hS.up (s6.tups hT5) fun o e => s6 _ _ fod e
    have t46 : Oth dl H4 H6 := s5.trans s6
    refine ⟨y, rfl, ⟨_, SqL.of hys⟩, for_list (K := K) (a := y) (xs := ys.map V.ref) (fun j σ H' => ∃ (S' : List Product) (x11 : Option V),
        σ = [some (.ref p), some (.int (n : Nat)), some (.ref ka), some (.ref D), some (.ref aL), some (.ref bL), some (.ref xL), y7, some (.ref ba), y9, some (.ref fo), x11, y12, y13, y14] ∧ Oth dl H4 H' ∧ TDict H' dl R ∧ ExL H' fo S' ∧ ExL H' y Se ∧ H' y = some (.lst (ys.map V.ref)) ∧
        S'.length ≤ i * (cnB r0 (kc R n - kn R n) * cnB r0 (kc R n - kn R n)) + j ∧ (∀ pr ∈ S', pr.length ≤ plB (r0 + 1) ∧ WFP pr) ∧
        ∀ v, Words S' v ↔ Words S v ∨ ∃ pr ∈ Se.take j, ∃ a x b, v = a ++ (x ++ b) ∧ (∀ c ∈ a, LetterOf R Ah c) ∧ InP pr x ∧ ∀ c ∈ b, LetterOf R Bh c)
      ⟨S, y11, rfl, t46, hT6, hS6, hY, hys, lS, wS, fun v => ⟨.inl, fun z => z.elim id fun ⟨_, z, _⟩ => (nomatch z)⟩⟩ (fun j σ H' _ ⟨_, _, _, _, _, _, _, z, _⟩ => SqL.of z) ?_ ?_⟩
    · rintro j v σ H7 hj ⟨S', z11, rfl, s7, hT7, hS7, hY7, hy7, lS7, wS7, eS7⟩
      obtain ⟨pa, hpa, rfl⟩ : ∃ c, ys[j]? = some c ∧ V.ref c = v := by
        rw [List.getElem?_map] at hj
        exact Option.map_eq_some_iff.mp hj
      obtain ⟨pr, hpr, _⟩ := hYs.getL hpa
      have mp := List.mem_of_getElem? hpr
      have jl : j < Se.length := (List.getElem?_eq_some_iff.mp hpr).1
      have epr : Se.take (j + 1) = Se.take j ++ [pr] := by rw [List.take_add_one, hpr]; rfl
      have hpr7 : PrAt H7 pa pr := by
        obtain ⟨ys', h1, h2⟩ := id hY7
        rw [hy7] at h1
        have e : ys.map V.ref = ys'.map V.ref := by injection h1 with h1; injection h1
        have e2 : ys = ys' := map_inj (fun _ _ z => V.ref.inj z) e
        subst e2
        obtain ⟨pr', h3, h4⟩ := h2.getL hpa
        rw [hpr] at h3
        cases h3
        exact h4
      have hD7 : DObj C H7 p rl dl R := hD4'.oth s7 hT4
      obtain ⟨dx7, hp7, _⟩ := id hD7
      have ha7 := s7 _ _ aLd ha4
      have hb7 := s7 _ _ bLd hb4
      obtain ⟨fs, hfs, hfx⟩ := id hS7
      have wp := wY pr mp
      refine ⟨_, rfl, .inl ⟨rfl, _, SqL.of hfs⟩, _, rfl, p, dx7, _, rfl, hp7, noL, _, rfl, p, rl, dl, aL, R, Ah, rfl, hD7, wf, ha7, by omega, fun H8 q1 s8 pw1 l1 eL1 => ⟨q1, rfl, fun H9 t1 s9 ht1 => ?_⟩⟩
      have s79 : Same H7 H9 := s8.trans s9
      refine ⟨_, rfl, cat_read ht1 (hpr7.up s79.tups) (by have := anyP_len q1; omega) fun H10 t2 s10 ht2 => ?_⟩
      have s7a : Same H7 H10 := s79.trans s10
      refine ⟨_, rfl, p, dx7, _, rfl, s7a _ _ hp7, noL, _, rfl, p, rl, dl, bL, R, Bh, rfl, hD7.same s7a, wf, s7a _ _ hb7, by omega, fun H11 q2 s11 pw2 l2 eL2 => ⟨q2, rfl, fun H12 t3 s12 ht3 => ?_⟩⟩
      have s7c : Same H10 H12 := s11.trans s12
      refine cat_read (ht2.up s7c.tups) ht3 (by rw [List.length_append]; have := anyP_len q1; have := anyP_len q2; omega) fun H13 t4 s13 ht4 => ?_
      have s7d : Same H7 H13 := s7a.trans (s7c.trans s13)
      have hfs13 := s7d _ _ hfs
      have tp := tups_put (o := .lst (fs.map V.ref ++ [.ref t4])) hfs13
      have hT13 : TDict H13 dl R := hT7.up s7d.tups fun o e => s7d _ _ e
      have tall : Tups H7 (upd H13 fo (.lst (fs.map V.ref ++ [.ref t4]))) := s7d.tups.trans tp
      have small : S'.length ≤ 100000 := by
        have z1 : i * (cnB r0 (kc R n - kn R n) * cnB r0 (kc R n - kn R n)) ≤ 5 * (81 * 81) := Nat.mul_le_mul (by omega) (Nat.mul_le_mul c81 c81)
        have z2 : cnB r0 (kc R n - kn R n) * cnB r0 (kc R n - kn R n) ≤ 81 * 81 := Nat.mul_le_mul c81 c81
        omega
      refine ⟨fo, _, _, rfl, rfl, hfs13, ?_, S' ++ [anyP q1 ++ pr ++ anyP q2], _, rfl, ?_, ?_, ⟨fs ++ [t4], ?_, ?_⟩, ?_, ?_, ?_, ?_, ?_⟩
      · rw [List.length_map, hfx.len, sizeLine_eq]
        omega
      · exact (s7.trans (s7d.oth dl)).put nfo
      · exact hT13.up tp fun o e => by rw [upd_ne fod.symm]; exact e
      · rw [upd_same, List.map_append]; rfl
      · exact KX.All2.append (hfx.imp fun _ _ z => z.up tall) ⟨ht4.up tp, trivial⟩
      · exact hY7.up tall fun o e => by rw [upd_ne yfo]; exact s7d _ _ e
      · rw [upd_ne yfo]; exact s7d _ _ hy7
      · rw [List.length_append, List.length_singleton]
        omega
      · intro pr' hpr'
        rcases List.mem_append.mp hpr' with z | z
        · exact wS7 pr' z
        · rw [List.mem_singleton.mp z]
          refine ⟨?_, ((anyP_wf pw1 l1).append wp.2).append (anyP_wf pw2 l2)⟩
          rw [List.length_append, List.length_append]
          have := anyP_len q1
          have := anyP_len q2
          show _ ≤ 2 * plB r0 + 5
          have := wp.1
          omega
      · intro v
        have e0 : Words (S' ++ [anyP q1 ++ pr ++ anyP q2]) v ↔ Words S' v ∨ InP (anyP q1 ++ pr ++ anyP q2) v := by
          unfold Words
          constructor
          · rintro ⟨x, hx, hv⟩
            rcases List.mem_append.mp hx with z | z
            · exact .inl ⟨x, z, hv⟩
            · rw [List.mem_singleton.mp z] at hv; exact .inr hv
          · rintro (⟨x, hx, hv⟩ | hv)
            · exact ⟨x, List.mem_append_left _ hx, hv⟩
            · exact ⟨_, List.mem_append_right _ (List.mem_singleton.mpr rfl), hv⟩
        have e1 : InP (anyP q1 ++ pr ++ anyP q2) v ↔ ∃ a x b, v = a ++ (x ++ b) ∧ (∀ c ∈ a, LetterOf R Ah c) ∧ InP pr x ∧ ∀ c ∈ b, LetterOf R Bh c := by
          rw [List.append_assoc, inP_append]
          constructor
          · rintro ⟨a, u, rfl, h1, h2⟩
            obtain ⟨x, b, rfl, h3, h4⟩ := inP_append.mp h2
            exact ⟨a, x, b, rfl, fun c hc => (eL1 c).mp ((inP_any q1 a).mp h1 c hc), h3, fun c hc => (eL2 c).mp ((inP_any q2 b).mp h4 c hc)⟩
          · rintro ⟨a, x, b, rfl, h1, h3, h4⟩
            exact ⟨a, x ++ b, rfl, (inP_any q1 a).mpr fun c hc => (eL1 c).mpr (h1 c hc), inP_append.mpr ⟨x, b, rfl, h3, (inP_any q2 b).mpr fun c hc => (eL2 c).mpr (h4 c hc)⟩⟩
        rw [e0, e1, eS7 v, epr]
        constructor
        · rintro ((h | ⟨x, hx, h⟩) | h)
          · exact .inl h
          · exact .inr ⟨x, List.mem_append_left _ hx, h⟩
          · exact .inr ⟨pr, List.mem_append_right _ (List.mem_singleton.mpr rfl), h⟩
        · rintro (h | ⟨x, hx, h⟩)
          · exact .inl (.inl h)
          · rcases List.mem_append.mp hx with z | z
            · exact .inl (.inr ⟨x, z, h⟩)
            · rw [List.mem_singleton.mp z] at h
              exact .inr h
    · rintro σ H7 ⟨S', z11, rfl, s7, hT7, hS7, hY7, hy7, lS7, wS7, eS7⟩
      have ey : Se.take (ys.map V.ref).length = Se := by rw [List.length_map, hYs.len, List.take_length]
      rw [ey] at eS7
      rw [List.length_map, hYs.len] at lS7
      refine ⟨S', _, _, _, _, _, _, _, rfl, s7, hT7, hS7, ?_, wS7, fun v => ?_⟩
      · rw [Nat.succ_mul]
        omega
      · rw [eS7 v, eS v, ee]
        unfold K55.Cut
        constructor
        · rintro (⟨e, he, h⟩ | ⟨pr, hpr, a, x, b, h1, h2, h3, h4⟩)
          · exact ⟨e, List.mem_append_left _ he, h⟩
          · exact ⟨body, List.mem_append_right _ (List.mem_singleton.mpr rfl), a, x, b, h1, h2, (eY x).mp ⟨pr, hpr, h3⟩, h4⟩
        · rintro ⟨e, he, a, x, b, h1, h2, h3, h4⟩
          rcases List.mem_append.mp he with z | z
          · exact .inl ⟨e, z, a, x, b, h1, h2, h3, h4⟩
          · rw [List.mem_singleton.mp z] at h3
            obtain ⟨pr, hpr, h5⟩ := (eY x).mpr h3
            exact .inr ⟨pr, hpr, a, x, b, h1, h2, h5, h4⟩
  · rintro σ H5 ⟨S, y7, y8, y9, y11, y12, y13, y14, rfl, s5, hT5, hS, lS, wS, eS⟩
    have ef : (es.map (·.2)).take (es.map fun x => V.ref x.1).length = es.map (·.2) := by
      rw [List.length_map, show es.length = (es.map (·.2)).length from (List.length_map _).symm, List.take_length]
    rw [ef] at eS
    rw [List.length_map] at lS
    refine ⟨_, rfl, q H5 fo S ((s4.oth dl).trans s5) hT5 fo0 fod hS ?_ (by rw [er]; exact wS) fun v => (eS v).trans (knot_one ap Lin v).symm⟩
    rw [er]
    exact Nat.le_trans lS (cnB_step r02 k5 (by omega))
end
end Wk

/-! W14: expression, down_of. -/
namespace Wk
open PySem L2 KX K55
/-! ### the dict of what was told -/
theorem valT_some : ∀ {ms : List (Nat × Addr)} {n : Nat} {v : V}, valV (ms.map kvT) (Sum.inl ((n : Nat) : Int)) = some v → ∃ x ∈ ms, x.1 = n ∧ v = .ref x.2
  | [], n, v, h => by cases h
  | x :: ms, n, v, h => by
    rw [List.map_cons] at h
    by_cases e : x.1 = n
    · rw [valV_pos (show (kvT x).1 = Sum.inl ((n : Nat) : Int) by rw [← e]; rfl)] at h
      exact ⟨x, List.mem_cons_self, e, (Option.some.inj h).symm⟩
    · rw [valV_neg (show ¬ (kvT x).1 = Sum.inl ((n : Nat) : Int) from fun z => e (by have z := Sum.inl.inj z; omega))] at h
      obtain ⟨y, hy, h1, h2⟩ := valT_some h
      exact ⟨y, List.mem_cons_of_mem _ hy, h1, h2⟩
theorem anyT (ms : List (Nat × Addr)) (n : Nat) : ((ms.map kvT).any fun kv => decide (kv.1 = Sum.inl ((n : Nat) : Int))) = decide (n ∈ ms.map (·.1)) := by
  induction ms with
  | nil => rfl
  | cons x ms ih =>
    rw [List.map_cons, List.any_cons, ih, List.map_cons]
    by_cases e : x.1 = n
    · have h1 : (kvT x).1 = Sum.inl ((n : Nat) : Int) := by rw [← e]; rfl
      simp [h1, e]
    · have h1 : ¬ (kvT x).1 = Sum.inl ((n : Nat) : Int) := fun z => e (by have z := Sum.inl.inj z; omega)
      have h2 : ¬ n = x.1 := fun z => e z.symm
      simp [h1, h2]
theorem TDict.put {H : Hp} {d e : Addr} {R : Rules} {n : Nat} {ms : List (Nat × Addr)} (hd : H d = some (.dK (ms.map kvT))) (nd : (ms.map (·.1)).Nodup) (hm : ∀ x ∈ ms, x.1 < 3 ∧ ∃ S, ExAt H x.2 S ∧ GoodN R x.1 S) (n3 : n < 3)
    (hE : ∃ S, ExAt H e S ∧ GoodN R n S) : TDict (upd H d (.dK (putK (ms.map kvT) (Sum.inl ((n : Nat) : Int)) (.ref e)))) d R := by
  have tp : Tups H (upd H d (.dK (putK (ms.map kvT) (Sum.inl ((n : Nat) : Int)) (.ref e)))) := tups_putD hd
  have up : ∀ {m a}, (∃ S, ExAt H a S ∧ GoodN R m S) → ∃ S, ExAt (upd H d (.dK (putK (ms.map kvT) (Sum.inl ((n : Nat) : Int)) (.ref e)))) a S ∧ GoodN R m S := fun ⟨S, h1, h2⟩ => ⟨S, h1.up tp, h2⟩
  by_cases h : n ∈ ms.map (·.1)
  · refine ⟨ms.map fun x => if x.1 = n then (n, e) else x, ?_, ?_, fun x hx => ?_⟩
    · rw [upd_same]
      unfold putK
      rw [anyT, if_pos (decide_eq_true h), List.map_map, List.map_map]
      congr 2
      refine List.map_congr_left fun x _ => ?_
      show (if (kvT x).1 = Sum.inl ((n : Nat) : Int) then ((kvT x).1, V.ref e) else kvT x) = kvT (if x.1 = n then (n, e) else x)
      by_cases c : x.1 = n
      · rw [if_pos (show (kvT x).1 = Sum.inl ((n : Nat) : Int) by rw [← c]; rfl), if_pos c, ← c]
        rfl
      · rw [if_neg (fun z => c (by have z := Sum.inl.inj z; omega)), if_neg c]
    · have e1 : (ms.map fun x => if x.1 = n then (n, e) else x).map (·.1) = ms.map (·.1) := by
        rw [List.map_map]
        refine List.map_congr_left fun x _ => ?_
        show (if x.1 = n then (n, e) else x).1 = x.1
        split
        · rename_i c; exact c.symm
        · rfl
      rw [e1]
      exact nd
    · obtain ⟨y, hy, rfl⟩ := List.mem_map.mp hx
      by_cases c : y.1 = n
      · rw [if_pos c]
        exact ⟨n3, up hE⟩
      · rw [if_neg c]
        exact ⟨(hm y hy).1, up (hm y hy).2⟩
  · refine ⟨ms ++ [(n, e)], ?_, ?_, fun x hx => ?_⟩
    · rw [upd_same]
      unfold putK
      rw [anyT, if_neg (by simpa using h), List.map_append]
      rfl
    · rw [List.map_append]
      exact List.nodup_append.mpr ⟨nd, by simp, fun x hx y hy z => h (by
        have hy' : y = n := by simpa using hy
        rw [← hy', ← z]; exact hx)⟩
    · rcases List.mem_append.mp hx with z | z
      · exact ⟨(hm x z).1, up (hm x z).2⟩
      · rw [List.mem_singleton.mp z]
        exact ⟨n3, up hE⟩
section
variable {P : Program} {w : World} {K : PySem.W.Frag} {mg : Str → Option Value} {base : Heap} {C : Addr}
abbrev nExpr : List Str := ["self", "name", "knot", "one"]
theorem scExpr : FnScope nExpr ["self", "name"] (defScope sExpr) := ⟨rfl, rfl, rfl, by decide +kernel, rfl, by decide +kernel, by decide +kernel⟩
theorem d_expr0 (S0 : SrcM K C "expression" "Downs.expression" sExpr ["self", "name"]) : DfnM P w K mg base C "expression" 6 ["self", "name"] (spExpr C 0) := by
  obtain ⟨f, fd, gf, F, bd⟩ := S0.ex
  refine ⟨f, fd, gf, F.ok scExpr (fun vs H Q E h => ?_) (fun cdv A outer s H vs Q E hr h => ?_), bd⟩
  · obtain ⟨p, rl, dl, R, n, rfl, _⟩ := h
    rfl
  · obtain ⟨p, rl, dl, R, n, rfl, hD, hT, wf, ap, n3, rn, q⟩ := h
    have := rank_pos (R := R) n3
    omega
theorem d_expr1 (r L : Nat) (hL : 5 ≤ L) (S0 : SrcM K C "expression" "Downs.expression" sExpr ["self", "name"]) (T : DTxt K mg C) (B : Blt mg) (D1 : DfnM P w K mg base C "of_knot" L ["self", "name", "knot"] (spKnot C r))
    (D2 : DfnM P w K mg base C "reached" 2 ["self", "name"] (spReached C)) (D3 : Dfn P w K mg base "plain" 5 ["expression"] spPlains) : DfnM P w K mg base C "expression" (L + 1) ["self", "name"] (spExpr C (r + 1)) := by
  obtain ⟨f, fd, gf, F, bd⟩ := S0.ex
  obtain ⟨f1, fd1, m1, G1, b1⟩ := D1.ex
  obtain ⟨f2, fd2, m2, G2, b2⟩ := D2.ex
  obtain ⟨f3, fd3, g3, G3, b3, k3⟩ := D3.ex
  refine ⟨f, fd, gf, F.ok scExpr (fun vs H Q E h => ?_) (fun cdv A outer s H vs Q E hr h => ?_), bd⟩
  · obtain ⟨p, rl, dl, R, n, rfl, _⟩ := h
    rfl
  obtain ⟨p, rl, dl, R, n, rfl, hD, hT, wf, ap, n3, rn, q⟩ := h
  have hr5 : Room 5 _ := hr.mono hL
  have hr2 : Room 2 _ := hr.mono (by omega)
  refine ⟨_, pss_cons (ps_if (pt_cmp (pc_dnotin (hu_of hr) (pv 1) (pe_fld (pv 0) rfl)))
      (pss_cons (ps_setLc (i := 2) (own := [("one", 3)]) (g := gName 3) rfl scExpr.nd rfl rfl (sw_true rfl rfl rfl (by decide +kernel)) (pi_list (pe_meth (pv 0) T.cl m2 G2 hr2 b2 .nil pass0 (pa_cons (pv 1) pa_nil))) (blkOk_by (N := nExpr) (sc := defScope sExpr) (by decide +kernel)) (fun _ _ _ _ _ => pg_name (i := 3) scExpr.nd rfl (Or.inl rfl))
          (fun _ _ _ _ _ => pts_one (pt_cmpR (r := rIn K false) op_in_seq (pv 1) (pe_meth (pv 0) T.cl m2 G2 hr2 b2 .nil pass0 (pa_cons (pv 3) pa_nil)) (by rfl))) (fun _ _ _ _ _ => pv 3))
      (pss_one (ps_dput (hu_of hr) (pe_fld (pv 0) rfl) (pv 1) (pe_call G3 hr5 (by rfl) g3 k3 b3 .nil pass0 (pa_cons (pe_callTy call_tuple_of (by rfl) B.tuple (by decide +kernel) (pa_cons (pe_meth (pv 0) T.cl m1 G1 hr b1 .nil pass0 (pa_cons (pv 1) (pa_cons (pv 2) pa_nil))) pa_nil)) pa_nil)) rfl))) pss_nil)
    (pss_one (ps_ret (pe_dget (hu_of hr) (pe_fld (pv 0) rfl) (pv 1) (fun _ _ => rfl)))), ?_⟩
  obtain ⟨dx, hp, as, hrl, has⟩ := id hD
  obtain ⟨ms, hdl, nd, hms⟩ := id hT
  have noR : (pf rl dl).lookup ("reached" : Str) = none := pf_no rl dl (by decide +kernel) (by decide +kernel)
  have noK : (pf rl dl).lookup ("of_knot" : Str) = none := pf_no rl dl (by decide +kernel) (by decide +kernel)
  have pd : p ≠ dl := ne_of hp hdl (by intro z; cases z)
  have r3 := rank_le R n
  have k5 : kc R n ≤ 5 := Nat.le_trans (kc_le R n) wf.few
  refine ⟨_, rfl, _, rfl, p, C, dx, _, _, rfl, hp, T.cl, T.nT, pf_told rl dl, dl, _, rfl, DGet.k (k := Sum.inl ((n : Nat) : Int)) hdl, _, rfl, ?_⟩
  cases e : valV (ms.map kvT) (Sum.inl ((n : Nat) : Int)) with
  | some v =>
    obtain ⟨x, hx, e1, rfl⟩ := valT_some e
    obtain ⟨_, S, h1, h2⟩ := hms x hx
    rw [e1] at h2
    refine iteF ⟨_, rfl, p, C, dx, _, _, rfl, hp, T.cl, T.nT, pf_told rl dl, _, rfl, dl, _, rfl, by have z := DGet.k (k := Sum.inl ((n : Nat) : Int)) hdl; rw [e] at z; exact z, ?_⟩
    exact q H x.2 S (Oth.refl dl H) hT h1 h2
  | none =>
    refine iteT ⟨_, rfl, p, dx, _, rfl, hp, noR, _, rfl, p, rl, dl, R, n, rfl, hD, wf, fun H1 y fs s1 ny hy lf hfs => ⟨y, rfl, ⟨_, SqL.of hy⟩, fun D nD => ?_⟩⟩
    refine lc_list (K := K) (a := y) (xs := fs.map nmV) (fun i H' => Same H1 H' ∧ ∃ ks : List Nat, H' D = some (.lst (ks.map nmV)) ∧ (∀ m, m ∈ ks ↔ m ∈ fs.take i ∧ Reach R m n) ∧ ks.length ≤ i) ⟨same_new nD, [], upd_same, fun m => ⟨fun z => (nomatch z), fun z => (nomatch z.1)⟩, Nat.le_refl _⟩ (fun i H' _ z => SqL.of (z.1 _ _ hy)) ?_ ?_
    · rintro i v H2 hi ⟨s2, ks, hD2, hks, lk⟩
      obtain ⟨m, hm, rfl⟩ : ∃ m, fs[i]? = some m ∧ nmV m = v := by
        rw [List.getElem?_map] at hi
        exact Option.map_eq_some_iff.mp hi
      have mt := fun x : Nat => mem_take1 hm (x := x)
      have il : i < fs.length := (List.getElem?_eq_some_iff.mp hm).1
      have s12 := s1.trans s2
      refine ⟨rfl, _, rfl, _, rfl, p, dx, _, rfl, s12 _ _ hp, noR, _, rfl, p, rl, dl, R, m, rfl, hD.same s12, wf, fun H3 y2 gs s3 ny2 hy2 lg hgs => ⟨y2, _, rfl, .inl (SqL.of hy2), rfl, flat_nm _, _, rfl, ?_⟩⟩
      show (if inV (nmV n) (gs.map nmV) = true then _ else _)
      rw [inV_nm]
      have hD3 := s3 _ _ hD2
      by_cases hr' : n ∈ gs
      · rw [decide_eq_true hr']
        refine iteT ⟨_, rfl, _, hD3, by rw [List.length_map]; exact small1000 (by omega), (s2.trans s3).put nD, ks ++ [m], by rw [upd_same, List.map_append]; rfl, fun x => ?_, by rw [List.length_append, List.length_singleton]; omega⟩
        rw [List.mem_append, hks x, mt, List.mem_singleton]
        constructor
        · rintro (⟨h1, h2⟩ | e)
          · exact ⟨.inl h1, h2⟩
          · rw [e]; exact ⟨.inr rfl, (hgs n).mp hr'⟩
        · rintro ⟨h1 | h1, h2⟩
          · exact .inl ⟨h1, h2⟩
          · exact .inr h1
      · rw [decide_eq_false hr']
        refine iteF ⟨s2.trans s3, ks, hD3, fun x => ?_, by omega⟩
        rw [hks x, mt]
        constructor
        · rintro ⟨h1, h2⟩; exact ⟨.inl h1, h2⟩
        · rintro ⟨h1 | h1, h2⟩
          · exact ⟨h1, h2⟩
          · rw [h1] at h2
            exact absurd ((hgs n).mpr h2) hr'
    · rintro H2 ⟨s2, ks, hD2, hks, lk⟩
      rw [List.length_map] at lk
      rw [List.length_map, List.take_length] at hks
      have s12 := s1.trans s2
      have hks' : ∀ m, m ∈ ks ↔ InKnot R n m := fun m => by rw [hks m, hfs m]; exact Iff.rfl
      refine ⟨_, rfl, p, dx, _, rfl, s12 _ _ hp, noK, _, rfl, _, rfl, p, rl, dl, D, R, n, ks, rfl, hD.same s12, hT.up s12.tups fun o e => s12 _ _ e, wf, ap, n3, rn, hD2, hks', by omega, fun H3 yl S s3 hT3 nyl yd hS lS wS eS => ?_⟩
      obtain ⟨bs, hbs, hbx⟩ := id hS
      refine ⟨yl, _, rfl, .inl ⟨SqL.of hbs, fun t ht => ?_⟩⟩
      have s4 : Same H3 (upd H3 t (.tup (bs.map V.ref))) := same_new ht
      have c81 := cnB_top r3 k5
      refine ⟨t, S, rfl, ⟨bs, upd_same, hbx.imp fun _ _ z => z.up s4.tups⟩, by omega, fun pr hpr => ⟨by have := (wS pr hpr).1; have := plB_top r3; omega, (wS pr hpr).2⟩, fun H5 t5 S5 s5 hE5 l5 p5 e5 => ?_⟩
      have good : GoodN R n S5 := ⟨Nat.le_trans l5 lS, fun pr hpr => by
        obtain ⟨r', hr', rfl⟩ := p5 pr hpr
        exact ⟨Nat.le_trans (plainP_len r') (wS r' hr').1, fun a ha => (wS r' hr').2 a (plainP_mem ha)⟩, fun v => (e5 v).trans (eS v)⟩
      have s35 : Same H3 H5 := s4.trans s5
      have o5 : Oth dl H H5 := (s12.oth dl).trans (s3.trans (s35.oth dl))
      have hT5 : TDict H5 dl R := hT3.up s35.tups fun o e => s35 _ _ e
      have hp5 := o5 _ _ pd hp
      obtain ⟨ms5, hdl5, nd5, hms5⟩ := hT5
      have l3 : ms5.length ≤ 3 := by
        have z := nodup3 nd5 fun m hm => by
          obtain ⟨x, hx, rfl⟩ := List.mem_map.mp hm
          exact (hms5 x hx).1
        rw [List.length_map] at z
        exact z
      have hT6 := TDict.put (e := t5) (n := n) hdl5 nd5 hms5 n3 ⟨S5, hE5, good⟩
      refine ⟨_, rfl, p, C, dx, _, _, rfl, hp5, T.cl, T.nT, pf_told rl dl, _, rfl, dl, _, rfl, DPut.k (k := Sum.inl ((n : Nat) : Int)) hdl5 (by rw [List.length_map]; exact small1000 (by omega)), ?_⟩
      have tp : Tups H5 (upd H5 dl (.dK (putK (ms5.map kvT) (Sum.inl ((n : Nat) : Int)) (.ref t5)))) := tups_putD hdl5
      have hp6 : (upd H5 dl (.dK (putK (ms5.map kvT) (Sum.inl ((n : Nat) : Int)) (.ref t5)))) p = some (.ins C dx (pf rl dl)) := by rw [upd_ne pd]; exact hp5
      refine ⟨_, rfl, p, C, dx, _, _, rfl, hp6, T.cl, T.nT, pf_told rl dl, _, rfl, dl, .ref t5, rfl, ?_, ?_⟩
      · have z := DGet.k (k := Sum.inl ((n : Nat) : Int)) (show (upd H5 dl (.dK (putK (ms5.map kvT) (Sum.inl ((n : Nat) : Int)) (.ref t5)))) dl = some (.dK (putK (ms5.map kvT) (Sum.inl ((n : Nat) : Int)) (.ref t5))) from upd_same)
        rw [valV_put, if_pos rfl] at z
        exact z
      · exact q _ t5 S5 o5.own hT6 (hE5.up tp) good
/-- the expression of a name, all the way down -/
theorem d_expr (S0 : SrcM K C "expression" "Downs.expression" sExpr ["self", "name"]) (S1 : SrcM K C "of_body" "Downs.of_body" sOfBody ["self", "body"]) (S2 : SrcM K C "of_knot" "Downs.of_knot" sKnot ["self", "name", "knot"]) (T : DTxt K mg C) (B : Blt mg)
    (D2 : DfnM P w K mg base C "reached" 2 ["self", "name"] (spReached C)) (D3 : Dfn P w K mg base "plain" 5 ["expression"] spPlains) (D4 : DfnM P w K mg base C "letters" 3 ["self", "things"] (spLetters C)) (D5 : Dfn P w K mg base "any_of" 1 ["letters"] spAnyOf) :
    DfnM P w K mg base C "expression" 15 ["self", "name"] (spExpr C 3) := by
  have step : ∀ r L, 6 ≤ L → DfnM P w K mg base C "expression" L ["self", "name"] (spExpr C r) → DfnM P w K mg base C "expression" (L + 3) ["self", "name"] (spExpr C (r + 1)) := fun r L hL E =>
    d_expr1 r (L + 2) (by omega) S0 T B (d_knot r (L + 1) (by omega) S2 T B (d_ofBody r L S1 T B E) D4 D5) D2 D3
  exact step 2 12 (by decide) (step 1 9 (by decide) (step 0 6 (by decide) (d_expr0 S0)))
/-! ### down_of -/
def spDownOf : Sp := fun vs H Q _ => ∃ (g : Addr) (N : Nat) (R : Rules), vs = [.ref g] ∧ GramAt H g N R ∧ WFG R ∧
  ∀ H' e S, Same H H' → ExAt H' e S → S.length ≤ 81 → (∀ p ∈ S, p.length ≤ 35 ∧ WFP p) → (∀ v, Words S v ↔ Dn R [.nm 0] v) → Q (.ref e) H'
theorem scDownOf : FnScope ["grammar"] ["grammar"] (defScope sDownOf) := ⟨rfl, rfl, rfl, by decide +kernel, rfl, by decide +kernel, by decide +kernel⟩
theorem d_downOf (S0 : Src K mg "down_of" sDownOf ["grammar"]) (T : DTxt K mg C) (hmk : PySem.W.makesIn K C = true) (D1 : DfnM P w K mg base C "__init__" 3 ["self", "grammar"] (spInit C)) (D2 : DfnM P w K mg base C "expression" 15 ["self", "name"] (spExpr C 3)) :
    Dfn P w K mg base "down_of" 16 ["grammar"] spDownOf := by
  obtain ⟨f, fd, gf, F, bd⟩ := S0.ex
  obtain ⟨f1, fd1, m1, G1, b1⟩ := D1.ex
  obtain ⟨f2, fd2, m2, G2, b2⟩ := D2.ex
  refine ⟨f, fd, gf, F.ok scDownOf (fun vs H Q E h => ?_) (fun cdv A outer s H vs Q E hr h => ?_), bd, F.kp⟩
  · obtain ⟨g, N, R, rfl, _⟩ := h
    rfl
  obtain ⟨g, N, R, rfl, hG, wf, q⟩ := h
  have M : Mk K C f1 := ⟨hmk, m1.at_, m1.fn, T.kp⟩
  have hr4 : Room (3 + 1) _ := hr.mono (by decide)
  refine ⟨_, pss_one (ps_ret (pe_meth (pe_make M G1 hr4 (by rfl) T.mgC b1 .nil pass0 (pa_cons (pv 0) pa_nil)) T.cl m2 G2 hr b2 .nil pass0 (pa_cons pe_int pa_nil))), ?_⟩
  refine ⟨_, rfl, fun x dx nx ndx nex => ?_⟩
  have s0 : Same H (upd (upd H dx (.own x)) x (.ins C dx [])) := fun b o e => by
    rw [upd_ne (ne_of_none e nx), upd_ne (ne_of_none e ndx)]
    exact e
  refine ⟨H, x, g, dx, N, R, rfl, s0, nx, upd_same, hG, wf, fun H1 rl dl Fn s1 hF hD hT dl0 => ⟨rfl, ?_⟩⟩
  obtain ⟨dx1, hp1, hrr⟩ := id hD
  refine ⟨x, dx1, _, rfl, hp1, pf_no rl dl (by decide +kernel) (by decide +kernel), x, rl, dl, goodRules R Fn, 0, rfl, hD, ⟨[], hT, List.nodup_nil, fun _ z => nomatch z⟩, wf.good Fn, good_all hF, by decide, rank_le _ _, fun H2 e S o2 hT2 hE hg => ?_⟩
  have k5 : kc (goodRules R Fn) 0 ≤ 5 := Nat.le_trans (kc_le _ _) (wf.good Fn).few
  refine q H2 e S (fun b o z => ?_) hE (Nat.le_trans hg.cn (cnB_top (rank_le _ _) k5)) (fun p hp => ⟨Nat.le_trans (hg.wf p hp).1 (plB_top (rank_le _ _)), (hg.wf p hp).2⟩) fun v => (hg.words v).trans (good_dn hF)
  exact o2 b o (ne_of_none z dl0) (s1 b o z)
end
end Wk

/-! W15: trees in the heap, size_of, by_thing. -/
namespace Wk
open PySem hiding Tree
open L2 KX K55
mutual
inductive TreeAt (H : Hp) : Addr → Tree → Prop
  | nd {a k : Addr} {as : List Addr} {r : Nat} {ks : List Tree} : H a = some (.tup [.int (r : Nat), .ref k]) → H k = some (.tup (as.map V.ref)) → TreesAt H as ks → TreeAt H a (.nd r ks)
inductive TreesAt (H : Hp) : List Addr → List Tree → Prop
  | nil : TreesAt H [] []
  | cons {a : Addr} {as : List Addr} {t : Tree} {ts : List Tree} : TreeAt H a t → TreesAt H as ts → TreesAt H (a :: as) (t :: ts)
end
mutual
theorem TreeAt.up {H H' : Hp} (g : Tups H H') : ∀ {a : Addr} {t : Tree}, TreeAt H a t → TreeAt H' a t
  | _, _, .nd h1 h2 h3 => .nd (g _ _ h1) (g _ _ h2) (TreesAt.up g h3)
theorem TreesAt.up {H H' : Hp} (g : Tups H H') : ∀ {as : List Addr} {ts : List Tree}, TreesAt H as ts → TreesAt H' as ts
  | _, _, .nil => .nil
  | _, _, .cons h1 h2 => .cons (TreeAt.up g h1) (TreesAt.up g h2)
end
theorem TreesAt.append {H : Hp} : ∀ {as bs : List Addr} {ts us : List Tree}, TreesAt H as ts → TreesAt H bs us → TreesAt H (as ++ bs) (ts ++ us)
  | _, _, _, _, .nil, k => k
  | _, _, _, _, .cons a r, k => .cons a (r.append k)
theorem TreesAt.len {H : Hp} : ∀ {as : List Addr} {ts : List Tree}, TreesAt H as ts → as.length = ts.length
  | _, _, .nil => rfl
  | _, _, .cons _ r => by rw [List.length_cons, List.length_cons, r.len]
theorem TreesAt.snoc {H : Hp} : ∀ {as : List Addr} {ts : List Tree} {a : Addr}, TreesAt H (as ++ [a]) ts → ∃ ts' t, ts = ts' ++ [t] ∧ TreesAt H as ts' ∧ TreeAt H a t
  | [], _, _, .cons h .nil => ⟨[], _, rfl, .nil, h⟩
  | _ :: _, _, _, .cons h r => by
    obtain ⟨ts', t, rfl, h1, h2⟩ := r.snoc
    exact ⟨_ :: ts', t, rfl, .cons h h1, h2⟩
theorem TreesAt.get {H : Hp} : ∀ {as : List Addr} {ts : List Tree} {i : Nat} {a : Addr}, TreesAt H as ts → as[i]? = some a → ∃ t, ts[i]? = some t ∧ TreeAt H a t
  | _, _, i, _, .nil, e => by simp at e
  | _, _, 0, _, .cons h _, e => by cases e; exact ⟨_, rfl, h⟩
  | _, _, i + 1, _, .cons _ r, e => r.get (by simpa using e)
theorem sizes_len : ∀ ts : List Tree, ts.length ≤ sizes ts
  | [] => Nat.zero_le _
  | t :: ts => by rw [List.length_cons, sizes_cons]; have := size_pos t; have := sizes_len ts; omega
section
variable {P : Program} {w : World} {K : PySem.W.Frag} {mg : Str → Option Value} {base : Heap}
/-! ### size_of -/
def spSize : Sp := fun vs H Q _ => ∃ (a : Addr) (t : Tree), vs = [.ref a] ∧ TreeAt H a t ∧ t.size ≤ 1000 ∧ ∀ H', Same H H' → Q (.int (t.size : Nat)) H'
abbrev nSize : List Str := ["tree", "many", "left", "here"]
theorem scSize : FnScope nSize ["tree"] (defScope sSize) := ⟨rfl, rfl, rfl, by decide +kernel, rfl, by decide +kernel, by decide +kernel⟩
theorem d_size (S0 : Src K mg "size_of" sSize ["tree"]) (B : Blt mg) : Dfn P w K mg base "size_of" 1 ["tree"] spSize := by
  obtain ⟨f, fd, gf, F, bd⟩ := S0.ex
  refine ⟨f, fd, gf, F.ok scSize (fun vs H Q E h => ?_) (fun cdv A outer s H vs Q E hr h => ?_), bd, F.kp⟩
  · obtain ⟨a, t, rfl, _⟩ := h
    rfl
  obtain ⟨a, t, rfl, ha, hz, q⟩ := h
  refine ⟨_, pss_cons (ps_set (i := 1) scSize.nd rfl (.inl rfl) pe_int) (pss_cons (ps_set (i := 2) scSize.nd rfl (.inl rfl) (pe_lst (pa_cons (pv 0) pa_nil)))
    (pss_cons (ps_while PassesOwn.never (pt_cmpR op_gt (pe_callB call_len_seq (by rfl) B.len PySem.boot_len (pa_cons (pv 2) pa_nil)) pe_int (nomark _))
      (pss_cons (ps_set (i := 3) scSize.nd rfl (.inl rfl) (pe_bm0 PySem.F.plainAttrs_list PySem.F.slot_list_pop PySem.F.type_list_pop mt_pop (pv 2)))
      (pss_cons (ps_set (i := 1) scSize.nd rfl (.inl rfl) (pe_op op_add (pv 1) pe_int))
      (pss_one (ps_expr (pe_bm PySem.F.plainAttrs_list PySem.F.slot_list_extend PySem.F.type_list_extend mt_extend (pv 2)
        (pa_cons (pe_callTy call_list_of (by rfl) B.list (by decide +kernel) (pa_cons (pe_ix ix_tup (pv 3) pe_int (fun _ _ => rfl)) pa_nil)) pa_nil)))))))
    (pss_one (ps_ret (pv 1))))), ?_⟩
  refine ⟨_, rfl, (by show 1 ≤ sizeLine; decide), fun l nl => ?_⟩
  have s1 : Same H (upd H l (.lst [.ref a])) := same_new nl
  refine ⟨fun m σ H' => ∃ (as : List Addr) (ts : List Tree) (n : Nat) (x3 : Option V), m = sizes ts ∧ σ = [some (.ref a), some (.int (n : Nat)), some (.ref l), x3] ∧ Same H H' ∧ H' l = some (.lst (as.map V.ref)) ∧ TreesAt H' as ts ∧ n + sizes ts = t.size,
    ⟨_, [a], [t], 0, none, rfl, rfl, s1, upd_same, .cons (ha.up s1.tups) .nil, by rw [sizes_cons, sizes_nil]; omega⟩, ?_⟩
  rintro m σ H1 ⟨as, ts, n, x3, rfl, rfl, s2, hl, hts, sum⟩
  refine ⟨_, rfl, l, _, rfl, .inl (SqL.of hl), _, _, rfl, rfl, _, rfl, ?_⟩
  rw [List.length_map]
  rcases List.eq_nil_or_concat as with e | ⟨as0, b, e⟩
  · subst e
    cases hts
    rw [sizes_nil, Nat.add_zero] at sum
    refine iteF ⟨_, rfl, ?_⟩
    rw [sum]
    exact q H1 s2
  · have e : as = as0 ++ [b] := e.trans (by rw [List.concat_eq_append])
    subst e
    obtain ⟨ts0, u, rfl, h1, h2⟩ := hts.snoc
    have gt : decide ((0 : Int) < (((as0 ++ [b]).length : Nat) : Int)) = true := decide_eq_true (by rw [List.length_append, List.length_singleton]; omega)
    show (if decide ((0 : Int) < (((as0 ++ [b]).length : Nat) : Int)) = true then _ else _)
    rw [gt]
    refine iteT ⟨_, fun _ _ z => z, ?_⟩
    rw [List.map_append] at hl
    have hl : H1 l = some (.lst (as0.map V.ref ++ [.ref b])) := hl
    refine ⟨_, rfl, .inl ⟨rfl, _, SqL.of hl⟩, l, _, .ref b, rfl, rfl, hl, ?_, ?_⟩
    · rw [List.length_append, List.length_singleton, Nat.add_sub_cancel, List.getElem?_append_right (Nat.le_refl _), Nat.sub_self]
      rfl
    rw [List.dropLast_concat]
    have tp := tups_put (o := .lst (as0.map V.ref)) hl
    cases h2 with
    | @nd _ k bs r ks e1 e2 e3 =>
      refine ⟨_, rfl, _, _, rfl, rfl, ?_⟩
      have hl2 : (upd H1 l (.lst (as0.map V.ref))) l = some (.lst (as0.map V.ref)) := upd_same
      refine ⟨_, rfl, .inl ⟨rfl, _, SqL.of hl2⟩, _, rfl, b, _, 1, _, rfl, rfl, SqT.of (tp _ _ e1), atI_nat (j := 1) rfl, k, _, rfl, .inr (SqT.of (tp _ _ e2)), fun y ny => ?_⟩
      have ly : l ≠ y := ne_of_none hl2 ny
      have hl3 : (upd (upd H1 l (.lst (as0.map V.ref))) y (.lst (bs.map V.ref))) l = some (.lst (as0.map V.ref)) := by rw [upd_ne ly]; exact hl2
      have tp3 := tups_put (o := .lst (as0.map V.ref ++ bs.map V.ref)) hl3
      rw [sizes_append, sizes_cons, sizes_nil, size_nd] at sum
      have tall : Tups H1 (upd (upd (upd H1 l (.lst (as0.map V.ref))) y (.lst (bs.map V.ref))) l (.lst (as0.map V.ref ++ bs.map V.ref))) := tp.trans ((tups_new ny).trans tp3)
      refine ⟨l, y, _, _, rfl, rfl, hl3, upd_same, ?_, ?_⟩
      · rw [List.length_map, List.length_map, h1.len, e3.len]
        have := sizes_len ts0
        have := sizes_len ks
        exact Nat.le_of_lt (small1000 (by omega))
      · refine ⟨sizes (ts0 ++ ks), ?_, as0 ++ bs, ts0 ++ ks, n + 1, _, rfl, rfl, ((s2.put nl).new ny).put nl, by rw [upd_same, List.map_append], (h1.append e3).up tall, ?_⟩
        · rw [sizes_append, sizes_append, sizes_cons, sizes_nil, size_nd]
          omega
        · rw [sizes_append]
          omega
/-! ### the table in the heap -/
def ky (n p q : Nat) : List Key := [.inl (n : Nat), .inl (p : Nat), .inl (q : Nat)]
theorem ky_inj {n p q n' p' q' : Nat} (h : ky n p q = ky n' p' q') : n = n' ∧ p = p' ∧ q = q' := by
  unfold ky at h
  injection h with h1 h
  injection h with h2 h
  injection h with h3 _
  have h1 := Sum.inl.inj h1
  have h2 := Sum.inl.inj h2
  have h3 := Sum.inl.inj h3
  exact ⟨by omega, by omega, by omega⟩
def rowT (x : (Nat × Nat × Nat) × Addr) : List Key × V := (ky x.1.1 x.1.2.1 x.1.2.2, .ref x.2)
/-- the table T stands at d -/
structure TabAt (H : Hp) (d : Addr) (m : Nat) (T : Tab) : Prop where
  ex : ∃ rows : List ((Nat × Nat × Nat) × Addr), H d = some (.dT (rows.map rowT)) ∧ (rows.map (·.1)).Nodup ∧ (∀ x ∈ rows, x.1 ∈ allKeys m) ∧
    ∀ n p q, (T n p q = none ∧ valV (rows.map rowT) (ky n p q) = none) ∨ ∃ t a, T n p q = some t ∧ valV (rows.map rowT) (ky n p q) = some (.ref a) ∧ TreeAt H a t
theorem TabAt.up {H H' : Hp} {d m : Nat} {T : Tab} (x : TabAt H d m T) (g : Tups H H') (e : ∀ o, H d = some o → H' d = some o) : TabAt H' d m T := by
  obtain ⟨rows, h1, h2, h3, h4⟩ := x.ex
  refine ⟨rows, e _ h1, h2, h3, fun n p q => ?_⟩
  rcases h4 n p q with h | ⟨t, a, e1, e2, e3⟩
  · exact .inl h
  · exact .inr ⟨t, a, e1, e2, e3.up g⟩
theorem TabAt.same {H H' : Hp} {d m : Nat} {T : Tab} (x : TabAt H d m T) (g : Same H H') : TabAt H' d m T := x.up g.tups fun o e => g _ _ e
/-! ### by_thing -/
/-- a pair (after, kids) at r -/
def ResAt (H : Hp) (r : Addr) (x : Nat × List Tree) : Prop := ∃ (kt : Addr) (as : List Addr), H r = some (.tup [.int (x.1 : Nat), .ref kt]) ∧ H kt = some (.tup (as.map V.ref)) ∧ TreesAt H as x.2
theorem ResAt.up {H H' : Hp} {r : Addr} {x : Nat × List Tree} (h : ResAt H r x) (g : Tups H H') : ResAt H' r x := by
  obtain ⟨kt, as, e1, e2, e3⟩ := h
  exact ⟨kt, as, g _ _ e1, g _ _ e2, e3.up g⟩
def ResL (H : Hp) (y : Addr) (L : List (Nat × List Tree)) : Prop := ∃ rs : List Addr, H y = some (.lst (rs.map V.ref)) ∧ All2 (ResAt H) rs L
theorem cut_sign (wd : List Nat) (p : Nat) (i j : Int) (hi : i = (p : Nat)) (hj : j = ((p + 1 : Nat) : Int)) : cutS (tx wd) (some i) (some j) = tx (wd[p]?.toList) := by
  subst hi hj
  unfold cutS
  rw [HT.sIx_nat, HT.sIx_nat, tx_len, tx_list]
  unfold tx
  congr 2
  rcases Nat.lt_or_ge p wd.length with lt | ge
  · rw [show min p wd.length = p by omega, show min (p + 1) wd.length = p + 1 by omega, show p + 1 - p = 1 by omega, List.drop_eq_getElem_cons lt, List.getElem?_eq_getElem lt]
    rfl
  · rw [show min p wd.length = wd.length by omega, show min (p + 1) wd.length = wd.length by omega, Nat.sub_self, List.getElem?_eq_none ge]
    rfl
theorem rd_lt {wd : List Nat} {T : Tab} {c p q : Nat} {ks : List Tree} (hp : p ≤ wd.length) : Rd wd T [.lt c] p q ks ↔ ks = [] ∧ (q = p ∨ (q = p + 1 ∧ wd[p]? = some c)) := by
  constructor
  · intro h
    cases h with
    | skip h => cases h; exact ⟨rfl, .inl rfl⟩
    | take e h => cases h; exact ⟨rfl, .inr ⟨rfl, e⟩⟩
  · rintro ⟨rfl, rfl | ⟨rfl, e⟩⟩
    · exact .skip (.nil hp)
    · exact .take e (.nil (List.getElem?_eq_some_iff.mp e).1)
theorem rd_nm {wd : List Nat} {T : Tab} {n p q : Nat} {ks : List Tree} : Rd wd T [.nm n] p q ks ↔ ∃ t, ks = [t] ∧ T n p q = some t ∧ p ≤ q ∧ q ≤ wd.length := by
  constructor
  · intro h
    cases h with
    | name e le h => cases h with
      | nil h => exact ⟨_, rfl, e, le, h⟩
  · rintro ⟨t, rfl, e, le, h⟩
    exact .name e le (.nil h)
def spByThing : Sp := fun vs H Q _ => ∃ (t : Thing) (wd : List Nat) (p : Nat) (d m : Addr) (T : Tab), vs = [thV t, .str (tx wd), .int (p : Nat), .ref d] ∧ TabAt H d m T ∧ wd.length ≤ 6 ∧ p ≤ wd.length ∧
  ∀ H' y L, Same H H' → H y = none → ResL H' y L → L.length ≤ 10 → (∀ q ks, (q, ks) ∈ L ↔ Rd wd T [t] p q ks) → Q (.ref y) H'
abbrev nByThing : List Str := ["thing", "word", "place", "trees", "found", "after"]
theorem scByThing : FnScope nByThing ["thing", "word", "place", "trees"] (defScope sByThing) := ⟨rfl, rfl, rfl, by decide +kernel, rfl, by decide +kernel, by decide +kernel⟩
theorem d_byThing (S0 : Src K mg "by_thing" sByThing ["thing", "word", "place", "trees"]) (B : Blt mg) : Dfn P w K mg base "by_thing" 1 ["thing", "word", "place", "trees"] spByThing := by
  obtain ⟨f, fd, gf, F, bd⟩ := S0.ex
  refine ⟨f, fd, gf, F.ok scByThing (fun vs H Q E h => ?_) (fun cdv A outer s H vs Q E hr h => ?_), bd, F.kp⟩
  · obtain ⟨t, wd, p, d, m, T, rfl, _⟩ := h
    rfl
  obtain ⟨t, wd, p, d, m, T, rfl, hT, hw, hp, q⟩ := h
  refine ⟨_, pss_cons (ps_if (pt_val (pe_isS (by rfl) (by rfl) B.isi B.str (pv 0)))
      (pss_cons (ps_set (i := 4) scByThing.nd rfl (.inl rfl) (pe_lst (pa_cons (pe_tup (pa_cons (pv 2) (pa_cons (pe_tup pa_nil) pa_nil))) pa_nil)))
      (pss_cons (ps_if (pt_cmpR op_eq (pe_slice sl_str (pv 1) (po_some (pv 2)) (po_some (pe_op op_add (pv 2) pe_int))) (pv 0) (nomark _))
        (pss_one (ps_expr (pe_bm PySem.F.plainAttrs_list PySem.F.slot_list_append PySem.F.type_list_append mt_append (pv 4) (pa_cons (pe_tup (pa_cons (pe_op op_add (pv 2) pe_int) (pa_cons (pe_tup pa_nil) pa_nil))) pa_nil)))) pss_nil)
      (pss_one (ps_ret (pv 4))))) pss_nil)
    (pss_cons (ps_set (i := 4) scByThing.nd rfl (.inl rfl) (pe_lst pa_nil))
    (pss_cons (ps_for PassesOwn.never rfl (pi_range2 rfl B.range (pa_cons (pv 2) (pa_cons (pe_op op_add (pe_callB call_len_str (by rfl) B.len PySem.boot_len (pa_cons (pv 1) pa_nil)) pe_int) pa_nil))) (pg_name (i := 5) scByThing.nd rfl (.inl rfl))
      (pss_one (ps_if (pt_cmp (pc_din (hu_of hr) (pe_tup (pa_cons (pv 0) (pa_cons (pv 2) (pa_cons (pv 5) pa_nil)))) (pv 3)))
        (pss_one (ps_expr (pe_bm PySem.F.plainAttrs_list PySem.F.slot_list_append PySem.F.type_list_append mt_append (pv 4)
          (pa_cons (pe_tup (pa_cons (pv 5) (pa_cons (pe_tup (pa_cons (pe_dget (hu_of hr) (pv 3) (pe_tup (pa_cons (pv 0) (pa_cons (pv 2) (pa_cons (pv 5) pa_nil)))) (fun _ _ => rfl)) pa_nil)) pa_nil))) pa_nil)))) pss_nil)))
    (pss_one (ps_ret (pv 4))))), ?_⟩
  refine ⟨_, rfl, _, rfl, th_isS t, _, rfl, ?_⟩
  rw [th_S]
  cases t with
  | lt c =>
    refine iteT ⟨_, rfl, Nat.zero_le _, fun u nu => ⟨(by show 2 ≤ sizeLine; decide), fun r nr => ⟨(by show 1 ≤ sizeLine; decide), fun y ny => ?_⟩⟩⟩
    have e1 : (upd (upd (upd H u (.tup [])) r (.tup [.int (p : Nat), .ref u])) y (.lst [.ref r])) u = some (.tup []) := by
      rw [upd_ne (ne_of_none (by rw [upd_ne (ne_of_none upd_same nr), upd_same]) ny), upd_ne (ne_of_none upd_same nr), upd_same]
    have e2 : (upd (upd (upd H u (.tup [])) r (.tup [.int (p : Nat), .ref u])) y (.lst [.ref r])) r = some (.tup [.int (p : Nat), .ref u]) := by rw [upd_ne (ne_of_none upd_same ny), upd_same]
    have e3 : (upd (upd (upd H u (.tup [])) r (.tup [.int (p : Nat), .ref u])) y (.lst [.ref r])) y = some (.lst [.ref r]) := upd_same
    have s1 : Same H (upd (upd (upd H u (.tup [])) r (.tup [.int (p : Nat), .ref u])) y (.lst [.ref r])) := ((same_new nu).new nr).new ny
    have y0 : H y = none := ((same_new nu).new nr).free ny
    generalize upd (upd (upd H u (.tup [])) r (.tup [.int (p : Nat), .ref u])) y (.lst [.ref r]) = H1 at e1 e2 e3 s1
    have r1 : ResAt H1 r (p, []) := ⟨u, [], e2, e1, .nil⟩
    refine ⟨_, rfl, _, rfl, _, rfl, _, rfl, _, _, rfl, rfl, _, rfl, _, rfl, by rw [tx_len]; exact Nat.le_of_lt (small1000 (by omega)), _, rfl, rfl, _, rfl, ?_⟩
    rw [cut_sign wd p _ _ rfl (by omega)]
    by_cases hc : wd[p]? = some c
    · have ed : decide (V.str (tx (wd[p]?.toList)) = thV (.lt c)) = true := decide_eq_true (by rw [hc]; rfl)
      rw [ed]
      refine iteT ⟨_, rfl, .inl ⟨rfl, _, SqL.of e3⟩, _, rfl, _, _, rfl, rfl, Nat.zero_le _, fun u2 nu2 => ⟨(by show 2 ≤ sizeLine; decide), fun r2 nr2 => ?_⟩⟩
      have s2 : Same H1 (upd (upd H1 u2 (.tup [])) r2 (.tup [.int (((p : Nat) : Int) + 1), .ref u2])) := (same_new nu2).new nr2
      have e4 := s2 _ _ e3
      have e5 : (upd (upd H1 u2 (.tup [])) r2 (.tup [.int (((p : Nat) : Int) + 1), .ref u2])) u2 = some (.tup []) := by rw [upd_ne (ne_of_none upd_same nr2), upd_same]
      have tp := tups_put (o := .lst ([.ref r] ++ [.ref r2])) e4
      have r2' : ResAt (upd (upd (upd H1 u2 (.tup [])) r2 (.tup [.int (((p : Nat) : Int) + 1), .ref u2])) y (.lst ([.ref r] ++ [.ref r2]))) r2 (p + 1, []) := ⟨u2, [], tp _ _ upd_same, tp _ _ e5, .nil⟩
      refine ⟨y, _, _, rfl, rfl, e4, (by show 1 < sizeLine; decide), ?_⟩
      refine ⟨_, rfl, q _ y [(p, []), (p + 1, [])] ((s1.trans s2).put y0) y0 ⟨[r, r2], by rw [upd_same]; rfl, (r1.up s2.tups).up tp, r2', trivial⟩ (by show 2 ≤ 10; decide) fun q' ks => ?_⟩
      rw [rd_lt hp]
      constructor
      · intro h
        rcases List.mem_cons.mp h with z | z
        · cases z; exact ⟨rfl, .inl rfl⟩
        · cases List.mem_singleton.mp z; exact ⟨rfl, .inr ⟨rfl, hc⟩⟩
      · rintro ⟨rfl, rfl | ⟨rfl, _⟩⟩
        · exact List.mem_cons_self
        · exact List.mem_cons_of_mem _ (List.mem_singleton.mpr rfl)
    · have ed : decide (V.str (tx (wd[p]?.toList)) = thV (.lt c)) = false := decide_eq_false fun z => hc (by
        have z2 : wd[p]?.toList = [c] := tx_inj (V.str.inj z)
        cases e : wd[p]? with
        | none => rw [e] at z2; cases z2
        | some x => rw [e] at z2; injection z2 with z2; rw [z2])
      rw [ed]
      refine iteF ⟨_, rfl, q _ y [(p, [])] s1 y0 ⟨[r], e3, r1, trivial⟩ (by show 1 ≤ 10; decide) fun q' ks => ?_⟩
      rw [rd_lt hp]
      constructor
      · intro h
        cases List.mem_singleton.mp h
        exact ⟨rfl, .inl rfl⟩
      · rintro ⟨rfl, rfl | ⟨_, h⟩⟩
        · exact List.mem_singleton.mpr rfl
        · exact absurd h hc
  | nm n =>
    refine iteF ⟨Nat.zero_le _, fun y ny => ?_⟩
    have s1 : Same H (upd H y (.lst [])) := same_new ny
    obtain ⟨rows, hd, _⟩ := hT.ex
    refine ⟨_, rfl, _, rfl, _, rfl, by rw [tx_len]; exact Nat.le_of_lt (small1000 (by omega)), _, _, rfl, rfl, (p : Nat), _, rfl, ⟨by omega, by omega, by rw [tx_len]; omega, by rw [tx_len]; omega⟩, ?_⟩
    rw [tx_len]
    have en : (((wd.length : Nat) : Int) + 1 - ((p : Nat) : Int)).toNat = wd.length + 1 - p := by omega
    rw [en]
    refine for_range (lo := ((p : Nat) : Int)) (n := wd.length + 1 - p) (fun i σ H' => ∃ (L : List (Nat × List Tree)) (x5 : Option V), σ = [some (thV (.nm n)), some (.str (tx wd)), some (.int (p : Nat)), some (.ref d), some (.ref y), x5] ∧ Same H H' ∧ ResL H' y L ∧ L.length ≤ i ∧
        ∀ q' ks, (q', ks) ∈ L ↔ ∃ j, j < i ∧ ∃ t, q' = p + j ∧ ks = [t] ∧ T n p q' = some t)
      ⟨[], none, rfl, s1, ⟨[], upd_same, trivial⟩, Nat.le_refl _, fun q' ks => ⟨fun z => (nomatch z), fun ⟨j, z, _⟩ => absurd z (Nat.not_lt_zero j)⟩⟩ ?_ ?_
    · rintro i σ H1 hi ⟨L, x5, rfl, s2, ⟨rs, hy, hrs⟩, lL, eL⟩
      have ei : ((p : Nat) : Int) + ((i : Nat) : Int) = ((p + i : Nat) : Int) := by omega
      show (gName 5) (.int (((p : Nat) : Int) + ((i : Nat) : Int))) _ H1 _
      rw [ei]
      have hT1 := hT.same s2
      obtain ⟨rows, hd1, nd, hall, hv⟩ := hT1.ex
      refine ⟨_, rfl, _, rfl, _, rfl, (by show 3 ≤ sizeLine; decide), fun b nb => ?_⟩
      have db : d ≠ b := ne_of_none hd1 nb
      have yb : y ≠ b := ne_of_none hy nb
      have s3 : Same H1 (upd H1 b (.tup [thV (.nm n), .int (p : Nat), .int ((p + i : Nat) : Int)])) := same_new nb
      have hd2 := s3 _ _ hd1
      refine ⟨_, rfl, d, _, rfl, DGet.t (k := ky n p (p + i)) hd2 upd_same, _, rfl, ?_⟩
      rcases hv n p (p + i) with ⟨e1, e2⟩ | ⟨t, a, e1, e2, e3⟩
      · rw [e2]
        refine iteF ⟨L, _, rfl, s2.trans s3, ⟨rs, s3 _ _ hy, hrs.imp fun _ _ z => z.up s3.tups⟩, by omega, fun q' ks => ?_⟩
        rw [eL]
        constructor
        · rintro ⟨j, h1, h2⟩; exact ⟨j, by omega, h2⟩
        · rintro ⟨j, h1, t, h2, h3, h4⟩
          rcases Nat.lt_or_ge j i with z | z
          · exact ⟨j, z, t, h2, h3, h4⟩
          · have : j = i := by omega
            subst this
            rw [h2, e1] at h4
            cases h4
      · rw [e2]
        refine iteT ⟨_, rfl, .inl ⟨rfl, _, SqL.of (s3 _ _ hy)⟩, _, rfl, _, rfl, _, rfl, _, rfl, _, rfl, (by show 3 ≤ sizeLine; decide), fun b2 nb2 => ?_⟩
        have s4 : Same (upd H1 b (.tup [thV (.nm n), .int (p : Nat), .int ((p + i : Nat) : Int)])) (upd (upd H1 b (.tup [thV (.nm n), .int (p : Nat), .int ((p + i : Nat) : Int)])) b2 (.tup [thV (.nm n), .int (p : Nat), .int ((p + i : Nat) : Int)])) := same_new nb2
        have hd3 := s4 _ _ hd2
        refine ⟨d, .ref a, rfl, by rw [← e2]; exact DGet.t (k := ky n p (p + i)) hd3 upd_same, (by show 1 ≤ sizeLine; decide), fun kt nkt => ⟨(by show 2 ≤ sizeLine; decide), fun r nr => ?_⟩⟩
        have s34 : Same H1 (upd (upd (upd (upd H1 b (.tup [thV (.nm n), .int (p : Nat), .int ((p + i : Nat) : Int)])) b2 (.tup [thV (.nm n), .int (p : Nat), .int ((p + i : Nat) : Int)])) kt (.tup [.ref a])) r (.tup [.int ((p + i : Nat) : Int), .ref kt])) := ((s3.trans s4).new nkt).new nr
        have hy4 := s34 _ _ hy
        have e6 : (upd (upd (upd (upd H1 b (.tup [thV (.nm n), .int (p : Nat), .int ((p + i : Nat) : Int)])) b2 (.tup [thV (.nm n), .int (p : Nat), .int ((p + i : Nat) : Int)])) kt (.tup [.ref a])) r (.tup [.int ((p + i : Nat) : Int), .ref kt])) kt = some (.tup [.ref a]) := by rw [upd_ne (ne_of_none upd_same nr), upd_same]
        have e7 : (upd (upd (upd (upd H1 b (.tup [thV (.nm n), .int (p : Nat), .int ((p + i : Nat) : Int)])) b2 (.tup [thV (.nm n), .int (p : Nat), .int ((p + i : Nat) : Int)])) kt (.tup [.ref a])) r (.tup [.int ((p + i : Nat) : Int), .ref kt])) r = some (.tup [.int ((p + i : Nat) : Int), .ref kt]) := upd_same
        generalize upd (upd (upd (upd H1 b (.tup [thV (.nm n), .int (p : Nat), .int ((p + i : Nat) : Int)])) b2 (.tup [thV (.nm n), .int (p : Nat), .int ((p + i : Nat) : Int)])) kt (.tup [.ref a])) r (.tup [.int ((p + i : Nat) : Int), .ref kt]) = H4 at s34 hy4 e6 e7
        have tp := tups_put (o := .lst (rs.map V.ref ++ [.ref r])) hy4
        have tall : Tups H1 (upd H4 y (.lst (rs.map V.ref ++ [.ref r]))) := s34.tups.trans tp
        refine ⟨y, _, _, rfl, rfl, hy4, by rw [List.length_map, hrs.len]; exact small1000 (by omega), L ++ [(p + i, [t])], _, rfl, (s2.trans s34).put ny, ⟨rs ++ [r], by rw [upd_same, List.map_append]; rfl, KX.All2.append (hrs.imp fun _ _ z => z.up tall) ⟨⟨kt, [a], tp _ _ e7, tp _ _ e6, .cons (e3.up tall) .nil⟩, trivial⟩⟩, by rw [List.length_append, List.length_singleton]; omega, fun q' ks => ?_⟩
        rw [List.mem_append, eL, List.mem_singleton]
        constructor
        · rintro (⟨j, h1, h2⟩ | h)
          · exact ⟨j, by omega, h2⟩
          · cases h
            exact ⟨i, by omega, t, rfl, rfl, e1⟩
        · rintro ⟨j, h1, t', h2, h3, h4⟩
          rcases Nat.lt_or_ge j i with z | z
          · exact .inl ⟨j, z, t', h2, h3, h4⟩
          · have : j = i := by omega
            subst this
            rw [h2, e1] at h4
            cases h4
            exact .inr (by rw [h2, h3])
    · rintro σ H1 ⟨L, x5, rfl, s2, hL, lL, eL⟩
      refine ⟨_, rfl, q H1 y L s2 ny hL (by omega) fun q' ks => ?_⟩
      rw [eL, rd_nm]
      constructor
      · rintro ⟨j, h1, t, h2, h3, h4⟩
        exact ⟨t, h3, h4, by omega, by omega⟩
      · rintro ⟨t, h3, h4, h5, h6⟩
        exact ⟨q' - p, by omega, t, by omega, h3, h4⟩
end
end Wk

/-! W16: by_body. -/
namespace Wk
open PySem hiding Tree
open L2 KX K55
theorem for_itemsF {d : Addr} {o : Obj} {kvs : List (Key × V)} {g : TG} {tb : TS} {D : Ends} {σ : L2.St} {H : Hp} (Pv : Nat → L2.St → Hp → Prop) (h0 : Pv 0 σ H) (hl : ∀ i σ H, Pv i σ H → H d = some (.frz o (.dK kvs)))
    (hs : ∀ i k v σ H T, kvs[i]? = some (k, v) → Pv i σ H → H T = none → g (.ref T) σ (upd H T (.tup [kV k, v])) fun σ2 H2 => tb { D with nx := Pv (i + 1), ct := Pv (i + 1), bk := D.nx } σ2 H2) (hd : ∀ σ H, Pv kvs.length σ H → D.nx σ H) :
    ∃ W : Nat → Nat → L2.St → Hp → Prop, (∃ m, W 0 m σ H) ∧ ∀ i m σ H, W i m σ H →
      ((Iti d o kvs).stop i H ∧ D.nx σ H) ∨ ((Iti d o kvs).go i H ∧ ∃ N : L2.St → Hp → Prop, (∀ σ' H', N σ' H' → ∃ m', m' < m ∧ W (i + 1) m' σ' H') ∧ ∀ x H', (Iti d o kvs).yld i H x H' → g x σ H' fun σ2 H2 => tb { D with nx := N, ct := N, bk := D.nx } σ2 H2) := by
  refine ⟨fun i m σ H => m = kvs.length - i ∧ i ≤ kvs.length ∧ Pv i σ H, ⟨kvs.length, rfl, Nat.zero_le _, h0⟩, ?_⟩
  rintro i m σ H ⟨rfl, hi, p⟩
  rcases Nat.lt_or_ge i kvs.length with lt | ge
  · refine .inr ⟨⟨hl i σ H p, lt⟩, Pv (i + 1), fun σ' H' p' => ⟨kvs.length - (i + 1), by omega, rfl, lt, p'⟩, ?_⟩
    rintro x H' ⟨T, k, v, e, rfl, nT, rfl⟩
    exact hs i k v σ H T e p nT
  · have e : i = kvs.length := Nat.le_antisymm hi ge
    subst e
    exact .inl ⟨⟨hl _ σ H p, Nat.le_refl _⟩, hd σ H p⟩
theorem cat_tup {K : PySem.W.Frag} {H : Hp} {a b : Addr} {xs ys : List V} {Q : VK} (ha : H a = some (.tup xs)) (hb : H b = some (.tup ys)) (hz : xs.length + ys.length ≤ 1000) (k : ∀ H' t, Same H H' → H' t = some (.tup (xs ++ ys)) → Q (.ref t) H') : rCatA K (.ref a) (.ref b) H Q := by
  refine ⟨a, b, _, _, rfl, rfl, SqT.of ha, SqT.of hb, Nat.le_of_lt (small1000 hz), fun z => ?_, fun _ z => ?_, fun _ _ t ht => k _ t (same_new ht) upd_same⟩
  · subst z
    exact k H b (Same.refl H) hb
  · subst z
    exact k H a (Same.refl H) (by rw [List.append_nil]; exact ha)
/-- (size, kids) at r -/
def EntAt (H : Hp) (r : Addr) (ks : List Tree) : Prop := ∃ (kt : Addr) (as : List Addr), H r = some (.tup [.int (sizes ks : Nat), .ref kt]) ∧ H kt = some (.tup (as.map V.ref)) ∧ TreesAt H as ks
theorem EntAt.up {H H' : Hp} {r : Addr} {x : List Tree} (h : EntAt H r x) (g : Tups H H') : EntAt H' r x := by
  obtain ⟨kt, as, e1, e2, e3⟩ := h
  exact ⟨kt, as, g _ _ e1, g _ _ e2, e3.up g⟩
/-- rows of such: all of them P, all of C among them -/
structure Rows (H : Hp) (rows : List (Nat × Addr)) (Pr : Nat → List Tree → Prop) (C : Nat → Prop) : Prop where
  nd : (rows.map (·.1)).Nodup
  ok : ∀ x ∈ rows, x.1 ≤ 6 ∧ ∃ ks, EntAt H x.2 ks ∧ Pr x.1 ks
  all : ∀ q, C q → q ∈ rows.map (·.1)
theorem Rows.up {H H' : Hp} {rows : List (Nat × Addr)} {Pr : Nat → List Tree → Prop} {C : Nat → Prop} (x : Rows H rows Pr C) (g : Tups H H') : Rows H' rows Pr C :=
  ⟨x.nd, fun y hy => let ⟨l, ks, e, p⟩ := x.ok y hy; ⟨l, ks, e.up g, p⟩, x.all⟩
theorem Rows.few {H : Hp} {rows : List (Nat × Addr)} {Pr : Nat → List Tree → Prop} {C : Nat → Prop} (x : Rows H rows Pr C) : rows.length ≤ 7 := by
  have z := nodup_len (rows.map (·.1)) (List.range 7) x.nd fun q hq => by
    obtain ⟨y, hy, rfl⟩ := List.mem_map.mp hq
    exact List.mem_range.mpr (by have := (x.ok y hy).1; omega)
  rw [List.length_map, List.length_range] at z
  exact z
theorem Rows.less {H : Hp} {rows : List (Nat × Addr)} {Pr : Nat → List Tree → Prop} {C C' : Nat → Prop} (x : Rows H rows Pr C) (h : ∀ q, C' q → C q) : Rows H rows Pr C' := ⟨x.nd, x.ok, fun q hq => x.all q (h q hq)⟩
def putR (rows : List (Nat × Addr)) (n : Nat) (e : Addr) : List (Nat × Addr) := if n ∈ rows.map (·.1) then rows.map (fun x => if x.1 = n then (n, e) else x) else rows ++ [(n, e)]
theorem putR_kv (rows : List (Nat × Addr)) (n : Nat) (e : Addr) : putK (rows.map kvT) (Sum.inl ((n : Nat) : Int)) (.ref e) = (putR rows n e).map kvT := by
  unfold putK putR
  rw [anyT]
  by_cases h : n ∈ rows.map (·.1)
  · rw [if_pos (decide_eq_true h), if_pos h, List.map_map, List.map_map]
    refine List.map_congr_left fun x _ => ?_
    show (if (kvT x).1 = Sum.inl ((n : Nat) : Int) then ((kvT x).1, V.ref e) else kvT x) = kvT (if x.1 = n then (n, e) else x)
    by_cases c : x.1 = n
    · rw [if_pos (show (kvT x).1 = Sum.inl ((n : Nat) : Int) by rw [← c]; rfl), if_pos c, ← c]
      rfl
    · rw [if_neg (fun z => c (by have z := Sum.inl.inj z; omega)), if_neg c]
  · rw [if_neg (by simpa using h), if_neg h, List.map_append]
    rfl
theorem putR_fst (rows : List (Nat × Addr)) (n : Nat) (e : Addr) : (putR rows n e).map (·.1) = if n ∈ rows.map (·.1) then rows.map (·.1) else rows.map (·.1) ++ [n] := by
  unfold putR
  by_cases h : n ∈ rows.map (·.1)
  · rw [if_pos h, if_pos h, List.map_map]
    refine List.map_congr_left fun x _ => ?_
    show (if x.1 = n then (n, e) else x).1 = x.1
    split
    · rename_i c; exact c.symm
    · rfl
  · rw [if_neg h, if_neg h, List.map_append]
    rfl
theorem putR_mem {rows : List (Nat × Addr)} {n : Nat} {e : Addr} {x : Nat × Addr} (h : x ∈ putR rows n e) : x = (n, e) ∨ x ∈ rows := by
  unfold putR at h
  split at h
  · obtain ⟨y, hy, rfl⟩ := List.mem_map.mp h
    split
    · exact .inl rfl
    · exact .inr hy
  · rcases List.mem_append.mp h with z | z
    · exact .inr z
    · exact .inl (List.mem_singleton.mp z)
theorem Rows.put {H : Hp} {rows : List (Nat × Addr)} {Pr : Nat → List Tree → Prop} {C : Nat → Prop} (x : Rows H rows Pr C) {n : Nat} {e : Addr} (h6 : n ≤ 6) {ks : List Tree} (he : EntAt H e ks) (hp : Pr n ks) : Rows H (putR rows n e) Pr (fun q => C q ∨ q = n) where
  nd := by
    rw [putR_fst]
    split
    · exact x.nd
    · rename_i h
      exact List.nodup_append.mpr ⟨x.nd, by simp, fun y hy z hz e => h (by rw [List.mem_singleton.mp hz] at e; exact e ▸ hy)⟩
  ok := fun y hy => by
    rcases putR_mem hy with z | z
    · rw [z]; exact ⟨h6, ks, he, hp⟩
    · exact x.ok y z
  all := fun q hq => by
    rw [putR_fst]
    split
    · rename_i h
      rcases hq with z | z
      · exact x.all q z
      · rw [z]; exact h
    · rcases hq with z | z
      · exact List.mem_append_left _ (x.all q z)
      · exact List.mem_append_right _ (List.mem_singleton.mpr z)
section
variable {P : Program} {w : World} {K : PySem.W.Frag} {mg : Str → Option Value} {base : Heap}
def spByBody : Sp := fun vs H Q _ => ∃ (ba d m : Addr) (body : Body) (wd : List Nat) (p : Nat) (T : Tab), vs = [.ref ba, .str (tx wd), .int (p : Nat), .ref d] ∧ BodyAt H ba body ∧ (∃ mm, mm = m ∧ TabAt H d mm T) ∧ wd.length ≤ 6 ∧ p ≤ wd.length ∧ body.length ≤ 3 ∧ (∀ n p q t, T n p q = some t → t.size ≤ 271) ∧
  ∀ H' y rows, Same H H' → H y = none → H' y = some (.dK (rows.map kvT)) → Rows H' rows (fun q ks => Rd wd T body p q ks) (fun q => ∃ ks, Rd wd T body p q ks) → Q (.ref y) H'
abbrev nByBody : List Str := ["body", "word", "place", "trees", "found", "thing", "further", "here", "size", "kids", "after", "more", "total", "tree"]
theorem scByBody : FnScope nByBody ["body", "word", "place", "trees"] (defScope sByBody) := ⟨rfl, rfl, rfl, by decide +kernel, rfl, by decide +kernel, by decide +kernel⟩
theorem rd_kids {wd : List Nat} {T : Tab} {body : Body} {p q : Nat} {ks : List Tree} (h : Rd wd T body p q ks) (hT : ∀ n p q t, T n p q = some t → t.size ≤ 271) : ks.length ≤ body.length ∧ ∀ t ∈ ks, t.size ≤ 271 := by
  induction h with
  | nil h => exact ⟨Nat.le_refl _, fun _ z => nomatch z⟩
  | skip _ ih => exact ⟨by rw [List.length_cons]; omega, ih.2⟩
  | take _ _ ih => exact ⟨by rw [List.length_cons]; omega, ih.2⟩
  | name e _ _ ih =>
    refine ⟨by rw [List.length_cons, List.length_cons]; omega, fun t ht => ?_⟩
    rcases List.mem_cons.mp ht with z | z
    · rw [z]; exact hT _ _ _ _ e
    · exact ih.2 t z
theorem sizes_take (ts : List Tree) (i : Nat) (t : Tree) (h : ts[i]? = some t) : sizes (ts.take (i + 1)) = sizes (ts.take i) + t.size := by
  rw [List.take_add_one, h]
  show sizes (ts.take i ++ [t]) = _
  rw [sizes_append, sizes_cons, sizes_nil]
  omega
theorem d_byBody (S0 : Src K mg "by_body" sByBody ["body", "word", "place", "trees"]) (B : Blt mg) (D1 : Dfn P w K mg base "by_thing" 1 ["thing", "word", "place", "trees"] spByThing) (D2 : Dfn P w K mg base "size_of" 1 ["tree"] spSize) :
    Dfn P w K mg base "by_body" 2 ["body", "word", "place", "trees"] spByBody := by
  obtain ⟨f, fd, gf, F, bd⟩ := S0.ex
  obtain ⟨f1, fd1, g1, G1, b1, k1⟩ := D1.ex
  obtain ⟨f2, fd2, g2, G2, b2, k2⟩ := D2.ex
  refine ⟨f, fd, gf, F.ok scByBody (fun vs H Q E h => ?_) (fun cdv A outer s H vs Q E hr h => ?_), bd, F.kp⟩
  · obtain ⟨ba, d, m, body, wd, p, T, rfl, _⟩ := h
    rfl
  obtain ⟨ba, d, m, body, wd, p, T, rfl, hb, ⟨_, rfl, hT⟩, hw, hp, l3, hTs, q⟩ := h
  refine ⟨_, pss_cons (ps_set (i := 4) scByBody.nd rfl (.inl rfl) (pe_disp (pps_cons (pv 2) (pe_tup (pa_cons pe_int (pa_cons (pe_tup pa_nil) pa_nil))) pps_nil) rfl rfl (by simp) (by decide)))
    (pss_cons (ps_for PassesOwn.never rfl (pi_tup (pv 0)) (pg_name (i := 5) scByBody.nd rfl (.inl rfl))
      (pss_cons (ps_set (i := 6) scByBody.nd rfl (.inl rfl) pe_dnewK)
      (pss_cons (ps_for PassesOwn.never rfl (pi_items (pe_freeze (pv 4))) (pg_tup rfl (pgs_cons (pg_name (i := 7) scByBody.nd rfl (.inl rfl)) (pgs_cons (pg_tup rfl (pgs_cons (pg_name (i := 8) scByBody.nd rfl (.inl rfl)) (pgs_cons (pg_name (i := 9) scByBody.nd rfl (.inl rfl)) pgs_nil))) pgs_nil)))
        (pss_one (ps_for PassesOwn.never rfl (pi_list (pe_call G1 hr (by rfl) g1 k1 b1 .nil pass0 (pa_cons (pv 5) (pa_cons (pv 1) (pa_cons (pv 7) (pa_cons (pv 3) pa_nil)))))) (pg_tup rfl (pgs_cons (pg_name (i := 10) scByBody.nd rfl (.inl rfl)) (pgs_cons (pg_name (i := 11) scByBody.nd rfl (.inl rfl)) pgs_nil)))
          (pss_cons (ps_set (i := 12) scByBody.nd rfl (.inl rfl) (pe_op op_add (pv 8) (pe_callB (cr_sum rfl) (by rfl) B.sum (by decide +kernel)
              (pa_cons (pe_lc (own := [("tree", 13)]) (g := gName 13) (tt := tYes) rfl scByBody.nd (pi_tup (pv 11)) (blkOk_by (N := nByBody) (sc := defScope sByBody) (by decide +kernel)) (fun _ _ _ _ _ => pg_name (i := 13) scByBody.nd rfl (Or.inl rfl)) (fun _ _ _ _ _ => pts_nil)
                (fun _ _ _ _ _ => pe_call G2 hr (by rfl) g2 k2 b2 .nil pass0 (pa_cons (pv 13) pa_nil))) pa_nil))))
          (pss_one (ps_if (PW.pt (pw_or (pt_cmp (pc_dnotin (hu_of hr) (pv 10) (pv 6))) (pw_or1 (pt_cmpR op_lt (pv 12) (pe_ix ix_tup (pe_dget (hu_of hr) (pv 6) (pv 10) (fun _ _ => rfl)) pe_int (fun _ _ => rfl)) (nomark _)))))
            (pss_one (ps_dput (hu_of hr) (pv 6) (pv 10) (pe_tup (pa_cons (pv 12) (pa_cons (pe_op op_catA (pv 9) (pv 11)) pa_nil))) rfl)) pss_nil))))))
      (pss_one (ps_set (i := 4) scByBody.nd rfl (.inl rfl) (pv 6))))))
    (pss_one (ps_ret (pv 4)))), ?_⟩
  obtain ⟨trows, hd, _⟩ := hT.ex
  have hb' : H ba = some (.tup (body.map thV)) := hb
  intro fo nfo
  refine ⟨_, rfl, Nat.zero_le _, fun u nu => ⟨(by show 2 ≤ sizeLine; decide), fun r nr => ?_⟩⟩
  have u_fo : fo ≠ u := ne_of_none upd_same nu
  have fo_u : (upd (upd H fo (.dK [])) u (.tup [])) fo = some (.dK []) := by rw [upd_ne u_fo, upd_same]
  have r_fo : fo ≠ r := ne_of_none fo_u nr
  have e0 : (upd (upd (upd H fo (.dK [])) u (.tup [])) r (.tup [.int 0, .ref u])) fo = some (.dK []) := by rw [upd_ne r_fo]; exact fo_u
  have e1 : (upd (upd (upd H fo (.dK [])) u (.tup [])) r (.tup [.int 0, .ref u])) u = some (.tup []) := by rw [upd_ne (ne_of_none upd_same nr), upd_same]
  have e2 : (upd (upd (upd H fo (.dK [])) u (.tup [])) r (.tup [.int 0, .ref u])) r = some (.tup [.int 0, .ref u]) := upd_same
  have s1 : Same H (upd (upd (upd H fo (.dK [])) u (.tup [])) r (.tup [.int 0, .ref u])) := ((same_new nfo).new nu).new nr
  generalize upd (upd (upd H fo (.dK [])) u (.tup [])) r (.tup [.int 0, .ref u]) = H1 at e0 e1 e2 s1
  have tp0 := tups_putD (o := .dK ([(p, r)].map kvT)) e0
  refine ⟨e0, [(Sum.inl ((p : Nat) : Int), .ref r)], rfl, (by show 1 ≤ 15; decide), ?_⟩
  have s2 : Same H (upd H1 fo (.dK ([(p, r)].map kvT))) := s1.put nfo
  refine ⟨_, rfl, ba, rfl, ⟨_, SqT.of (s2 _ _ hb')⟩, for_tup (K := K) (a := ba) (xs := body.map thV) (fun i σ H' => ∃ (fo : Addr) (rows : List (Nat × Addr)) (x5 x6 x7 x8 x9 x10 x11 x12 x13 : Option V),
      σ = [some (.ref ba), some (.str (tx wd)), some (.int (p : Nat)), some (.ref d), some (.ref fo), x5, x6, x7, x8, x9, x10, x11, x12, x13] ∧ Same H H' ∧ H fo = none ∧ H' fo = some (.dK (rows.map kvT)) ∧
      Rows H' rows (fun q ks => Rd wd T (body.take i) p q ks) (fun q => ∃ ks, Rd wd T (body.take i) p q ks))
    ⟨fo, [(p, r)], none, none, none, none, none, none, none, none, none, rfl, s2, nfo, upd_same, ⟨by simp, fun x hx => by
      rw [List.mem_singleton.mp hx]
      exact ⟨by omega, [], ⟨u, [], by rw [sizes_nil]; exact tp0 _ _ e2, tp0 _ _ e1, .nil⟩, .nil hp⟩, fun q' ⟨ks, h⟩ => by
      cases h
      exact List.mem_singleton.mpr rfl⟩⟩
    (fun i σ H' _ ⟨_, _, _, _, _, _, _, _, _, _, _, _, sm, _⟩ => SqT.of (sm _ _ hb')) ?_ ?_⟩
  · rintro i v σ H2 hi ⟨fo, rows, x5, x6, x7, x8, x9, x10, x11, x12, x13, rfl, s3, nfo, hfo, hrows⟩
    obtain ⟨t, ht, rfl⟩ : ∃ t, body[i]? = some t ∧ thV t = v := by
      rw [List.getElem?_map] at hi
      exact Option.map_eq_some_iff.mp hi
    have eb : body.take (i + 1) = body.take i ++ [t] := by rw [List.take_add_one, ht]; rfl
    intro fu nfu
    have fu0 : H fu = none := s3.free nfu
    have fofu : fo ≠ fu := ne_of_none hfo nfu
    have hfo2 : (upd H2 fu (.dK [])) fo = some (.dK (rows.map kvT)) := by rw [upd_ne fofu]; exact hfo
    refine ⟨_, rfl, fo, _, rfl, hfo2, fun od => ⟨fo, od, _, rfl, upd_same, ?_⟩⟩
    have tpf := tups_putD (o := .frz od (.dK (rows.map kvT))) hfo2
    have hfz : (upd (upd H2 fu (.dK [])) fo (.frz od (.dK (rows.map kvT)))) fo = some (.frz od (.dK (rows.map kvT))) := upd_same
    have hfu3 : (upd (upd H2 fu (.dK [])) fo (.frz od (.dK (rows.map kvT)))) fu = some (.dK []) := by rw [upd_ne fofu.symm, upd_same]
    have s4 : Same H (upd (upd H2 fu (.dK [])) fo (.frz od (.dK (rows.map kvT)))) := (s3.new nfu).put nfo
    have hrows3 := (hrows.up (tups_new nfu)).up tpf
    generalize upd (upd H2 fu (.dK [])) fo (.frz od (.dK (rows.map kvT))) = H3 at hfz hfu3 s4 hrows3
    have few := hrows3.few
    refine for_itemsF (d := fo) (o := od) (kvs := rows.map kvT) (fun j σ H' => ∃ (rows' : List (Nat × Addr)) (x7 x8 x9 x10 x11 x12 x13 : Option V),
        σ = [some (.ref ba), some (.str (tx wd)), some (.int (p : Nat)), some (.ref d), some (.ref fo), some (thV t), some (.ref fu), x7, x8, x9, x10, x11, x12, x13] ∧ Same H H' ∧ H' fo = some (.frz od (.dK (rows.map kvT))) ∧ Tups H3 H' ∧
        H' fu = some (.dK (rows'.map kvT)) ∧ Rows H' rows' (fun q ks => Rd wd T (body.take (i + 1)) p q ks) (fun q => ∃ x ∈ rows.take j, ∃ ks, Rd wd T [t] x.1 q ks))
      ⟨[], _, _, _, _, _, _, _, rfl, s4, hfz, Tups.refl H3, hfu3, ⟨List.nodup_nil, fun _ z => (nomatch z), fun q' ⟨_, z, _⟩ => (nomatch z)⟩⟩ (fun j σ H' ⟨_, _, _, _, _, _, _, _, _, _, z, _⟩ => z) ?_ ?_
    · rintro j k v σ H4 T' hj ⟨rows', y7, y8, y9, y10, y11, y12, y13, rfl, s5, hfz4, t34, hfu4, hr4⟩ nT
      obtain ⟨⟨here, r0⟩, hx, exy⟩ : ∃ x, rows[j]? = some x ∧ kvT x = (k, v) := by
        rw [List.getElem?_map] at hj
        exact Option.map_eq_some_iff.mp hj
      have ek : k = Sum.inl ((here : Nat) : Int) := (congrArg Prod.fst exy).symm
      have ev : v = .ref r0 := (congrArg Prod.snd exy).symm
      subst ek ev
      have mx : (here, r0) ∈ rows := List.mem_of_getElem? hx
      have mt := fun x : Nat × Addr => mem_take1 hx (x := x)
      obtain ⟨h6, ks0, hent, hrd⟩ := hrows3.ok _ mx
      have here_le : here ≤ wd.length := hrd.le.2
      have s6 : Same H4 (upd H4 T' (.tup [kV (Sum.inl ((here : Nat) : Int)), .ref r0])) := same_new nT
      obtain ⟨kt0, as0, ent1, ent2, ent3⟩ := (hent.up t34).up s6.tups
      have s56 := s5.trans s6
      refine ⟨T', _, rfl, SqT.of upd_same, rfl, _, _, rfl, _, _, rfl, r0, _, rfl, SqT.of ent1, rfl, _, _, rfl, _, _, rfl, rfl, rfl, ?_⟩
      have hfz5 := s6 _ _ hfz4
      have hfu5 := s6 _ _ hfu4
      have hr5 := hr4.up s6.tups
      have t35 := t34.trans s6.tups
      generalize upd H4 T' (.tup [kV (Sum.inl ((here : Nat) : Int)), .ref r0]) = H5 at ent1 ent2 ent3 s56 hfz5 hfu5 hr5 t35 s6
      refine ⟨_, rfl, _, rfl, _, rfl, _, rfl, t, wd, here, d, _, T, rfl, hT.same s56, hw, here_le, fun H6 y L s7 ny hL lL eL => ⟨y, rfl, ?_⟩⟩
      obtain ⟨rs, hy, hrs⟩ := hL
      have yfu : fu ≠ y := ne_of_none hfu5 ny
      refine ⟨⟨_, SqL.of hy⟩, for_list (K := K) (a := y) (xs := rs.map V.ref) (fun l σ H' => ∃ (rows' : List (Nat × Addr)) (x10 x11 x12 x13 : Option V),
          σ = [some (.ref ba), some (.str (tx wd)), some (.int (p : Nat)), some (.ref d), some (.ref fo), some (thV t), some (.ref fu), some (.int (here : Nat)), some (.int (sizes ks0 : Nat)), some (.ref kt0), x10, x11, x12, x13] ∧ Same H H' ∧ H' fo = some (.frz od (.dK (rows.map kvT))) ∧ Tups H6 H' ∧
          H' y = some (.lst (rs.map V.ref)) ∧ H' fu = some (.dK (rows'.map kvT)) ∧ Rows H' rows' (fun q ks => Rd wd T (body.take (i + 1)) p q ks) (fun q => (∃ x ∈ rows.take j, ∃ ks, Rd wd T [t] x.1 q ks) ∨ ∃ z ∈ L.take l, z.1 = q))
        ⟨rows', _, _, _, _, rfl, s56.trans s7, s7 _ _ hfz5, Tups.refl H6, hy, s7 _ _ hfu5, (hr5.up s7.tups).less fun q' h => h.elim id fun ⟨_, z, _⟩ => (nomatch z)⟩ (fun l σ H' _ ⟨_, _, _, _, _, _, _, _, _, z, _⟩ => SqL.of z) ?_ ?_⟩
      · rintro l v σ H7 hl ⟨rows2, z10, z11, z12, z13, rfl, s8, hfz7, t67, hy7, hfu7, hr7⟩
        obtain ⟨ra, hra, rfl⟩ : ∃ c, rs[l]? = some c ∧ V.ref c = v := by
          rw [List.getElem?_map] at hl
          exact Option.map_eq_some_iff.mp hl
        obtain ⟨⟨after, more⟩, hL', hres⟩ := hrs.getL hra
        have mL : (after, more) ∈ L := List.mem_of_getElem? hL'
        have mtL := fun x : Nat × List Tree => mem_take1 hL' (x := x)
        have hrdm : Rd wd T [t] here after more := (eL after more).mp mL
        have af6 : after ≤ 6 := Nat.le_trans hrdm.le.2 hw
        obtain ⟨km, hsm⟩ := rd_kids hrdm hTs
        obtain ⟨k0l, hs0⟩ := rd_kids hrd hTs
        have all : Rd wd T (body.take (i + 1)) p after (ks0 ++ more) := by rw [eb]; exact hrd.append hrdm
        obtain ⟨kt, as, q1, q2, q3⟩ := hres.up t67
        refine ⟨ra, _, rfl, SqT.of q1, rfl, _, _, rfl, _, _, rfl, rfl, ?_⟩
        -- total
        refine ⟨_, rfl, _, rfl, kt, rfl, ⟨_, SqT.of q2⟩, fun D nD => ?_⟩
        refine lc_tup (K := K) (a := kt) (xs := as.map V.ref) (fun o H' => Same H7 H' ∧ ∃ ms : List Int, H' D = some (.lst (ms.map V.int)) ∧ ms.sum = ((sizes (more.take o) : Nat) : Int) ∧ ms.length ≤ o) ⟨same_new nD, [], upd_same, by rw [List.take_zero, sizes_nil]; rfl, Nat.le_refl _⟩ (fun o H' _ z => SqT.of (z.1 _ _ q2)) ?_ ?_
        · rintro o v H8 ho ⟨s9, ms, hD, sms, lms⟩
          obtain ⟨ta, hta, rfl⟩ : ∃ c, as[o]? = some c ∧ V.ref c = v := by
            rw [List.getElem?_map] at ho
            exact Option.map_eq_some_iff.mp ho
          obtain ⟨tr, htr, hat⟩ := q3.get hta
          have ol : o < more.length := (List.getElem?_eq_some_iff.mp htr).1
          have b271 := hsm tr (List.mem_of_getElem? htr)
          refine ⟨rfl, _, rfl, ta, tr, rfl, hat.up s9.tups, by omega, fun H9 s10 => ⟨_, s10 _ _ hD, ?_, (s9.trans s10).put nD, ms ++ [((tr.size : Nat) : Int)], by rw [upd_same, List.map_append]; rfl, ?_, by rw [List.length_append, List.length_singleton]; omega⟩⟩
          · rw [List.length_map]
            exact small1000 (by rw [List.length_singleton] at km; omega)
          · rw [List.sum_append, sms, sizes_take more o tr htr]
            simp
        rintro H8 ⟨s9, ms, hD, sms, lms⟩
        have el : more.take (as.map V.ref).length = more := by rw [List.length_map, q3.len, List.take_length]
        rw [el] at sms
        have tot : ((sizes ks0 : Nat) : Int) + ms.sum = ((sizes (ks0 ++ more) : Nat) : Int) := by rw [sms, sizes_append]; omega
        refine ⟨D, ms, rfl, SqL.of hD, _, _, rfl, rfl, ?_⟩
        show gName 12 (V.int (((sizes ks0 : Nat) : Int) + ms.sum)) _ _ _
        rw [tot]
        have hfu8 := s9 _ _ hfu7
        have hy8 := s9 _ _ hy7
        have hfz8 := s9 _ _ hfz7
        have hr8 := hr7.up s9.tups
        have t68 := t67.trans s9.tups
        have few2 := hr8.few
        -- what a store leaves
        have q2' := s9.tups _ _ q2
        have q3' := q3.up s9.tups
        have en2 := t68 _ _ (s7.tups _ _ ent2)
        have en3 := (ent3.up s7.tups).up t68
        have lkm : as0.length + as.length ≤ 1000 := by
          rw [en3.len, q3.len]
          show ks0.length + more.length ≤ 1000
          have : (body.take i).length ≤ body.length := List.length_take_le' _ _
          rw [List.length_singleton] at km
          omega
        have done : ∀ (σ : L2.St) (H9 : Hp) (rows3 : List (Nat × Addr)) (C : Nat → Prop), Same H H9 → H9 fo = some (.frz od (.dK (rows.map kvT))) → Tups H6 H9 → H9 y = some (.lst (rs.map V.ref)) → H9 fu = some (.dK (rows3.map kvT)) → Rows H9 rows3 (fun q ks => Rd wd T (body.take (i + 1)) p q ks) C →
            (∀ q, ((∃ x ∈ rows.take j, ∃ ks, Rd wd T [t] x.1 q ks) ∨ ∃ z ∈ L.take l, z.1 = q) ∨ q = after → C q) → σ = [some (V.ref ba), some (.str (tx wd)), some (.int (p : Nat)), some (.ref d), some (.ref fo), some (thV t), some (.ref fu), some (.int (here : Nat)), some (.int (sizes ks0 : Nat)), some (.ref kt0), some (.int (after : Nat)), some (.ref kt), some (.int ((sizes (ks0 ++ more) : Nat) : Int)), z13] →
            ∃ (rows' : List (Nat × Addr)) (x10 x11 x12 x13 : Option V), σ = [some (V.ref ba), some (.str (tx wd)), some (.int (p : Nat)), some (.ref d), some (.ref fo), some (thV t), some (.ref fu), some (.int (here : Nat)), some (.int (sizes ks0 : Nat)), some (.ref kt0), x10, x11, x12, x13] ∧ Same H H9 ∧ H9 fo = some (.frz od (.dK (rows.map kvT))) ∧ Tups H6 H9 ∧
              H9 y = some (.lst (rs.map V.ref)) ∧ H9 fu = some (.dK (rows'.map kvT)) ∧ Rows H9 rows' (fun q ks => Rd wd T (body.take (i + 1)) p q ks) (fun q => (∃ x ∈ rows.take j, ∃ ks, Rd wd T [t] x.1 q ks) ∨ ∃ z ∈ L.take (l + 1), z.1 = q) := by
          intro σ H9 rows3 C a1 a2 a3 a4 a5 a6 a7 a8
          refine ⟨rows3, _, _, _, _, a8, a1, a2, a3, a4, a5, a6.less fun q' h => a7 q' ?_⟩
          rcases h with h | ⟨z, h1, h2⟩
          · exact .inl (.inl h)
          · rcases (mtL z).mp h1 with h3 | h3
            · exact .inl (.inr ⟨z, h3, h2⟩)
            · rw [h3] at h2; exact .inr h2.symm
        have store : ∀ (D : Ends) (σ : L2.St), σ = [some (V.ref ba), some (.str (tx wd)), some (.int (p : Nat)), some (.ref d), some (.ref fo), some (thV t), some (.ref fu), some (.int (here : Nat)), some (.int (sizes ks0 : Nat)), some (.ref kt0), some (.int (after : Nat)), some (.ref kt), some (.int ((sizes (ks0 ++ more) : Nat) : Int)), z13] →
            (∀ (H9 : Hp) (rows3 : List (Nat × Addr)) (C : Nat → Prop), Same H H9 → H9 fo = some (.frz od (.dK (rows.map kvT))) → Tups H6 H9 → H9 y = some (.lst (rs.map V.ref)) → H9 fu = some (.dK (rows3.map kvT)) → Rows H9 rows3 (fun q ks => Rd wd T (body.take (i + 1)) p q ks) C →
              (∀ q, ((∃ x ∈ rows.take j, ∃ ks, Rd wd T [t] x.1 q ks) ∨ ∃ z ∈ L.take l, z.1 = q) ∨ q = after → C q) → D.nx σ H9) →
            sDPut (tVar 6) (tVar 10) (tTup (tCons (tVar 12) (tCons (tOp (rCatA K) (tVar 9) (tVar 11)) tNil))) D σ H8 := by
          intro D σ eσ k
          subst eσ
          refine ⟨_, rfl, _, rfl, _, rfl, cat_tup en2 q2' (by rw [List.length_map, List.length_map]; exact lkm) fun H9 tk s10 htk => ⟨(by show 2 ≤ sizeLine; decide), fun e ne => ?_⟩⟩
          have s11 : Same H8 (upd H9 e (.tup [.int ((sizes (ks0 ++ more) : Nat) : Int), .ref tk])) := s10.new ne
          have hfu9 := s11 _ _ hfu8
          have tp := tups_putD (o := .dK (putK (rows2.map kvT) (Sum.inl ((after : Nat) : Int)) (.ref e))) hfu9
          have hent9 : EntAt (upd H9 e (.tup [.int ((sizes (ks0 ++ more) : Nat) : Int), .ref tk])) e (ks0 ++ more) := ⟨tk, as0 ++ as, upd_same, by rw [List.map_append]; exact (tups_new ne) _ _ htk, (en3.append q3').up s11.tups⟩
          have hr9 := (hr8.up s11.tups).put af6 hent9 all
          refine ⟨_, rfl, _, rfl, fu, _, rfl, DPut.k (k := Sum.inl ((after : Nat) : Int)) hfu9 (by rw [List.length_map]; exact small1000 (by omega)), ?_⟩
          refine k _ (putR rows2 after e) _ (((s8.trans s9).trans s11).put fu0) ?_ ((t68.trans s11.tups).trans tp) ?_ (by rw [upd_same, putR_kv]) (hr9.up tp) fun q' h => h
          · rw [upd_ne fofu]; exact s11 _ _ hfz8
          · rw [upd_ne yfu.symm]; exact s11 _ _ hy8
        refine ⟨_, rfl, _, rfl, fu, _, rfl, DGet.k (k := Sum.inl ((after : Nat) : Int)) hfu8, _, rfl, ?_⟩
        cases ev : valV (rows2.map kvT) (Sum.inl ((after : Nat) : Int)) with
        | none =>
          refine iteT (iteT ?_)
          exact store _ _ rfl fun H9 rows3 C a1 a2 a3 a4 a5 a6 a7 => done _ H9 rows3 C a1 a2 a3 a4 a5 a6 a7 rfl
        | some v =>
          obtain ⟨x, hx2, ex1, rfl⟩ := valT_some ev
          obtain ⟨_, ks9, ⟨kt9, as9, w1, w2, w3⟩, _⟩ := hr8.ok x hx2
          refine iteF ⟨_, rfl, _, rfl, _, rfl, fu, _, rfl, by rw [← ev]; exact DGet.k (k := Sum.inl ((after : Nat) : Int)) hfu8, x.2, _, 0, _, rfl, rfl, SqT.of w1, atI_nat (j := 0) rfl, _, _, rfl, rfl, _, rfl, ?_⟩
          refine ite2 (fun _ => ?_) (fun _ => ?_)
          · exact store _ _ rfl fun H9 rows3 C a1 a2 a3 a4 a5 a6 a7 => done _ H9 rows3 C a1 a2 a3 a4 a5 a6 a7 rfl
          · refine done _ H8 rows2 (fun q => ((∃ x ∈ rows.take j, ∃ ks, Rd wd T [t] x.1 q ks) ∨ ∃ z ∈ L.take l, z.1 = q) ∨ q = after) (s8.trans s9) hfz8 t68 hy8 hfu8 ⟨hr8.nd, hr8.ok, fun q' h => ?_⟩ (fun q' h => h) rfl
            rcases h with h | h
            · exact hr8.all q' h
            · rw [h, ← ex1]; exact List.mem_map.mpr ⟨x, hx2, rfl⟩
      · rintro σ H7 ⟨rows2, z10, z11, z12, z13, rfl, s8, hfz7, t67, hy7, hfu7, hr7⟩
        have el : L.take (rs.map V.ref).length = L := by rw [List.length_map, hrs.len, List.take_length]
        rw [el] at hr7
        refine ⟨rows2, _, _, _, _, _, _, _, rfl, s8, hfz7, t35.trans (s7.tups.trans t67), hfu7, hr7.less fun q' h => ?_⟩
        obtain ⟨x, h1, ks, h2⟩ := h
        rcases (mt x).mp h1 with h3 | h3
        · exact .inl ⟨x, h3, ks, h2⟩
        · rw [h3] at h2
          exact .inr ⟨(q', ks), (eL q' ks).mpr h2, rfl⟩
    · rintro σ H4 ⟨rows', y7, y8, y9, y10, y11, y12, y13, rfl, s5, hfz4, t34, hfu4, hr4⟩
      have el : rows.take (rows.map kvT).length = rows := by rw [List.length_map, List.take_length]
      rw [el] at hr4
      refine ⟨_, rfl, fu, rows', _, _, _, _, _, _, _, _, _, rfl, s5, fu0, hfu4, hr4.less fun q' ⟨ks, h⟩ => ?_⟩
      rw [eb] at h
      obtain ⟨m, k1, k2, _, h1, h2⟩ := Rd.split h
      obtain ⟨x, hx, ex⟩ := List.mem_map.mp (hrows3.all m ⟨k1, h1⟩)
      exact ⟨x, hx, k2, by rw [ex]; exact h2⟩
  · rintro σ H2 ⟨fo, rows, x5, x6, x7, x8, x9, x10, x11, x12, x13, rfl, s3, nfo, hfo, hrows⟩
    rw [List.length_map, List.take_length] at hrows
    exact ⟨_, rfl, q H2 fo rows s3 nfo hfo hrows⟩
end
end Wk

/-! W17: tree_above. -/
namespace Wk
open PySem hiding Tree
open L2 KX K55
theorem keys_147 : ∀ m, m < 7 → (allKeys m).length ≤ 147 := by decide +kernel
theorem TabAt.few {H : Hp} {d m : Nat} {T : Tab} {rows : List ((Nat × Nat × Nat) × Addr)} (nd : (rows.map (·.1)).Nodup) (h : ∀ x ∈ rows, x.1 ∈ allKeys m) (hm : m ≤ 6) : rows.length ≤ 147 := by
  have z := nodup_len (rows.map (·.1)) (allKeys m) nd fun k hk => by
    obtain ⟨x, hx, rfl⟩ := List.mem_map.mp hk
    exact h x hx
  rw [List.length_map] at z
  exact Nat.le_trans z (keys_147 m (by omega))
theorem anyRT (rows : List ((Nat × Nat × Nat) × Addr)) (n p q : Nat) : ((rows.map rowT).any fun kv => decide (kv.1 = ky n p q)) = decide ((n, p, q) ∈ rows.map (·.1)) := by
  induction rows with
  | nil => rfl
  | cons x rows ih =>
    rw [List.map_cons, List.any_cons, ih, List.map_cons]
    obtain ⟨⟨n', p', q'⟩, a⟩ := x
    by_cases e : (n', p', q') = (n, p, q)
    · have h1 : (rowT ((n', p', q'), a)).1 = ky n p q := by
        injection e with e1 e
        injection e with e2 e3
        rw [← e1, ← e2, ← e3]
        rfl
      rw [decide_eq_true h1, Bool.true_or]
      exact (decide_eq_true (by rw [← e]; exact List.mem_cons_self)).symm
    · have h1 : ¬ (rowT ((n', p', q'), a)).1 = ky n p q := fun z => e (by obtain ⟨r1, r2, r3⟩ := ky_inj z; dsimp only at r1 r2 r3; rw [r1, r2, r3])
      have h2 : ¬ (n, p, q) = (n', p', q') := fun z => e z.symm
      simp [h1, h2]
theorem TabAt.put {H : Hp} {d m : Nat} {T : Tab} (x : TabAt H d m T) {n p q e : Nat} {t : Tree} (hn : n < 3) (hp : p ≤ m) (hq : q ≤ m) (ht : TreeAt H e t) :
    ∀ kvs, H d = some (.dT kvs) → TabAt (upd H d (.dT (putK kvs (ky n p q) (.ref e)))) d m (T.put n p q t) := by
  intro kvs hk
  obtain ⟨rows, hd, nd, hall, hv⟩ := x.ex
  have ek : kvs = rows.map rowT := by rw [hd] at hk; injection hk with hk; injection hk with hk; exact hk.symm
  subst ek
  have tp : Tups H (upd H d (.dT (putK (rows.map rowT) (ky n p q) (.ref e)))) := Tups.upd hd fun _ z => nomatch z
  obtain ⟨rows', e1, e2, e3⟩ : ∃ rows' : List ((Nat × Nat × Nat) × Addr), putK (rows.map rowT) (ky n p q) (.ref e) = rows'.map rowT ∧ (rows'.map (·.1)).Nodup ∧ ∀ x ∈ rows', x.1 ∈ allKeys m := by
    by_cases h : (n, p, q) ∈ rows.map (·.1)
    · refine ⟨rows.map fun x => if x.1 = (n, p, q) then ((n, p, q), e) else x, ?_, ?_, fun x hx => ?_⟩
      · unfold putK
        rw [anyRT, if_pos (decide_eq_true h), List.map_map, List.map_map]
        refine List.map_congr_left fun x _ => ?_
        show (if (rowT x).1 = ky n p q then ((rowT x).1, V.ref e) else rowT x) = rowT (if x.1 = (n, p, q) then ((n, p, q), e) else x)
        by_cases c : x.1 = (n, p, q)
        · rw [if_pos (show (rowT x).1 = ky n p q by unfold rowT; rw [c]), if_pos c]
          unfold rowT
          rw [c]
        · rw [if_neg (fun z => c (by obtain ⟨r1, r2, r3⟩ := ky_inj z; obtain ⟨⟨n', p', q'⟩, a⟩ := x; dsimp only at r1 r2 r3 ⊢; rw [r1, r2, r3])), if_neg c]
      · have e1 : (rows.map fun x => if x.1 = (n, p, q) then ((n, p, q), e) else x).map (·.1) = rows.map (·.1) := by
          rw [List.map_map]
          refine List.map_congr_left fun x _ => ?_
          show (if x.1 = (n, p, q) then ((n, p, q), e) else x).1 = x.1
          split
          · rename_i c; exact c.symm
          · rfl
        rw [e1]
        exact nd
      · obtain ⟨y, hy, rfl⟩ := List.mem_map.mp hx
        split
        · exact mem_allKeys hn hp hq
        · exact hall y hy
    · refine ⟨rows ++ [((n, p, q), e)], ?_, ?_, fun x hx => ?_⟩
      · unfold putK
        rw [anyRT, if_neg (by simpa using h), List.map_append]
        rfl
      · rw [List.map_append]
        exact List.nodup_append.mpr ⟨nd, by simp, fun x hx y hy z => h (by
          have hy' : y = (n, p, q) := by simpa using hy
          rw [← hy', ← z]; exact hx)⟩
      · rcases List.mem_append.mp hx with z | z
        · exact hall x z
        · rw [List.mem_singleton.mp z]; exact mem_allKeys hn hp hq
  refine ⟨rows', by rw [upd_same, e1], e2, e3, fun n' p' q' => ?_⟩
  rw [← e1, valV_put]
  by_cases c : n' = n ∧ p' = p ∧ q' = q
  · obtain ⟨rfl, rfl, rfl⟩ := c
    rw [if_pos rfl]
    exact .inr ⟨t, e, Tab.put_same .., rfl, ht.up tp⟩
  · rw [if_neg fun z => c (ky_inj z), Tab.put_ne _ _ c]
    rcases hv n' p' q' with h | ⟨t', a, h1, h2, h3⟩
    · exact .inl h
    · exact .inr ⟨t', a, h1, h2, h3.up tp⟩
section
variable {P : Program} {w : World} {K : PySem.W.Frag} {mg : Str → Option Value} {base : Heap}
/-- what is told: a tree above the word, or that there is none -/
def Told (H : Hp) (R : Rules) (wd : List Nat) (v : V) : Prop := (v = .non ∧ ¬ Dn R [.nm 0] wd) ∨ ∃ a t, v = .ref a ∧ TreeAt H a t ∧ IsTree R 0 t ∧ t.size ≤ 271 ∧ t.depth ≤ 21 ∧ wd.Sublist (wordOf R t) ∧ Dn R [.nm 0] wd
def spTree : Sp := fun vs H Q _ => ∃ (g : Addr) (N : Nat) (R : Rules) (wd : List Nat), vs = [.ref g, .str (tx wd)] ∧ GramAt H g N R ∧ WFG R ∧ wd.length ≤ 6 ∧ ∀ H' v, Same H H' → Told H' R wd v → Q v H'
abbrev nTree : List Str := ["grammar", "word", "trees", "more", "number", "name", "body", "place", "after", "size", "kids", "key"]
theorem scTree : FnScope nTree ["grammar", "word"] (defScope sTree) := ⟨rfl, rfl, rfl, by decide +kernel, rfl, by decide +kernel, by decide +kernel⟩
/-- a pass's standing: T at its begin, T1 now -/
structure Pass (R : Rules) (wd : List Nat) (T T1 : Tab) (mr : Bool) : Prop where
  good : GoodT R wd T1
  same : mr = false → T1 = T
  less : mr = true → mu wd.length T1 < mu wd.length T
theorem d_tree (S0 : Src K mg "tree_above" sTree ["grammar", "word"]) (B : Blt mg) (D1 : Dfn P w K mg base "by_body" 2 ["body", "word", "place", "trees"] spByBody) (D2 : Dfn P w K mg base "size_of" 1 ["tree"] spSize) :
    Dfn P w K mg base "tree_above" 3 ["grammar", "word"] spTree := by
  obtain ⟨f, fd, gf, F, bd⟩ := S0.ex
  obtain ⟨f1, fd1, g1, G1, b1, k1⟩ := D1.ex
  obtain ⟨f2, fd2, g2, G2, b2, k2⟩ := D2.ex
  refine ⟨f, fd, gf, F.ok scTree (fun vs H Q E h => ?_) (fun cdv A outer s H vs Q E hr h => ?_), bd, F.kp⟩
  · obtain ⟨g, N, R, wd, rfl, _⟩ := h
    rfl
  obtain ⟨g, N, R, wd, rfl, ⟨rs, hg, as, hrs, has⟩, wf, hw, q⟩ := h
  have hr1 : Room 1 _ := hr.mono (by decide)
  refine ⟨_, pss_cons (ps_set (i := 2) scTree.nd rfl (.inl rfl) pe_dnewT) (pss_cons (ps_set (i := 3) scTree.nd rfl (.inl rfl) pe_bl)
    (pss_cons (ps_while PassesOwn.never (pt_val (pv 3))
      (pss_cons (ps_set (i := 3) scTree.nd rfl (.inl rfl) pe_bl)
      (pss_one (ps_for PassesOwn.never rfl (pi_enumT (by rfl) B.enum (pa_cons (pe_ix ix_tup (pv 0) pe_int (fun _ _ => rfl)) pa_nil)) (pg_tup rfl (pgs_cons (pg_name (i := 4) scTree.nd rfl (.inl rfl)) (pgs_cons (pg_tup rfl (pgs_cons (pg_name (i := 5) scTree.nd rfl (.inl rfl)) (pgs_cons (pg_name (i := 6) scTree.nd rfl (.inl rfl)) pgs_nil))) pgs_nil)))
        (pss_one (ps_for PassesOwn.never rfl (pi_range1 (by rfl) B.range (pa_cons (pe_op op_add (pe_callB call_len_str (by rfl) B.len PySem.boot_len (pa_cons (pv 1) pa_nil)) pe_int) pa_nil)) (pg_name (i := 7) scTree.nd rfl (.inl rfl))
          (pss_one (ps_for PassesOwn.never rfl (pi_items (pe_freeze (pe_call G1 hr (by rfl) g1 k1 b1 .nil pass0 (pa_cons (pv 6) (pa_cons (pv 1) (pa_cons (pv 7) (pa_cons (pv 2) pa_nil))))))) (pg_tup rfl (pgs_cons (pg_name (i := 8) scTree.nd rfl (.inl rfl)) (pgs_cons (pg_tup rfl (pgs_cons (pg_name (i := 9) scTree.nd rfl (.inl rfl)) (pgs_cons (pg_name (i := 10) scTree.nd rfl (.inl rfl)) pgs_nil))) pgs_nil)))
            (pss_cons (ps_set (i := 11) scTree.nd rfl (.inl rfl) (pe_tup (pa_cons (pv 5) (pa_cons (pv 7) (pa_cons (pv 8) pa_nil)))))
            (pss_one (ps_if (PW.pt (pw_or (pt_cmp (pc_dnotin (hu_of hr) (pv 11) (pv 2))) (pw_or1 (pt_cmpR op_lt (pe_op op_add (pv 9) pe_int) (pe_call G2 hr1 (by rfl) g2 k2 b2 .nil pass0 (pa_cons (pe_dget (hu_of hr) (pv 2) (pv 11) (fun _ _ => rfl)) pa_nil)) (nomark _)))))
              (pss_cons (ps_dput (hu_of hr) (pv 2) (pv 11) (pe_tup (pa_cons (pv 4) (pa_cons (pv 10) pa_nil))) rfl)
                (pss_one (ps_set (i := 3) scTree.nd rfl (.inl rfl) pe_bl))) pss_nil)))))))))))
    (pss_one (ps_ret (pe_dget2 (hu_of hr) (pv 2) (pe_tup (pa_cons pe_int (pa_cons pe_int (pa_cons (pe_callB call_len_str (by rfl) B.len PySem.boot_len (pa_cons (pv 1) pa_nil)) pa_nil)))) pe_non ⟨rfl, rfl, rfl, rfl⟩))))), ?_⟩
  have las : as.length = R.length := has.len
  intro d nd
  have s1 : Same H (upd H d (.dT [])) := same_new nd
  refine ⟨fun m σ H' => ∃ (T : Tab) (mr : Bool) (x4 x5 x6 x7 x8 x9 x10 x11 : Option V), m = mu wd.length T + (if mr = true then 1 else 0) ∧ σ = [some (.ref g), some (.str (tx wd)), some (.ref d), some (.bl mr), x4, x5, x6, x7, x8, x9, x10, x11] ∧ Same H H' ∧ TabAt H' d wd.length T ∧ GoodT R wd T ∧ (mr = false → FixT R wd T),
    ⟨_, fun _ _ _ => none, true, none, none, none, none, none, none, none, none, rfl, rfl, s1, ⟨[], upd_same, List.nodup_nil, fun _ z => (nomatch z), fun n p q => .inl ⟨rfl, rfl⟩⟩, goodT_empty, fun z => (nomatch z)⟩, ?_⟩
  rintro m σ H1 ⟨T, mr, x4, x5, x6, x7, x8, x9, x10, x11, rfl, rfl, s2, hT, G, fix⟩
  refine ⟨_, rfl, mr, rfl, ?_⟩
  cases mr with
  | false =>
    obtain ⟨rows, hd, _, _, hv⟩ := hT.ex
    refine iteF ⟨_, rfl, d, rfl, .inr ⟨_, .inl hd⟩, _, rfl, _, rfl, by rw [tx_len]; exact Nat.le_of_lt (small1000 (by omega)), (by show 3 ≤ sizeLine; decide), fun b nb => ⟨_, DGet.t (k := ky 0 0 wd.length) ((same_new nb) _ _ hd) (by rw [upd_same, tx_len]; rfl), ?_⟩⟩
    have s3 := s2.new (o := .tup [V.int 0, V.int 0, V.int (((tx wd).length : Nat) : Int)]) nb
    rcases hv 0 0 wd.length with ⟨e1, e2⟩ | ⟨t, a, e1, e2, e3⟩
    · rw [e2]
      refine q _ _ s3 (.inl ⟨rfl, fun h => ?_⟩)
      obtain ⟨t, ht⟩ := ((fix rfl).iff G 0).mpr h
      rw [e1] at ht
      cases ht
    · rw [e2]
      obtain ⟨_, _, _, g4, g5, _⟩ := G _ _ _ _ e1
      rw [seg_all] at g5
      obtain ⟨z1, z2⟩ := G.bound hw e1
      exact q _ _ s3 (.inr ⟨a, t, rfl, e3.up (tups_new nb), g4, z1, z2, g5, ((fix rfl).iff G 0).mp ⟨t, e1⟩⟩)
  | true =>
    refine iteT ⟨_, fun _ _ z => z, ?_⟩
    refine ⟨_, rfl, g, _, 1, _, rfl, rfl, SqT.of (s2 _ _ hg), atI_nat (j := 1) rfl, rs, _, rfl, SqT.of (s2 _ _ hrs),
      for_enumT (K := K) (a := rs) (xs := as.map V.ref) (fun i σ H' => ∃ (T2 : Tab) (mr : Bool) (x4 x5 x6 x7 x8 x9 x10 x11 : Option V), σ = [some (.ref g), some (.str (tx wd)), some (.ref d), some (.bl mr), x4, x5, x6, x7, x8, x9, x10, x11] ∧ Same H H' ∧ TabAt H' d wd.length T2 ∧ Pass R wd T T2 mr ∧
        (mr = false → ∀ n body, (n, body) ∈ R.take i → ∀ p q ks, Rd wd T body p q ks → ∃ t, T n p q = some t))
      ⟨T, false, x4, x5, x6, x7, x8, x9, x10, x11, rfl, s2, hT, ⟨G, fun _ => rfl, fun z => nomatch z⟩, fun _ n body z => (nomatch z)⟩ (fun i σ H' _ ⟨_, _, _, _, _, _, _, _, _, _, _, sm, _⟩ => SqT.of (sm _ _ hrs)) ?_ ?_⟩
    · rintro i v σ H2 T' hi ⟨TA, mrA, y4, y5, y6, y7, y8, y9, y10, y11, rfl, s3, hTA, PA, closedA⟩ nT'
      obtain ⟨ra, hra, rfl⟩ : ∃ c, as[i]? = some c ∧ V.ref c = v := by
        rw [List.getElem?_map] at hi
        exact Option.map_eq_some_iff.mp hi
      obtain ⟨⟨n, body⟩, hR, ba, hra2, hba⟩ := has.getL hra
      have mR : (n, body) ∈ R := List.mem_of_getElem? hR
      have mt := fun x : Nat × Body => mem_take1 hR (x := x)
      have n3 := wf.nm n body mR
      have s4 : Same H (upd H2 T' (.tup [.int (i : Nat), .ref ra])) := s3.new nT'
      refine ⟨T', _, rfl, SqT.of upd_same, rfl, _, _, rfl, _, _, rfl, ra, _, rfl, SqT.of (s4 _ _ hra2), rfl, _, _, rfl, _, _, rfl, rfl, rfl, ?_⟩
      have hTA3 := hTA.same (same_new nT' (o := .tup [.int (i : Nat), .ref ra]))
      generalize upd H2 T' (.tup [.int (i : Nat), .ref ra]) = H3 at s4 hTA3
      refine ⟨_, rfl, _, rfl, by rw [tx_len]; exact Nat.le_of_lt (small1000 (by omega)), _, _, rfl, rfl, _, rfl, by rw [tx_len]; omega, by rw [tx_len]; omega, ?_⟩
      rw [tx_len]
      have en : (((wd.length : Nat) : Int) + 1).toNat = wd.length + 1 := by omega
      rw [en]
      refine for_range (lo := 0) (n := wd.length + 1) (fun k σ H' => ∃ (T2 : Tab) (mr : Bool) (x7 x8 x9 x10 x11 : Option V), σ = [some (.ref g), some (.str (tx wd)), some (.ref d), some (.bl mr), some (.int (i : Nat)), some (.int (n : Nat)), some (.ref ba), x7, x8, x9, x10, x11] ∧ Same H H' ∧ TabAt H' d wd.length T2 ∧ Pass R wd T T2 mr ∧
          (mr = false → mrA = false) ∧ (mr = false → ∀ p, p < k → ∀ q ks, Rd wd T body p q ks → ∃ t, T n p q = some t))
        ⟨TA, mrA, y7, y8, y9, y10, y11, rfl, s4, hTA3, PA, id, fun _ p z => absurd z (Nat.not_lt_zero p)⟩ ?_ ?_
      · rintro k σ H4 hk ⟨TB, mrB, z7, z8, z9, z10, z11, rfl, s5, hTB, PB, kA, closedB⟩
        have ei : (0 : Int) + ((k : Nat) : Int) = ((k : Nat) : Int) := by omega
        show (gName 7) (.int ((0 : Int) + ((k : Nat) : Int))) _ H4 _
        rw [ei]
        refine ⟨_, rfl, _, rfl, _, rfl, _, rfl, ba, d, _, body, wd, k, TB, rfl, hba.up s5.tups, ⟨_, rfl, hTB⟩, hw, by omega, wf.len n body mR, fun n' p' q' t' e => (PB.good.bound hw e).1, fun H5 y rows s6 ny hy hrows => ⟨y, _, rfl, hy, fun od => ?_⟩⟩
        have few := hrows.few
        obtain ⟨rowsB, hdB, _⟩ := hTB.ex
        have dy : d ≠ y := ne_of_none hdB ny
        have y0 : H y = none := s5.free ny
        have tpf := tups_putD (o := .frz od (.dK (rows.map kvT))) hy
        have hfz : (upd H5 y (.frz od (.dK (rows.map kvT)))) y = some (.frz od (.dK (rows.map kvT))) := upd_same
        have s7 : Same H (upd H5 y (.frz od (.dK (rows.map kvT)))) := (s5.trans s6).put y0
        have hT6 : TabAt (upd H5 y (.frz od (.dK (rows.map kvT)))) d wd.length TB := (hTB.same s6).up tpf fun o e => by rw [upd_ne dy]; exact e
        have hr6 := hrows.up tpf
        generalize upd H5 y (.frz od (.dK (rows.map kvT))) = H6 at hfz s7 hT6 hr6
        refine ⟨y, od, _, rfl, hfz, ?_⟩
        refine for_itemsF (d := y) (o := od) (kvs := rows.map kvT) (fun l σ H' => ∃ (T2 : Tab) (mr : Bool) (x8 x9 x10 x11 : Option V), σ = [some (.ref g), some (.str (tx wd)), some (.ref d), some (.bl mr), some (.int (i : Nat)), some (.int (n : Nat)), some (.ref ba), some (.int (k : Nat)), x8, x9, x10, x11] ∧ Same H H' ∧
            H' y = some (.frz od (.dK (rows.map kvT))) ∧ Tups H6 H' ∧ TabAt H' d wd.length T2 ∧ Pass R wd T T2 mr ∧ TB.le T2 ∧ (mr = false → mrB = false) ∧ (mr = false → ∀ x ∈ rows.take l, ∃ t, T n k x.1 = some t))
          ⟨TB, mrB, z8, z9, z10, z11, rfl, s7, hfz, Tups.refl H6, hT6, PB, Tab.le_refl TB, id, fun _ _ z => (nomatch z)⟩ (fun l σ H' ⟨_, _, _, _, _, _, _, _, z, _⟩ => z) ?_ ?_
        · rintro l key v σ H7 T'' hl ⟨TC, mrC, w8, w9, w10, w11, rfl, s8, hfz7, t67, hTC, PC, leC, kB, closedC⟩ nT''
          obtain ⟨⟨q', r0⟩, hx, exy⟩ : ∃ x, rows[l]? = some x ∧ kvT x = (key, v) := by
            rw [List.getElem?_map] at hl
            exact Option.map_eq_some_iff.mp hl
          have ek : key = Sum.inl ((q' : Nat) : Int) := (congrArg Prod.fst exy).symm
          have ev : v = .ref r0 := (congrArg Prod.snd exy).symm
          subst ek ev
          have mx : (q', r0) ∈ rows := List.mem_of_getElem? hx
          have mtx := fun x : Nat × Addr => mem_take1 hx (x := x)
          obtain ⟨h6, ks, hent, hrd⟩ := hr6.ok _ mx
          have hrd : Rd wd TB body k q' ks := hrd
          have s9 : Same H7 (upd H7 T'' (.tup [kV (Sum.inl ((q' : Nat) : Int)), .ref r0])) := same_new nT''
          obtain ⟨kt, as0, ent1, ent2, ent3⟩ := (hent.up t67).up s9.tups
          have s89 := s8.trans s9
          refine ⟨T'', _, rfl, SqT.of upd_same, rfl, _, _, rfl, _, _, rfl, r0, _, rfl, SqT.of ent1, rfl, _, _, rfl, _, _, rfl, rfl, rfl, ?_⟩
          have hfz8 := s9 _ _ hfz7
          have hTC8 := hTC.same s9
          have t68 := t67.trans s9.tups
          generalize upd H7 T'' (.tup [kV (Sum.inl ((q' : Nat) : Int)), .ref r0]) = H8 at ent1 ent2 ent3 s89 hfz8 hTC8 t68 s9
          refine ⟨_, rfl, _, rfl, _, rfl, (by show 3 ≤ sizeLine; decide), fun kb nkb => ?_⟩
          have s10 : Same H8 (upd H8 kb (.tup [.int (n : Nat), .int (k : Nat), kV (Sum.inl ((q' : Nat) : Int))])) := same_new nkb
          have hkb : (upd H8 kb (.tup [.int (n : Nat), .int (k : Nat), kV (Sum.inl ((q' : Nat) : Int))])) kb = some (.tup ((ky n k q').map kV)) := upd_same
          have hfz9 := s10 _ _ hfz8
          have hTC9 := hTC8.same s10
          have t69 := t68.trans s10.tups
          have s9b := s89.trans s10
          have ent2' := s10.tups _ _ ent2
          have ent3' := ent3.up s10.tups
          generalize upd H8 kb (.tup [.int (n : Nat), .int (k : Nat), kV (Sum.inl ((q' : Nat) : Int))]) = H9 at hkb hfz9 hTC9 t69 s9b ent2' ent3'
          have kle : k ≤ wd.length := by omega
          have qle : q' ≤ wd.length := hrd.le.2
          obtain ⟨rows9, hd9, nd9, all9, hv9⟩ := hTC9.ex
          have fewr := TabAt.few (H := H9) (d := d) (T := TC) nd9 all9 hw
          -- a store, from any heap that keeps this one
          have store : ∀ (H10 : Hp), Same H9 H10 → (∀ t, TC n k q' = some t → sizes ks + 1 < t.size) → ∀ (D : Ends) (σ : L2.St), σ = [some (V.ref g), some (.str (tx wd)), some (.ref d), some (.bl mrC), some (.int (i : Nat)), some (.int (n : Nat)), some (.ref ba), some (.int (k : Nat)), some (.int (q' : Nat)), some (.int ((sizes ks : Nat) : Int)), some (.ref kt), some (.ref kb)] →
              (∀ (H11 : Hp) (T3 : Tab), Same H H11 → H11 y = some (.frz od (.dK (rows.map kvT))) → Tups H6 H11 → TabAt H11 d wd.length T3 → Pass R wd T T3 true → TB.le T3 → D.nx [some (V.ref g), some (.str (tx wd)), some (.ref d), some (.bl true), some (.int (i : Nat)), some (.int (n : Nat)), some (.ref ba), some (.int (k : Nat)), some (.int (q' : Nat)), some (.int ((sizes ks : Nat) : Int)), some (.ref kt), some (.ref kb)] H11) →
              tSeq (sDPut (tVar 2) (tVar 11) (tTup (tCons (tVar 4) (tCons (tVar 10) tNil)))) (tAsg (tC (.bl true)) (gName 3)) D σ H10 := by
            intro H10 s11 less D σ eσ kont
            subst eσ
            refine ⟨_, rfl, _, rfl, (by show 2 ≤ sizeLine; decide), fun e ne => ?_⟩
            have s12 : Same H9 (upd H10 e (.tup [.int (i : Nat), .ref kt])) := s11.new ne
            have het : TreeAt (upd H10 e (.tup [.int (i : Nat), .ref kt])) e (.nd i ks) := .nd upd_same (s12 _ _ ent2') (ent3'.up s12.tups)
            have hd12 := s12 _ _ hd9
            refine ⟨_, rfl, _, rfl, d, _, rfl, DPut.t (k := ky n k q') hd12 (s12 _ _ hkb) (by rw [List.length_map]; exact small1000 (by omega)), ?_⟩
            obtain ⟨G3, le3⟩ := PC.good.put PB.good leC hR n3 (wf.two n body mR) hrd less
            have b3 := (G3.bound hw (Tab.put_same TC n k q' (.nd i ks))).1
            have less' : ∀ t', TC n k q' = some t' → (Tree.nd i ks).size < t'.size := fun t' e => by have := less t' e; rw [size_nd]; omega
            have mu3 := mu_put (m := wd.length) n3 kle qle (by omega) less'
            have muC : mu wd.length TC ≤ mu wd.length T := by
              cases hm : mrC with
              | false => rw [PC.same hm]; exact Nat.le_refl _
              | true => exact Nat.le_of_lt (PC.less hm)
            have tp : Tups (upd H10 e (.tup [.int (i : Nat), .ref kt])) (upd (upd H10 e (.tup [.int (i : Nat), .ref kt])) d (.dT (putK (rows9.map rowT) (ky n k q') (.ref e)))) := Tups.upd hd12 fun _ z => nomatch z
            refine kont _ (TC.put n k q' (.nd i ks)) ((s9b.trans s12).put nd) ?_ ((t69.trans s12.tups).trans tp) ((hTC9.same s12).put n3 kle qle het _ hd12) ⟨G3, fun z => (nomatch z), fun _ => by omega⟩ (Tab.le_trans leC le3)
            rw [upd_ne dy.symm]
            exact s12 _ _ hfz9
          refine ⟨_, rfl, _, rfl, d, _, rfl, DGet.t (k := ky n k q') hd9 hkb, _, rfl, ?_⟩
          rcases hv9 n k q' with ⟨e1, e2⟩ | ⟨t, a, e1, e2, e3⟩
          · rw [e2]
            refine iteT (iteT ?_)
            exact store H9 (Same.refl H9) (fun t e => by rw [e1] at e; cases e) _ _ rfl fun H11 T3 a1 a2 a3 a4 a5 a6 => ⟨T3, true, _, _, _, _, rfl, a1, a2, a3, a4, a5, a6, fun z => (nomatch z), fun z => (nomatch z)⟩
          · rw [e2]
            have b271 := (PC.good.bound hw e1).1
            refine iteF ⟨_, rfl, _, _, rfl, rfl, _, rfl, _, rfl, d, .ref a, rfl, by rw [← e2]; exact DGet.t (k := ky n k q') hd9 hkb, a, t, rfl, e3, by omega, fun H10 s11 => ⟨_, _, rfl, rfl, _, rfl, ?_⟩⟩
            refine ite2 (fun c => ?_) (fun c => ?_)
            · have c' : ((sizes ks : Nat) : Int) + 1 < ((t.size : Nat) : Int) := of_decide_eq_true c
              exact store H10 s11 (fun t' e => by rw [e1] at e; cases e; omega) _ _ rfl fun H11 T3 a1 a2 a3 a4 a5 a6 => ⟨T3, true, _, _, _, _, rfl, a1, a2, a3, a4, a5, a6, fun z => (nomatch z), fun z => (nomatch z)⟩
            · refine ⟨TC, mrC, _, _, _, _, rfl, s9b.trans s11, s11 _ _ hfz9, t69.trans s11.tups, hTC9.same s11, PC, leC, kB, fun hm x hx => ?_⟩
              rcases (mtx x).mp hx with z | z
              · exact closedC hm x z
              · rw [z]
                refine ⟨t, ?_⟩
                rw [← PC.same hm]
                exact e1
        · rintro σ H7 ⟨TC, mrC, w8, w9, w10, w11, rfl, s8, hfz7, t67, hTC, PC, leC, kB, closedC⟩
          have el : rows.take (rows.map kvT).length = rows := by rw [List.length_map, List.take_length]
          rw [el] at closedC
          refine ⟨TC, mrC, _, _, _, _, _, rfl, s8, hTC, PC, fun hm => kA (kB hm), fun hm p hp q'' ks h => ?_⟩
          rcases Nat.lt_or_ge p k with z | z
          · exact closedB (kB hm) p z q'' ks h
          · have e : p = k := by omega
            subst e
            have eB : TB = T := PB.same (kB hm)
            obtain ⟨x, hx, ex⟩ := List.mem_map.mp (hrows.all q'' ⟨ks, by rw [eB]; exact h⟩)
            obtain ⟨t, ht⟩ := closedC hm x hx
            exact ⟨t, by rw [← ex]; exact ht⟩
      · rintro σ H4 ⟨TB, mrB, z7, z8, z9, z10, z11, rfl, s5, hTB, PB, kA, closedB⟩
        refine ⟨TB, mrB, _, _, _, _, _, _, _, _, rfl, s5, hTB, PB, fun hm n' body' h1 p q' ks h2 => ?_⟩
        rcases (mt _).mp h1 with z | z
        · exact closedA (kA hm) n' body' z p q' ks h2
        · cases z
          exact closedB hm p (by have := h2.le; omega) q' ks h2
    · rintro σ H2 ⟨TA, mrA, y4, y5, y6, y7, y8, y9, y10, y11, rfl, s3, hTA, PA, closedA⟩
      rw [List.length_map, las, List.take_length] at closedA
      refine ⟨mu wd.length TA + (if mrA = true then 1 else 0), ?_, TA, mrA, _, _, _, _, _, _, _, _, rfl, rfl, s3, hTA, PA.good, fun hm n body h p q' ks h2 => ?_⟩
      · cases mrA with
        | false =>
          rw [PA.same rfl]
          simp
        | true =>
          have := PA.less rfl
          simp
          omega
      · have e := PA.same hm
        rw [e] at h2
        obtain ⟨t, ht⟩ := closedA hm n body h p q' ks h2
        exact ⟨t, by rw [e]; exact ht⟩
end
end Wk

/-! W18: the law's own small looks: names, whole numbers, under, has. -/
namespace Wk
open PySem hiding Tree
open L2 KX K55
section
variable {P : Program} {w : World} {K : PySem.W.Frag} {mg : Str → Option Value} {base : Heap}
/-! ### _law_inner -/
theorem scInner : FnScope ["_law_body", "_law_thing"] ["_law_body"] (defScope sInner) := ⟨rfl, rfl, rfl, by decide +kernel, rfl, by decide +kernel, by decide +kernel⟩
theorem d_inner (S : Src K mg "_law_inner" sInner ["_law_body"]) (B : Blt mg) : Dfn P w K mg base "_law_inner" 1 ["_law_body"] spNames := by
  obtain ⟨f, fd, gf, F, bd⟩ := S.ex
  refine ⟨f, fd, gf, F.ok scInner (fun vs H Q E h => ?_) (fun cdv A outer s H vs Q E hr h => ?_), bd, F.kp⟩
  · obtain ⟨b, body, rfl, _⟩ := h
    rfl
  obtain ⟨b, body, rfl, hb, hl, q⟩ := h
  refine ⟨_, pss_one (ps_ret (pe_lc (own := [("_law_thing", 1)]) (g := gName 1) rfl scInner.nd (pi_tup (pv 0)) (blkOk_by (N := ["_law_body", "_law_thing"]) (sc := defScope sInner) (by decide +kernel)) (fun _ _ _ _ _ => pg_name (i := 1) scInner.nd rfl (Or.inl rfl))
    (fun _ _ _ _ _ => pts_one (pt_not (pt_val (pe_isS (by rfl) (by rfl) B.isi B.str (pv 1))))) (fun _ _ _ _ _ => pv 1))), ?_⟩
  refine ⟨_, rfl, b, rfl, ⟨_, SqT.of hb⟩, fun D hD => ?_⟩
  refine lc_tup (xs := body.map thV) (fun i H' => Same H H' ∧ H' D = some (.lst ((K55.namesOf (body.take i)).map nmV))) ⟨same_new hD, upd_same⟩ (fun i H' _ p => SqT.of (p.1 _ _ hb)) ?_ ?_
  · rintro i x H' hi ⟨sm, hd⟩
    obtain ⟨t, ht, rfl⟩ : ∃ t, body[i]? = some t ∧ thV t = x := by
      rw [List.getElem?_map] at hi
      exact Option.map_eq_some_iff.mp hi
    have en := namesOf_take body i t ht
    refine ⟨rfl, _, rfl, _, rfl, th_isS t, _, rfl, ?_⟩
    rw [th_S]
    cases t with
    | lt c =>
      show Same H H' ∧ _
      rw [en]
      exact ⟨sm, by rw [List.append_nil]; exact hd⟩
    | nm n =>
      refine ⟨_, rfl, _, hd, ?_, sm.put hD, ?_⟩
      · rw [List.length_map]
        have l1 := namesOf_len (body.take i)
        have l2 : (body.take i).length ≤ body.length := List.length_take_le' _ _
        exact small1000 (by omega)
      · rw [upd_same, en, List.map_append]
        rfl
  · rintro H' ⟨sm, hd⟩
    refine q H' D sm hD ?_
    rw [hd, List.length_map, List.take_length]
/-! ### _law_whole -/
def spWhole : Sp := fun vs H Q _ => ∃ i : Int, vs = [.int i] ∧ Q (.bl true) H
theorem scWhole : FnScope ["_law_found"] ["_law_found"] (defScope sWhole) := ⟨rfl, rfl, rfl, by decide +kernel, rfl, by decide +kernel, by decide +kernel⟩
theorem d_whole (S : Src K mg "_law_whole" sWhole ["_law_found"]) (B : Blt mg) : Dfn P w K mg base "_law_whole" 1 ["_law_found"] spWhole := by
  obtain ⟨f, fd, gf, F, bd⟩ := S.ex
  refine ⟨f, fd, gf, F.ok scWhole (fun vs H Q E h => ?_) (fun cdv A outer s H vs Q E hr h => ?_), bd, F.kp⟩
  · obtain ⟨i, rfl, _⟩ := h
    rfl
  obtain ⟨i, rfl, q⟩ := h
  refine ⟨_, pss_one (ps_ret (pe_and (pe_callB call_isi (by rfl) B.isi boot_isi (pa_cons (pv 0) (pa_cons (pe_bltn (v := .ty "int") (u := .type "int") (by rfl) B.int (by decide +kernel) rfl) pa_nil)))
    (pe_one (pe_not (pe_callB call_isi (by rfl) B.isi boot_isi (pa_cons (pv 0) (pa_cons (pe_bltn (v := .ty "bool") (u := .type "bool") (by rfl) B.bool (by decide +kernel) rfl) pa_nil))))))), ?_⟩
  refine ⟨_, rfl, _, _, .type "int", .type "int", true, rfl, .ty _, .base (.int i), kit_ty (by decide +kernel), _, rfl, ?_⟩
  refine iteT ⟨_, rfl, _, _, .type "int", .type "bool", false, rfl, .ty _, .base (.int i), kit_ty (by decide +kernel), _, rfl, q⟩
/-! ### _law_under -/
def spUnder : Sp := fun vs H Q _ => ∃ u v : List Nat, vs = [.str (tx u), .str (tx v)] ∧ u.length ≤ 1000 ∧ v.length ≤ 1000 ∧ u.Sublist v ∧ Q (.bl true) H
abbrev nUnder : List Str := ["_law_less", "_law_more", "_law_at", "_law_letter"]
theorem scUnder : FnScope nUnder ["_law_less", "_law_more"] (defScope sUnder) := ⟨rfl, rfl, rfl, by decide +kernel, rfl, by decide +kernel, by decide +kernel⟩
theorem d_under (S : Src K mg "_law_under" sUnder ["_law_less", "_law_more"]) (B : Blt mg) : Dfn P w K mg base "_law_under" 1 ["_law_less", "_law_more"] spUnder := by
  obtain ⟨f, fd, gf, F, bd⟩ := S.ex
  refine ⟨f, fd, gf, F.ok scUnder (fun vs H Q E h => ?_) (fun cdv A outer s H vs Q E hr h => ?_), bd, F.kp⟩
  · obtain ⟨u, v, rfl, _⟩ := h
    rfl
  obtain ⟨u, v, rfl, lu, lv, hs, q⟩ := h
  refine ⟨_, pss_cons (ps_set (i := 2) scUnder.nd rfl (.inl rfl) pe_int)
    (pss_cons (ps_for PassesOwn.never rfl (pi_str (pv 1)) (pg_name (i := 3) scUnder.nd rfl (.inl rfl))
      (pss_one (ps_aug (i := 2) scUnder.nd rfl (.inl rfl) (pe_callTy call_int1 (by rfl) B.int (by decide +kernel) (pa_cons (pe_cmpR op_eq (pe_slice sl_str (pv 0) (po_some (pv 2)) (po_some (pe_op op_add (pv 2) pe_int))) (pv 3) (nomark _)) pa_nil)) ip_add)))
    (pss_one (ps_ret (pe_cmpR op_eq (pv 2) (pe_callB call_len_str (by rfl) B.len PySem.boot_len (pa_cons (pv 0) pa_nil)) (nomark _))))), ?_⟩
  refine ⟨_, rfl, tx v, rfl, for_str (x := tx v) (fun i σ H' => ∃ (j : Nat) (x3 : Option V), σ = [some (.str (tx u)), some (.str (tx v)), some (.int (j : Nat)), x3] ∧ H' = H ∧ j ≤ u.length ∧ eat u (v.take i) = u.drop j) ⟨0, none, rfl, rfl, Nat.zero_le _, rfl⟩ ?_ ?_⟩
  · rintro i c σ H' hi ⟨j, x3, rfl, rfl, hj, he⟩
    have hc : v[i]? = some c := by
      rw [← tx_list v, Array.getElem?_toList]
      exact hi
    have ev : v.take (i + 1) = v.take i ++ [c] := by rw [List.take_add_one, hc]; rfl
    have ee : eat u (v.take (i + 1)) = eatB c (u.drop j) := by
      rw [ev]
      unfold eat
      rw [List.foldl_append]
      show eatB c (eat u (v.take i)) = _
      rw [he]
    refine ⟨_, rfl, _, rfl, _, rfl, _, rfl, _, rfl, _, _, rfl, rfl, _, rfl, _, rfl, by rw [tx_len]; exact Nat.le_of_lt (small1000 (by omega)), _, rfl, rfl, .inr ⟨_, rfl, _, _, rfl, rfl, ?_⟩⟩
    rw [cut_sign u j _ _ rfl (by omega)]
    rcases Nat.lt_or_ge j u.length with lt | ge
    · have ed : u.drop j = u[j] :: u.drop (j + 1) := List.drop_eq_getElem_cons lt
      have eg : u[j]? = some u[j] := List.getElem?_eq_getElem lt
      rw [ed] at ee
      by_cases h : u[j] = c
      · have e1 : decide (V.str (tx u[j]?.toList) = V.str ⟨#[c]⟩) = true := decide_eq_true (by rw [eg, h]; rfl)
        rw [e1]
        have e2 : eatB c (u[j] :: u.drop (j + 1)) = u.drop (j + 1) := by show (if u[j] = c then _ else _) = _; rw [if_pos h]
        exact ⟨j + 1, some (.str ⟨#[c]⟩), by simp, rfl, lt, by rw [ee, e2]⟩
      · have e1 : decide (V.str (tx u[j]?.toList) = V.str ⟨#[c]⟩) = false := decide_eq_false fun z => h (by
          rw [eg] at z
          exact tx1_inj (V.str.inj z))
        rw [e1]
        have e2 : eatB c (u[j] :: u.drop (j + 1)) = u[j] :: u.drop (j + 1) := by show (if u[j] = c then _ else _) = _; rw [if_neg h]
        exact ⟨j, some (.str ⟨#[c]⟩), by simp, rfl, hj, by rw [ee, e2, ed]⟩
    · have ed : u.drop j = [] := List.drop_eq_nil_of_le ge
      have eg : u[j]? = none := List.getElem?_eq_none ge
      have e1 : decide (V.str (tx u[j]?.toList) = V.str ⟨#[c]⟩) = false := decide_eq_false fun z => by
        rw [eg] at z
        have z2 : ([] : List Nat) = [c] := tx_inj (V.str.inj z)
        cases z2
      rw [e1]
      rw [ed] at ee
      exact ⟨j, some (.str ⟨#[c]⟩), by simp, rfl, hj, by rw [ee, ed]; rfl⟩
  · rintro σ H' ⟨j, x3, rfl, rfl, hj, he⟩
    have ev : v.take (tx v).cps.size = v := by rw [show (tx v).cps.size = v.length from tx_len v, List.take_length]
    rw [ev, eat_sub v u hs] at he
    have ej : j = u.length := by
      have z := congrArg List.length he
      rw [List.length_drop] at z
      simp at z
      omega
    refine ⟨_, rfl, _, rfl, tx u, rfl, by rw [tx_len]; exact Nat.le_of_lt (small1000 lu), rfl, ?_⟩
    have e1 : decide (V.int ((j : Nat) : Int) = V.int (((tx u).length : Nat) : Int)) = true := decide_eq_true (by rw [tx_len, ej])
    show Q (V.bl (decide (V.int ((j : Nat) : Int) = V.int (((tx u).length : Nat) : Int)))) _
    rw [e1]
    exact q
/-! ### _law_product_has -/
def spPHas : Sp := fun vs H Q _ => ∃ (a : Addr) (pr : Product) (wd : List Nat), vs = [.ref a, .str (tx wd)] ∧ PrAt H a pr ∧ pr.length ≤ 1000 ∧ Q (.bl (K55.has pr wd)) H
abbrev nPHas : List Str := ["_law_product", "_law_word_here", "_law_at", "_law_letter"]
theorem scPHas : FnScope nPHas ["_law_product", "_law_word_here"] (defScope sPHas) := ⟨rfl, rfl, rfl, by decide +kernel, rfl, by decide +kernel, by decide +kernel⟩
theorem d_pHas (S : Src K mg "_law_product_has" sPHas ["_law_product", "_law_word_here"]) (B : Blt mg) : Dfn P w K mg base "_law_product_has" 1 ["_law_product", "_law_word_here"] spPHas := by
  obtain ⟨f, fd, gf, F, bd⟩ := S.ex
  refine ⟨f, fd, gf, F.ok scPHas (fun vs H Q E h => ?_) (fun cdv A outer s H vs Q E hr h => ?_), bd, F.kp⟩
  · obtain ⟨a, pr, wd, rfl, _⟩ := h
    rfl
  obtain ⟨a, pr, wd, rfl, ⟨cs, ha, hcs⟩, hl, q⟩ := h
  refine ⟨_, pss_cons (ps_set (i := 2) scPHas.nd rfl (.inl rfl) pe_int)
    (pss_cons (ps_for PassesOwn.never rfl (pi_str (pv 1)) (pg_name (i := 3) scPHas.nd rfl (.inl rfl))
      (pss_cons (ps_while PassesOwn.never (PW.pt (pw_and (pt_cmpR op_lt (pv 2) (pe_callB call_len_seq (by rfl) B.len PySem.boot_len (pa_cons (pv 0) pa_nil)) (nomark _))
          (pw_and1 (pt_cmpR op_notIn_sign (pv 3) (pe_ix ix_tup (pe_ix ix_tup (pv 0) (pv 2) (fun _ _ => rfl)) pe_int (fun _ _ => rfl)) (by rfl)))))
        (pss_one (ps_aug (i := 2) scPHas.nd rfl (.inl rfl) pe_int ip_add)))
      (pss_cons (ps_if (pt_cmpR op_eq (pv 2) (pe_callB call_len_seq (by rfl) B.len PySem.boot_len (pa_cons (pv 0) pa_nil)) (nomark _)) (pss_one (ps_ret pe_bl)) pss_nil)
      (pss_one (ps_aug (i := 2) scPHas.nd rfl (.inl rfl) (pe_callTy call_int1 (by rfl) B.int (by decide +kernel) (pa_cons (pe_cmpR op_eq (pe_ix ix_tup (pe_ix ix_tup (pv 0) (pv 2) (fun _ _ => rfl)) pe_int (fun _ _ => rfl)) pe_str (nomark _)) pa_nil)) ip_add)))))
    (pss_one (ps_ret pe_bl))), ?_⟩
  have hlcs : cs.length = pr.length := hcs.len
  have lb : (cs.map V.ref).length = pr.length := by rw [List.length_map, hlcs]
  have hbb : SqT K H a (cs.map V.ref) := SqT.of ha
  refine ⟨_, rfl, tx wd, rfl, for_str (x := tx wd) (fun i σ H' => ∃ (j : Nat) (x3 : Option V), σ = [some (.ref a), some (.str (tx wd)), some (.int (j : Nat)), x3] ∧ H' = H ∧ j ≤ pr.length ∧ K55.has (pr.drop j) (wd.drop i) = K55.has pr wd) ⟨0, none, rfl, rfl, Nat.zero_le _, rfl⟩ ?_ ?_⟩
  · rintro i c σ H' hi ⟨j, x3, rfl, rfl, hj, hh⟩
    have hc : wd[i]? = some c := by
      rw [← tx_list wd, Array.getElem?_toList]
      exact hi
    have ew : wd.drop i = c :: wd.drop (i + 1) := by
      obtain ⟨lt, e⟩ := List.getElem?_eq_some_iff.mp hc
      rw [List.drop_eq_getElem_cons lt, e]
    rw [ew] at hh
    refine ⟨fun m σ HH => ∃ j : Nat, m = pr.length - j ∧ σ = [some (.ref a), some (.str (tx wd)), some (.int (j : Nat)), some (.str ⟨#[c]⟩)] ∧ HH = H' ∧ j ≤ pr.length ∧ K55.has (pr.drop j) (c :: wd.drop (i + 1)) = K55.has pr wd, ⟨_, j, rfl, rfl, rfl, hj, hh⟩, ?_⟩
    rintro m σ HH ⟨j, rfl, rfl, eHH, hj, hh⟩
    subst eHH
    refine ⟨_, rfl, _, rfl, a, _, rfl, .inr hbb, _, _, rfl, rfl, _, rfl, ?_⟩
    rw [lb]
    by_cases hjr : j < pr.length
    · have e1 : decide (((j : Nat) : Int) < ((pr.length : Nat) : Int)) = true := decide_eq_true (by omega)
      rw [e1]
      have hy : pr[j]? = some pr[j] := List.getElem?_eq_getElem hjr
      obtain ⟨d, hd, pd⟩ := hcs.get hy
      have hdv : (cs.map V.ref)[j]? = some (.ref d) := by rw [List.getElem?_map, hd]; rfl
      have er : pr.drop j = pr[j] :: pr.drop (j + 1) := List.drop_eq_getElem_cons hjr
      rw [er, has_cons] at hh
      refine iteT ⟨_, rfl, _, rfl, _, rfl, a, _, (j : Nat), _, rfl, rfl, hbb, atI_nat hdv, d, _, 1, _, rfl, rfl, pd.sq, atI_nat (j := 1) rfl, c, tx pr[j].ls, rfl, rfl, _, rfl, ?_⟩
      rw [tx_list]
      by_cases hm : c ∈ pr[j].ls
      · rw [if_pos hm] at hh
        rw [decide_eq_true hm]
        refine iteF ?_
        refine ⟨_, rfl, _, rfl, a, _, rfl, .inr hbb, rfl, _, rfl, ?_⟩
        rw [lb]
        have e2 : decide (V.int ((j : Nat) : Int) = V.int ((pr.length : Nat) : Int)) = false := decide_eq_false fun z => by
          have z := V.int.inj z
          omega
        rw [e2]
        refine iteF ?_
        refine ⟨_, rfl, _, rfl, _, rfl, a, _, (j : Nat), _, rfl, rfl, hbb, atI_nat hdv, d, _, 0, _, rfl, rfl, pd.sq, atI_nat (j := 0) rfl, rfl, .inr ⟨_, rfl, ?_⟩⟩
        rw [kind_mb]
        refine ⟨_, _, rfl, rfl, ?_⟩
        cases ha' : pr[j].isAny with
        | true =>
          rw [ha', if_pos rfl] at hh
          exact ⟨j, some (.str ⟨#[c]⟩), by simp, rfl, hj, by rw [er]; exact hh⟩
        | false =>
          rw [ha'] at hh
          exact ⟨j + 1, some (.str ⟨#[c]⟩), by simp, rfl, hjr, hh⟩
      · rw [if_neg hm] at hh
        rw [decide_eq_false hm]
        refine iteT ⟨fun σ' H'' => ∃ m', m' < pr.length - j ∧ ∃ j : Nat, m' = pr.length - j ∧ σ' = [some (.ref a), some (.str (tx wd)), some (.int (j : Nat)), some (.str ⟨#[c]⟩)] ∧ H'' = HH ∧ j ≤ pr.length ∧ K55.has (pr.drop j) (c :: wd.drop (i + 1)) = K55.has pr wd, fun _ _ z => z, ?_⟩
        refine ⟨_, rfl, _, _, rfl, rfl, ?_⟩
        exact ⟨pr.length - (j + 1), by omega, j + 1, rfl, rfl, rfl, hjr, hh⟩
    · have ej : j = pr.length := by omega
      subst ej
      have e1 : decide (((pr.length : Nat) : Int) < ((pr.length : Nat) : Int)) = false := decide_eq_false (by omega)
      rw [e1]
      refine iteF (iteF ?_)
      refine ⟨_, rfl, _, rfl, a, _, rfl, .inr hbb, rfl, _, rfl, ?_⟩
      rw [lb]
      have e2 : decide (V.int ((pr.length : Nat) : Int) = V.int ((pr.length : Nat) : Int)) = true := decide_eq_true rfl
      rw [e2]
      refine iteT ?_
      rw [List.drop_length, K55.has_none] at hh
      rw [← hh] at q
      exact q
  · rintro σ H' ⟨j, x3, rfl, rfl, hj, hh⟩
    rw [show (tx wd).cps.size = wd.length from tx_len wd, List.drop_length, has_nil] at hh
    rw [← hh] at q
    exact q
/-! ### _law_has -/
def spHas : Sp := fun vs H Q _ => ∃ (e : Addr) (S : List Product) (wd : List Nat), vs = [.ref e, .str (tx wd)] ∧ ExAt H e S ∧ S.length ≤ 1000 ∧ (∀ p ∈ S, p.length ≤ 1000) ∧ ∀ H' b, Same H H' → (b = true ↔ Words S wd) → Q (.bl b) H'
abbrev nHas : List Str := ["_law_expression", "_law_word_here", "_law_product"]
theorem scHas : FnScope nHas ["_law_expression", "_law_word_here"] (defScope sHas) := ⟨rfl, rfl, rfl, by decide +kernel, rfl, by decide +kernel, by decide +kernel⟩
theorem d_has (S0 : Src K mg "_law_has" sHas ["_law_expression", "_law_word_here"]) (B : Blt mg) (D1 : Dfn P w K mg base "_law_product_has" 1 ["_law_product", "_law_word_here"] spPHas) : Dfn P w K mg base "_law_has" 2 ["_law_expression", "_law_word_here"] spHas := by
  obtain ⟨f, fd, gf, F, bd⟩ := S0.ex
  obtain ⟨f1, fd1, g1, G1, b1, k1⟩ := D1.ex
  refine ⟨f, fd, gf, F.ok scHas (fun vs H Q E h => ?_) (fun cdv A outer s H vs Q E hr h => ?_), bd, F.kp⟩
  · obtain ⟨e, S, wd, rfl, _⟩ := h
    rfl
  obtain ⟨e, S, wd, rfl, ⟨bs, he, hbs⟩, lS, lp, q⟩ := h
  refine ⟨_, pss_one (ps_ret (pe_callB (cr_any rfl) (by rfl) B.any (by decide +kernel) (pa_cons (pe_lc (own := [("_law_product", 2)]) (g := gName 2) (tt := tYes) rfl scHas.nd (pi_tup (pv 0)) (blkOk_by (N := nHas) (sc := defScope sHas) (by decide +kernel)) (fun _ _ _ _ _ => pg_name (i := 2) scHas.nd rfl (Or.inl rfl))
    (fun _ _ _ _ _ => pts_nil) (fun _ _ _ _ _ => pe_call G1 hr (by rfl) g1 k1 b1 .nil pass0 (pa_cons (pv 2) (pa_cons (pv 1) pa_nil)))) pa_nil))), ?_⟩
  refine ⟨_, rfl, e, rfl, ⟨_, SqT.of he⟩, fun D hD => ?_⟩
  refine lc_tup (xs := bs.map V.ref) (fun i H' => Same H H' ∧ H' D = some (.lst (((S.take i).map fun p => K55.has p wd).map V.bl))) ⟨same_new hD, upd_same⟩ (fun i H' _ p => SqT.of (p.1 _ _ he)) ?_ ?_
  · rintro i x H' hi ⟨sm, hd⟩
    obtain ⟨b, hb, rfl⟩ : ∃ t, bs[i]? = some t ∧ V.ref t = x := by
      rw [List.getElem?_map] at hi
      exact Option.map_eq_some_iff.mp hi
    obtain ⟨p, hp, pp⟩ := hbs.getL hb
    have mp := List.mem_of_getElem? hp
    refine ⟨rfl, _, rfl, _, rfl, b, p, wd, rfl, pp.up sm.tups, lp p mp, _, hd, ?_, sm.put hD, ?_⟩
    · rw [List.length_map, List.length_map]
      have l2 : (S.take i).length ≤ S.length := List.length_take_le' _ _
      have l3 : i < S.length := (List.getElem?_eq_some_iff.mp hp).1
      refine small1000 (Nat.le_trans l2 lS)
    · rw [upd_same, List.take_add_one, hp, List.map_append, List.map_append]
      rfl
  · rintro H' ⟨sm, hd⟩
    rw [List.length_map, hbs.len, List.take_length] at hd
    refine ⟨D, _, rfl, SqL.of hd, q H' _ sm ?_⟩
    rw [List.any_map, List.any_eq_true]
    unfold Words
    constructor
    · rintro ⟨p, hp, h⟩; exact ⟨p, hp, (has_inP p wd).mp h⟩
    · rintro ⟨p, hp, h⟩; exact ⟨p, hp, (has_inP p wd).mpr h⟩
end
end Wk

/-! W19: _law_is_tree, _law_word_of. -/
namespace Wk
open PySem hiding Tree
open L2 KX K55
theorem depths_mem : ∀ {ts : List Tree} {t : Tree}, t ∈ ts → t.depth ≤ depths ts
  | u :: ts, t, h => by
    rw [depths_cons]
    rcases List.mem_cons.mp h with e | h
    · rw [e]; exact Nat.le_max_left _ _
    · exact Nat.le_trans (depths_mem h) (Nat.le_max_right _ _)
theorem sizes_mem : ∀ {ts : List Tree} {t : Tree}, t ∈ ts → t.size ≤ sizes ts
  | u :: ts, t, h => by
    rw [sizes_cons]
    rcases List.mem_cons.mp h with e | h
    · rw [e]; omega
    · have := sizes_mem h; omega
section
variable {P : Program} {w : World} {K : PySem.W.Frag} {mg : Str → Option Value} {base : Heap}
def spIsTree (n : Nat) : Sp := fun vs H Q _ => ∃ (g a : Addr) (N nm : Nat) (R : Rules) (t : Tree), vs = [.ref g, .int (nm : Nat), .ref a] ∧ GramAt H g N R ∧ WFG R ∧ TreeAt H a t ∧ IsTree R nm t ∧ t.depth ≤ n ∧ ∀ H', Same H H' → Q (.bl true) H'
abbrev nIsTree : List Str := ["_law_grammar_here", "_law_name", "_law_tree", "_law_inner_here", "_law_k", "_law_kid"]
theorem scIsTree : FnScope nIsTree ["_law_grammar_here", "_law_name", "_law_tree"] (defScope sIsTree) := ⟨rfl, rfl, rfl, by decide +kernel, rfl, by decide +kernel, by decide +kernel⟩
theorem d_isTree0 (S0 : Src K mg "_law_is_tree" sIsTree ["_law_grammar_here", "_law_name", "_law_tree"]) : Dfn P w K mg base "_law_is_tree" 2 ["_law_grammar_here", "_law_name", "_law_tree"] (spIsTree 0) := by
  obtain ⟨f, fd, gf, F, bd⟩ := S0.ex
  refine ⟨f, fd, gf, F.ok scIsTree (fun vs H Q E h => ?_) (fun cdv A outer s H vs Q E hr h => ?_), bd, F.kp⟩
  · obtain ⟨g, a, N, nm, R, t, rfl, _⟩ := h
    rfl
  · obtain ⟨g, a, N, nm, R, t, rfl, hG, wf, ha, it, dp, q⟩ := h
    cases t with
    | nd r ks => rw [depth_nd] at dp; omega
theorem d_isTree1 (n : Nat) (S0 : Src K mg "_law_is_tree" sIsTree ["_law_grammar_here", "_law_name", "_law_tree"]) (B : Blt mg) (D0 : Dfn P w K mg base "_law_is_tree" (n + 2) ["_law_grammar_here", "_law_name", "_law_tree"] (spIsTree n))
    (D1 : Dfn P w K mg base "_law_inner" 1 ["_law_body"] spNames) (D2 : Dfn P w K mg base "_law_whole" 1 ["_law_found"] spWhole) : Dfn P w K mg base "_law_is_tree" (n + 3) ["_law_grammar_here", "_law_name", "_law_tree"] (spIsTree (n + 1)) := by
  obtain ⟨f, fd, gf, F, bd⟩ := S0.ex
  obtain ⟨f0, fd0, g0, G0, b0, k0⟩ := D0.ex
  obtain ⟨f1, fd1, g1, G1, b1, k1⟩ := D1.ex
  obtain ⟨f2, fd2, g2, G2, b2, k2⟩ := D2.ex
  refine ⟨f, fd, gf, F.ok scIsTree (fun vs H Q E h => ?_) (fun cdv A outer s H vs Q E hr h => ?_), bd, F.kp⟩
  · obtain ⟨g, a, N, nm, R, t, rfl, _⟩ := h
    rfl
  obtain ⟨g, a, N, nm, R, t, rfl, ⟨rs, hg, as, hrs, has⟩, wf, ha, it, dp, q⟩ := h
  have hr1 : Room 1 _ := hr.mono (by omega)
  refine ⟨_, pss_cons (ps_if (PW.pt (pw_or (pt_not (pt_val (pe_callB call_isi (by rfl) B.isi boot_isi (pa_cons (pv 2) (pa_cons (pe_bltn (v := .ty "tuple") (u := .type "tuple") (by rfl) B.tuple (by decide +kernel) rfl) pa_nil)))))
        (pw_or (pt_cmpR op_ne (pe_callB call_len_seq (by rfl) B.len PySem.boot_len (pa_cons (pv 2) pa_nil)) pe_int (nomark _))
        (pw_or (pt_not (pt_val (pe_call G2 hr1 (by rfl) g2 k2 b2 .nil pass0 (pa_cons (pe_ix ix_tup (pv 2) pe_int (fun _ _ => rfl)) pa_nil))))
        (pw_or1 (pt_not (pt_val (pe_callB call_isi (by rfl) B.isi boot_isi (pa_cons (pe_ix ix_tup (pv 2) pe_int (fun _ _ => rfl)) (pa_cons (pe_bltn (v := .ty "tuple") (u := .type "tuple") (by rfl) B.tuple (by decide +kernel) rfl) pa_nil))))))))))
      (pss_one (ps_ret pe_bl)) pss_nil)
    (pss_cons (ps_if (PW.pt (pw_or (pt_cmpR op_notIn_rng (pe_ix ix_tup (pv 2) pe_int (fun _ _ => rfl)) (pe_callTy cr_range1 (by rfl) B.range (by decide +kernel) (pa_cons (pe_callB call_len_seq (by rfl) B.len PySem.boot_len (pa_cons (pe_ix ix_tup (pv 0) pe_int (fun _ _ => rfl)) pa_nil)) pa_nil)) (by rfl))
        (pw_or1 (pt_cmpR op_ne (pe_ix ix_tup (pe_ix ix_tup (pe_ix ix_tup (pv 0) pe_int (fun _ _ => rfl)) (pe_ix ix_tup (pv 2) pe_int (fun _ _ => rfl)) (fun _ _ => rfl)) pe_int (fun _ _ => rfl)) (pv 1) (nomark _)))))
      (pss_one (ps_ret pe_bl)) pss_nil)
    (pss_cons (ps_set (i := 3) scIsTree.nd rfl (.inr rfl) (pe_call G1 hr1 (by rfl) g1 k1 b1 .nil pass0 (pa_cons (pe_ix ix_tup (pe_ix ix_tup (pe_ix ix_tup (pv 0) pe_int (fun _ _ => rfl)) (pe_ix ix_tup (pv 2) pe_int (fun _ _ => rfl)) (fun _ _ => rfl)) pe_int (fun _ _ => rfl)) pa_nil)))
    (pss_cons (ps_if (pt_cmpR op_ne (pe_callB call_len_seq (by rfl) B.len PySem.boot_len (pa_cons (pv 3) pa_nil)) (pe_callB call_len_seq (by rfl) B.len PySem.boot_len (pa_cons (pe_ix ix_tup (pv 2) pe_int (fun _ _ => rfl)) pa_nil)) (nomark _)) (pss_one (ps_ret pe_bl)) pss_nil)
    (pss_one (ps_ret (pe_callB (cr_all rfl) (by rfl) B.all (by decide +kernel) (pa_cons (pe_lc (own := [("_law_k", 4), ("_law_kid", 5)]) (g := gTup K 2 (gCons (gName 4) (gCons (gName 5) gNil))) (tt := tYes) rfl scIsTree.nd (pi_enumT (by rfl) B.enum (pa_cons (pe_ix ix_tup (pv 2) pe_int (fun _ _ => rfl)) pa_nil)) (blkOk_by (N := nIsTree) (sc := defScope sIsTree) (by decide +kernel))
        (fun _ _ _ _ _ => pg_tup rfl (pgs_cons (pg_name (i := 4) scIsTree.nd rfl (Or.inl rfl)) (pgs_cons (pg_name (i := 5) scIsTree.nd rfl (Or.inl rfl)) pgs_nil))) (fun _ _ _ _ _ => pts_nil)
        (fun _ _ _ _ _ => pe_call G0 hr (by rfl) g0 k0 b0 .nil pass0 (pa_cons (pv 0) (pa_cons (pe_ix (r := rIxL K) ix_list (pv 3) (pv 4) (fun _ _ => rfl)) (pa_cons (pv 5) pa_nil))))) pa_nil))))))), ?_⟩
  have las : as.length = R.length := has.len
  cases it with
  | @nd _ r body ks hR hks =>
    cases ha with
    | @nd _ kt kas _ _ e1 e2 e3 =>
      have mR : (nm, body) ∈ R := List.mem_of_getElem? hR
      obtain ⟨ra, hra, ba, hra2, hba⟩ := has.get hR
      have hba' : H ba = some (.tup (body.map thV)) := hba
      have hrav : (as.map V.ref)[r]? = some (.ref ra) := by rw [List.getElem?_map, hra]; rfl
      have rR : r < R.length := (List.getElem?_eq_some_iff.mp hR).1
      rw [depth_nd] at dp
      have lks := hks.length
      refine ⟨_, rfl, _, _, .type "tuple", .type "tuple", true, rfl, .ty _, .base (.tup e1), kit_ty (by decide +kernel), _, rfl, iteF ?_⟩
      refine ⟨_, rfl, a, _, rfl, .inr (SqT.of e1), rfl, _, rfl, iteF ?_⟩
      refine ⟨_, rfl, a, _, 0, _, rfl, rfl, SqT.of e1, atI_nat (j := 0) rfl, (r : Nat), rfl, _, rfl, iteF ?_⟩
      refine ⟨_, rfl, a, _, 1, _, rfl, rfl, SqT.of e1, atI_nat (j := 1) rfl, _, _, .type "tuple", .type "tuple", true, rfl, .ty _, .base (.tup e2), kit_ty (by decide +kernel), _, rfl, iteF ?_⟩
      -- the rule's number, its name
      refine ⟨_, rfl, a, _, 0, _, rfl, rfl, SqT.of e1, atI_nat (j := 0) rfl, _, rfl, g, _, 1, _, rfl, rfl, SqT.of hg, atI_nat (j := 1) rfl, rs, _, rfl, .inr (SqT.of hrs), _, rfl, fun rp nrp => ?_⟩
      have s1 : Same H (upd H rp (.rng 0 (((as.map V.ref).length : Nat) : Int))) := same_new nrp
      refine ⟨(r : Nat), rp, 0, _, rfl, rfl, upd_same, _, rfl, ?_⟩
      have ein : (!decide ((0 : Int) ≤ ((r : Nat) : Int) ∧ ((r : Nat) : Int) < (((as.map V.ref).length : Nat) : Int))) = false := by
        rw [decide_eq_true ⟨by omega, by rw [List.length_map, las]; omega⟩]
        rfl
      rw [ein]
      refine iteF ?_
      refine ⟨_, rfl, g, _, 1, _, rfl, rfl, SqT.of (s1 _ _ hg), atI_nat (j := 1) rfl, _, rfl, a, _, 0, _, rfl, rfl, SqT.of (s1 _ _ e1), atI_nat (j := 0) rfl, rs, _, (r : Nat), _, rfl, rfl, SqT.of (s1 _ _ hrs), atI_nat hrav, ra, _, 0, _, rfl, rfl, SqT.of (s1 _ _ hra2), atI_nat (j := 0) rfl, _, rfl, rfl, _, rfl, ?_⟩
      have ene : (!decide (V.int ((nm : Nat) : Int) = V.int ((nm : Nat) : Int))) = false := by rw [decide_eq_true rfl]; rfl
      show (if (!decide (V.int ((nm : Nat) : Int) = V.int ((nm : Nat) : Int))) = true then _ else _)
      rw [ene]
      refine iteF ?_
      -- the inner names
      refine ⟨_, rfl, g, _, 1, _, rfl, rfl, SqT.of (s1 _ _ hg), atI_nat (j := 1) rfl, _, rfl, a, _, 0, _, rfl, rfl, SqT.of (s1 _ _ e1), atI_nat (j := 0) rfl, rs, _, (r : Nat), _, rfl, rfl, SqT.of (s1 _ _ hrs), atI_nat hrav, ra, _, 1, _, rfl, rfl, SqT.of (s1 _ _ hra2), atI_nat (j := 1) rfl,
        ba, body, rfl, s1 _ _ hba', by have := wf.len nm body mR; omega, fun H2 y s2 ny hy => ?_⟩
      have s12 := s1.trans s2
      refine ⟨_, rfl, y, _, rfl, .inl (SqL.of hy), _, rfl, a, _, 1, _, rfl, rfl, SqT.of (s12 _ _ e1), atI_nat (j := 1) rfl, kt, _, rfl, .inr (SqT.of (s12 _ _ e2)), rfl, _, rfl, ?_⟩
      have el : (!decide (V.int ((((K55.namesOf body).map nmV).length : Nat) : Int) = V.int (((kas.map V.ref).length : Nat) : Int))) = false := by
        rw [List.length_map, List.length_map, e3.len, lks, decide_eq_true rfl]
        rfl
      rw [el]
      refine iteF ?_
      refine ⟨_, rfl, a, _, 1, _, rfl, rfl, SqT.of (s12 _ _ e1), atI_nat (j := 1) rfl, kt, _, rfl, SqT.of (s12 _ _ e2), fun D nD => ?_⟩
      refine lc_enumT (K := K) (a := kt) (xs := kas.map V.ref) (fun i H' => Same H2 H' ∧ ∃ bs : List Bool, H' D = some (.lst (bs.map V.bl)) ∧ (∀ b ∈ bs, b = true) ∧ bs.length ≤ i) ⟨same_new nD, [], upd_same, fun _ z => (nomatch z), Nat.le_refl _⟩ (fun i H' _ z => SqT.of (z.1 _ _ (s12 _ _ e2))) ?_ ?_
      · rintro i v H3 T' hi ⟨s3, bs, hD, hbs, lbs⟩ nT'
        obtain ⟨ka, hka, rfl⟩ : ∃ c, kas[i]? = some c ∧ V.ref c = v := by
          rw [List.getElem?_map] at hi
          exact Option.map_eq_some_iff.mp hi
        obtain ⟨kid, hkid, hkat⟩ := e3.get hka
        have il : i < ks.length := (List.getElem?_eq_some_iff.mp hkid).1
        have hnm : (K55.namesOf body)[i]? = some (K55.namesOf body)[i] := List.getElem?_eq_getElem (by omega)
        have itk := hks.get hnm hkid
        have dk := depths_mem (List.mem_of_getElem? hkid)
        have l5 : ks.length ≤ 2 := by rw [← lks]; exact wf.two nm body mR
        have s4 : Same H3 (upd H3 T' (.tup [.int (i : Nat), .ref ka])) := same_new nT'
        have s24 := s3.trans s4
        have sA := s12.trans s24
        refine ⟨T', _, rfl, SqT.of upd_same, rfl, _, _, rfl, _, _, rfl, rfl, rfl, _, rfl, _, rfl, _, rfl, y, _, (i : Nat), _, rfl, rfl, SqL.of (s24 _ _ hy), atI_nat (by rw [List.getElem?_map, hnm]; rfl), _, rfl, g, ka, N, _, R, kid, rfl, ⟨rs, sA _ _ hg, as, sA _ _ hrs, has.imp fun _ _ z => z.up sA.tups⟩, wf, hkat.up sA.tups, itk, by omega, fun H5 s5 => ?_⟩
        have hD5 := s5 _ _ (s4 _ _ hD)
        refine ⟨_, hD5, by rw [List.length_map]; exact small1000 (by omega), (s24.trans s5).put nD, bs ++ [true], by rw [upd_same, List.map_append]; rfl, fun b hb => ?_, by rw [List.length_append, List.length_singleton]; omega⟩
        rcases List.mem_append.mp hb with z | z
        · exact hbs b z
        · exact List.mem_singleton.mp z
      · rintro H3 ⟨s3, bs, hD, hbs, lbs⟩
        have eb : bs.all id = true := List.all_eq_true.mpr fun b hb => hbs b hb
        refine ⟨D, bs, rfl, SqL.of hD, ?_⟩
        rw [eb]
        exact q H3 (s12.trans s3)
theorem d_isTree (S0 : Src K mg "_law_is_tree" sIsTree ["_law_grammar_here", "_law_name", "_law_tree"]) (B : Blt mg) (D1 : Dfn P w K mg base "_law_inner" 1 ["_law_body"] spNames) (D2 : Dfn P w K mg base "_law_whole" 1 ["_law_found"] spWhole) :
    ∀ n, Dfn P w K mg base "_law_is_tree" (n + 2) ["_law_grammar_here", "_law_name", "_law_tree"] (spIsTree n)
  | 0 => d_isTree0 S0
  | n + 1 => d_isTree1 n S0 B (d_isTree S0 B D1 D2 n) D1 D2
end
end Wk

/-! W20: _law_word_of. -/
namespace Wk
open PySem hiding Tree
open L2 KX K55
theorem seq0 (n : Nat) (h : 0 < n) : seqIndex? 0 n = some 0 := by
  unfold seqIndex?
  simp
  omega
section
variable {P : Program} {w : World} {K : PySem.W.Frag} {mg : Str → Option Value} {base : Heap}
def spWordOf (n : Nat) : Sp := fun vs H Q _ => ∃ (g a : Addr) (N nm : Nat) (R : Rules) (t : Tree), vs = [.ref g, .ref a] ∧ GramAt H g N R ∧ WFG R ∧ TreeAt H a t ∧ IsTree R nm t ∧ t.depth ≤ n ∧ t.size ≤ 271 ∧ ∀ H', Same H H' → Q (.str (tx (wordOf R t))) H'
abbrev nWordOf : List Str := ["_law_grammar_here", "_law_tree", "_law_kids", "_law_found", "_law_thing", "_law_kid"]
theorem scWordOf : FnScope nWordOf ["_law_grammar_here", "_law_tree"] (defScope sWordOf) := ⟨rfl, rfl, rfl, by decide +kernel, rfl, by decide +kernel, by decide +kernel⟩
theorem word813 {R : Rules} (wf : WFG R) {t : Tree} (h : t.size ≤ 271) : (wordOf R t).length ≤ 813 := by
  have hB : ∀ r, (bodyAt R r).length ≤ 3 := fun r => by
    unfold bodyAt
    split
    · rename_i x b e
      exact wf.len x b (List.mem_of_getElem? e)
    · exact Nat.zero_le _
  have := (word_len hB t.size).1 t (Nat.le_refl _)
  omega
theorem d_wordOf0 (S0 : Src K mg "_law_word_of" sWordOf ["_law_grammar_here", "_law_tree"]) : Dfn P w K mg base "_law_word_of" 1 ["_law_grammar_here", "_law_tree"] (spWordOf 0) := by
  obtain ⟨f, fd, gf, F, bd⟩ := S0.ex
  refine ⟨f, fd, gf, F.ok scWordOf (fun vs H Q E h => ?_) (fun cdv A outer s H vs Q E hr h => ?_), bd, F.kp⟩
  · obtain ⟨g, a, N, nm, R, t, rfl, _⟩ := h
    rfl
  · obtain ⟨g, a, N, nm, R, t, rfl, hG, wf, ha, it, dp, _, q⟩ := h
    cases t with
    | nd r ks => rw [depth_nd] at dp; omega
theorem namesOf_cons (t : Thing) (b : Body) : K55.namesOf (t :: b) = (match t with | .nm n => n :: K55.namesOf b | .lt _ => K55.namesOf b) := by
  unfold K55.namesOf
  cases t <;> rfl
theorem build_lt (c : Nat) (b : Body) (ws : List (List Nat)) : build (.lt c :: b) ws = c :: build b ws := by cases ws <;> rfl
theorem build_nm (n : Nat) (b : Body) (u : List Nat) (ws : List (List Nat)) : build (.nm n :: b) (u :: ws) = u ++ build b ws := rfl
theorem d_wordOf1 (n : Nat) (S0 : Src K mg "_law_word_of" sWordOf ["_law_grammar_here", "_law_tree"]) (B : Blt mg) (D0 : Dfn P w K mg base "_law_word_of" (n + 1) ["_law_grammar_here", "_law_tree"] (spWordOf n)) :
    Dfn P w K mg base "_law_word_of" (n + 2) ["_law_grammar_here", "_law_tree"] (spWordOf (n + 1)) := by
  obtain ⟨f, fd, gf, F, bd⟩ := S0.ex
  obtain ⟨f0, fd0, g0, G0, b0, k0⟩ := D0.ex
  refine ⟨f, fd, gf, F.ok scWordOf (fun vs H Q E h => ?_) (fun cdv A outer s H vs Q E hr h => ?_), bd, F.kp⟩
  · obtain ⟨g, a, N, nm, R, t, rfl, _⟩ := h
    rfl
  obtain ⟨g, a, N, nm, R, t, rfl, ⟨rs, hg, as, hrs, has⟩, wf, ha, it, dp, sz, q⟩ := h
  refine ⟨_, pss_cons (ps_setLc (i := 2) (own := [("_law_kid", 5)]) (g := gName 5) rfl scWordOf.nd rfl rfl (sw_true rfl rfl rfl (by decide +kernel)) (pi_tup (pe_ix ix_tup (pv 1) pe_int (fun _ _ => rfl))) (blkOk_by (N := nWordOf) (sc := defScope sWordOf) (by decide +kernel)) (fun _ _ _ _ _ => pg_name (i := 5) scWordOf.nd rfl (Or.inl rfl))
        (fun _ _ _ _ _ => pts_nil) (fun _ _ _ _ _ => pe_call G0 hr (by rfl) g0 k0 b0 .nil pass0 (pa_cons (pv 0) (pa_cons (pv 5) pa_nil))))
    (pss_cons (ps_set (i := 3) scWordOf.nd rfl (.inl rfl) pe_str)
    (pss_cons (ps_for PassesOwn.never rfl (pi_tup (pe_ix ix_tup (pe_ix ix_tup (pe_ix ix_tup (pv 0) pe_int (fun _ _ => rfl)) (pe_ix ix_tup (pv 1) pe_int (fun _ _ => rfl)) (fun _ _ => rfl)) pe_int (fun _ _ => rfl))) (pg_name (i := 4) scWordOf.nd rfl (.inl rfl))
      (pss_one (ps_set (i := 3) scWordOf.nd rfl (.inl rfl) (pe_op op_add_str (pv 3) (pe_ifExp (pt_val (pe_isS (by rfl) (by rfl) B.isi B.str (pv 4))) (pv 4)
        (pe_bm PySem.F.plainAttrs_list PySem.F.slot_list_pop PySem.F.type_list_pop mt_popAt (pv 2) (pa_cons pe_int pa_nil)))))))
    (pss_one (ps_ret (pv 3))))), ?_⟩
  have w813 := word813 wf sz
  cases it with
  | @nd _ r body ks hR hks =>
    cases ha with
    | @nd _ kt kas _ _ e1 e2 e3 =>
      have mR : (nm, body) ∈ R := List.mem_of_getElem? hR
      obtain ⟨ra, hra, ba, hra2, hba⟩ := has.get hR
      have hba' : H ba = some (.tup (body.map thV)) := hba
      have hrav : (as.map V.ref)[r]? = some (.ref ra) := by rw [List.getElem?_map, hra]; rfl
      have eb : bodyAt R r = body := by unfold bodyAt; rw [hR]
      have lks := hks.length
      have l2 := wf.two nm body mR
      have l3 := wf.len nm body mR
      rw [depth_nd] at dp
      rw [size_nd] at sz
      rw [wordOf_nd, eb] at w813 q
      -- the kids' words
      refine ⟨_, rfl, a, _, 1, _, rfl, rfl, SqT.of e1, atI_nat (j := 1) rfl, kt, rfl, ⟨_, SqT.of e2⟩, fun D nD => ?_⟩
      refine lc_tup (K := K) (a := kt) (xs := kas.map V.ref) (fun i H' => Same H H' ∧ H' D = some (.lst ((wordsOf R (ks.take i)).map fun u => V.str (tx u)))) ⟨same_new nD, by rw [upd_same, List.take_zero, wordsOf_nil]; rfl⟩ (fun i H' _ z => SqT.of (z.1 _ _ e2)) ?_ ?_
      · rintro i v H1 hi ⟨s1, hD⟩
        obtain ⟨ka, hka, rfl⟩ : ∃ c, kas[i]? = some c ∧ V.ref c = v := by
          rw [List.getElem?_map] at hi
          exact Option.map_eq_some_iff.mp hi
        obtain ⟨kid, hkid, hkat⟩ := e3.get hka
        have il : i < ks.length := (List.getElem?_eq_some_iff.mp hkid).1
        have hnm : (K55.namesOf body)[i]? = some (K55.namesOf body)[i] := List.getElem?_eq_getElem (by omega)
        have itk := hks.get hnm hkid
        have dk := depths_mem (List.mem_of_getElem? hkid)
        have zk := sizes_mem (List.mem_of_getElem? hkid)
        have ew : wordsOf R (ks.take (i + 1)) = wordsOf R (ks.take i) ++ [wordOf R kid] := by
          have app : ∀ (x y : List Tree), wordsOf R (x ++ y) = wordsOf R x ++ wordsOf R y := by
            intro x y
            induction x with
            | nil => rw [List.nil_append, wordsOf_nil, List.nil_append]
            | cons t x ih => rw [List.cons_append, wordsOf_cons, wordsOf_cons, ih, List.cons_append]
          rw [List.take_add_one, hkid]
          show wordsOf R (ks.take i ++ [kid]) = _
          rw [app, wordsOf_cons, wordsOf_nil]
        refine ⟨rfl, _, rfl, _, rfl, g, ka, N, _, R, kid, rfl, ⟨rs, s1 _ _ hg, as, s1 _ _ hrs, has.imp fun _ _ z => z.up s1.tups⟩, wf, hkat.up s1.tups, itk, by omega, by omega, fun H2 s2 => ⟨_, s2 _ _ hD, ?_, (s1.trans s2).put nD, ?_⟩⟩
        · rw [List.length_map, wordsOf_length]
          have := List.length_take_le' i ks
          exact small1000 (by omega)
        · rw [upd_same, ew, List.map_append]
          rfl
      rintro H1 ⟨s1, hD⟩
      rw [List.length_map, e3.len, List.take_length] at hD
      refine ⟨_, rfl, g, _, 1, _, rfl, rfl, SqT.of (s1 _ _ hg), atI_nat (j := 1) rfl, _, rfl, a, _, 0, _, rfl, rfl, SqT.of (s1 _ _ e1), atI_nat (j := 0) rfl, rs, _, (r : Nat), _, rfl, rfl, SqT.of (s1 _ _ hrs), atI_nat hrav, ra, _, 1, _, rfl, rfl, SqT.of (s1 _ _ hra2), atI_nat (j := 1) rfl,
        ba, rfl, ⟨_, SqT.of (s1 _ _ hba')⟩, for_tup (K := K) (a := ba) (xs := body.map thV) (fun i σ H' => ∃ (acc : List Nat) (ws : List (List Nat)) (x4 x5 : Option V), σ = [some (.ref g), some (.ref a), some (.ref D), some (.str (tx acc)), x4, x5] ∧ Same H H' ∧ H' D = some (.lst (ws.map fun u => V.str (tx u))) ∧
          acc ++ build (body.drop i) ws = build body (wordsOf R ks) ∧ ws.length = (K55.namesOf (body.drop i)).length)
        ⟨[], wordsOf R ks, _, _, by rw [tx_nil]; rfl, s1, hD, rfl, by rw [wordsOf_length]; exact lks.symm⟩ (fun i σ H' _ ⟨_, _, _, _, _, sm, _⟩ => SqT.of (sm _ _ hba')) ?_ ?_⟩
      · rintro i v σ H2 hi ⟨acc, ws, x4, x5, rfl, s2, hD2, he, hl⟩
        obtain ⟨t, ht, rfl⟩ : ∃ t, body[i]? = some t ∧ thV t = v := by
          rw [List.getElem?_map] at hi
          exact Option.map_eq_some_iff.mp hi
        have ed : body.drop i = t :: body.drop (i + 1) := by
          obtain ⟨lt, e⟩ := List.getElem?_eq_some_iff.mp ht
          rw [List.drop_eq_getElem_cons lt, e]
        rw [ed] at he hl
        have lacc : ∀ b, acc ++ b = build body (wordsOf R ks) → acc.length + b.length ≤ 813 := fun b e => by
          have z := congrArg List.length e
          rw [List.length_append] at z
          omega
        rw [namesOf_cons] at hl
        refine ⟨_, rfl, _, rfl, _, rfl, th_isS t, _, rfl, ?_⟩
        rw [th_S]
        cases t with
        | lt c =>
          rw [build_lt] at he
          have la := lacc _ he
          rw [List.length_cons] at la
          refine iteT ⟨_, rfl, tx acc, tx [c], rfl, rfl, by rw [tx_len, tx_len]; exact Nat.le_of_lt (small1000 (by rw [List.length_singleton]; omega)), ?_⟩
          refine ⟨acc ++ [c], ws, _, _, by rw [← tx_append]; rfl, s2, hD2, by rw [List.append_assoc]; exact he, hl⟩
        | nm m =>
          cases ws with
          | nil => simp at hl
          | cons u ws =>
            rw [build_nm] at he
            have la := lacc _ he
            rw [List.length_append] at la
            refine iteF ⟨_, rfl, .inl ⟨rfl, _, SqL.of hD2⟩, D, _, 0, 0, _, rfl, rfl, hD2, by omega, by omega, seq0 _ (by rw [List.map_cons, List.length_cons]; omega), rfl, tx acc, tx u, rfl, rfl, by rw [tx_len, tx_len]; exact Nat.le_of_lt (small1000 (by omega)), ?_⟩
            refine ⟨acc ++ u, ws, _, _, by rw [← tx_append]; rfl, s2.put nD, by rw [upd_same]; rfl, by rw [List.append_assoc]; exact he, by
              rw [List.length_cons] at hl
              have hl : ws.length + 1 = (m :: K55.namesOf (body.drop (i + 1))).length := hl
              rw [List.length_cons] at hl
              omega⟩
      · rintro σ H2 ⟨acc, ws, x4, x5, rfl, s2, hD2, he, hl⟩
        rw [List.length_map, List.drop_length] at he
        have e : acc = build body (wordsOf R ks) := by
          rw [← he]
          cases ws <;> simp [build]
        refine ⟨_, rfl, ?_⟩
        rw [e]
        exact q H2 s2
theorem d_wordOf (S0 : Src K mg "_law_word_of" sWordOf ["_law_grammar_here", "_law_tree"]) (B : Blt mg) : ∀ n, Dfn P w K mg base "_law_word_of" (n + 1) ["_law_grammar_here", "_law_tree"] (spWordOf n)
  | 0 => d_wordOf0 S0
  | n + 1 => d_wordOf1 n S0 B (d_wordOf S0 B n)
end
end Wk

/-! W21: _law_deal, _law_draw. -/
namespace Wk
open PySem hiding Tree
open L2 KX K55
/-! ### the deal in the heap -/
abbrev kS : Key := Sum.inr ("seed" : Str)
abbrev kN : Key := Sum.inr ("number" : Str)
abbrev kL : Key := Sum.inr ("left" : Str)
def dkv (sd nb : Int) (ll : Addr) : List (Key × V) := [(kS, .int sd), (kN, .int nb), (kL, .ref ll)]
theorem sn_ : ¬ (kS = kN) := fun z => absurd (Sum.inr.inj z) (by decide +kernel)
theorem sl_ : ¬ (kS = kL) := fun z => absurd (Sum.inr.inj z) (by decide +kernel)
theorem nl_ : ¬ (kN = kL) := fun z => absurd (Sum.inr.inj z) (by decide +kernel)
theorem ns_ : ¬ (kN = kS) := fun z => sn_ z.symm
theorem ls_ : ¬ (kL = kS) := fun z => sl_ z.symm
theorem ln_ : ¬ (kL = kN) := fun z => nl_ z.symm
theorem v_seed (sd nb : Int) (ll : Addr) : valV (dkv sd nb ll) kS = some (.int sd) := valV_pos rfl
theorem v_number (sd nb : Int) (ll : Addr) : valV (dkv sd nb ll) kN = some (.int nb) := (valV_neg sn_).trans (valV_pos rfl)
theorem v_left (sd nb : Int) (ll : Addr) : valV (dkv sd nb ll) kL = some (.ref ll) := (valV_neg sl_).trans ((valV_neg nl_).trans (valV_pos rfl))
theorem p_number (sd nb n : Int) (ll : Addr) : putK (dkv sd nb ll) kN (.int n) = dkv sd n ll := by
  unfold putK
  rw [valV_any, v_number]
  show (if true = true then _ else _) = _
  rw [if_pos rfl]
  show [(if kS = kN then _ else _), (if kN = kN then _ else _), (if kL = kN then _ else _)] = _
  rw [if_neg sn_, if_pos rfl, if_neg ln_]
  rfl
theorem p_seed (sd nb n : Int) (ll : Addr) : putK (dkv sd nb ll) kS (.int n) = dkv n nb ll := by
  unfold putK
  rw [valV_any, v_seed]
  show (if true = true then _ else _) = _
  rw [if_pos rfl]
  show [(if kS = kS then _ else _), (if kN = kS then _ else _), (if kL = kS then _ else _)] = _
  rw [if_pos rfl, if_neg ns_, if_neg ls_]
  rfl
/-- a deal at d, its cells at ll -/
def DealAt (H : Hp) (d ll : Addr) : Prop := ∃ (sd nb : Int) (xs : List Int), H d = some (.dK (dkv sd nb ll)) ∧ H ll = some (.lst (xs.map V.int)) ∧ 0 ≤ nb ∧ (∀ x ∈ xs, 0 ≤ x) ∧ 0 ≤ sd ∧ sd < 2147483647
/-- all but the deal is as it was -/
def Dl (d ll : Addr) (H H' : Hp) : Prop := ∀ b o, b ≠ d → b ≠ ll → H b = some o → H' b = some o
theorem Dl.refl (d ll : Addr) (H : Hp) : Dl d ll H H := fun _ _ _ _ e => e
theorem Dl.trans {d ll : Addr} {H H1 H2 : Hp} (x : Dl d ll H H1) (y : Dl d ll H1 H2) : Dl d ll H H2 := fun b o n m e => y b o n m (x b o n m e)
theorem _root_.L2.Same.dl {H H' : Hp} (s : Same H H') (d ll : Addr) : Dl d ll H H' := fun b o _ _ e => s b o e
theorem Dl.put {d ll : Addr} {H H1 : Hp} {x : Addr} {o : HO} (s : Dl d ll H H1) (n : H x = none) : Dl d ll H (upd H1 x o) := fun b u nb nl e => by rw [upd_ne (ne_of_none e n)]; exact s b u nb nl e
theorem Dl.new {d ll : Addr} {H H1 : Hp} {x : Addr} {o : HO} (s : Dl d ll H H1) (n : H1 x = none) : Dl d ll H (upd H1 x o) := s.trans ((same_new n).dl d ll)
theorem Dl.at_d {d ll : Addr} {H H1 : Hp} {o : HO} (s : Dl d ll H H1) : Dl d ll H (upd H1 d o) := fun b u nb nl e => by rw [upd_ne nb]; exact s b u nb nl e
theorem Dl.at_l {d ll : Addr} {H H1 : Hp} {o : HO} (s : Dl d ll H H1) : Dl d ll H (upd H1 ll o) := fun b u nb nl e => by rw [upd_ne nl]; exact s b u nb nl e
theorem DealAt.ne {H : Hp} {d ll : Addr} (x : DealAt H d ll) : d ≠ ll := by
  obtain ⟨sd, nb, xs, h1, h2, _⟩ := x
  exact ne_of h1 h2 (by intro z; cases z)
theorem DealAt.same {H H' : Hp} {d ll : Addr} (x : DealAt H d ll) (s : Same H H') : DealAt H' d ll := by
  obtain ⟨sd, nb, xs, h1, h2, r⟩ := x
  exact ⟨sd, nb, xs, s _ _ h1, s _ _ h2, r⟩
theorem DealAt.put {H : Hp} {d ll x : Addr} {o : HO} (a : DealAt H d ll) (h1 : x ≠ d) (h2 : x ≠ ll) : DealAt (upd H x o) d ll := by
  obtain ⟨sd, nb, xs, e1, e2, r⟩ := a
  exact ⟨sd, nb, xs, by rw [upd_ne h1.symm]; exact e1, by rw [upd_ne h2.symm]; exact e2, r⟩
theorem DealAt.new {H : Hp} {d ll x : Addr} {o : HO} (a : DealAt H d ll) (n : H x = none) : DealAt (upd H x o) d ll := a.same (same_new n)
theorem Dl.tups {d ll : Addr} {H H' : Hp} (s : Dl d ll H H') (a : DealAt H d ll) : Tups H H' := fun b xs e => by
  obtain ⟨sd, nb, ys, h1, h2, _⟩ := a
  exact s b _ (ne_of e h1 (by intro z; cases z)) (ne_of e h2 (by intro z; cases z)) e
/-- a list that is not the deal's -/
theorem Dl.keep {d ll x : Addr} {H H' : Hp} {o : HO} (s : Dl d ll H H') (n1 : x ≠ d) (n2 : x ≠ ll) (e : H x = some o) : H' x = some o := s x o n1 n2 e
section
variable {P : Program} {w : World} {K : PySem.W.Frag} {mg : Str → Option Value} {base : Heap}
/-! ### _law_draw -/
def spDraw : Sp := fun vs H Q _ => ∃ (d ll : Addr) (m : Int), vs = [.ref d, .int m] ∧ DealAt H d ll ∧ 0 < m ∧ m < 1073741824 ∧ ∀ H' (k : Nat), Dl d ll H H' → DealAt H' d ll → ((k : Nat) : Int) < m → Q (.int (k : Nat)) H'
abbrev nDraw : List Str := ["_law_deal_here", "_law_many", "_law_number", "_law_one", "_law_other"]
theorem scDraw : FnScope nDraw ["_law_deal_here", "_law_many"] (defScope sDraw) := ⟨rfl, rfl, rfl, by decide +kernel, rfl, by decide +kernel, by decide +kernel⟩
theorem d_draw (S0 : Src K mg "_law_draw" sDraw ["_law_deal_here", "_law_many"]) (B : Blt mg) : Dfn P w K mg base "_law_draw" 1 ["_law_deal_here", "_law_many"] spDraw := by
  obtain ⟨f, fd, gf, F, bd⟩ := S0.ex
  refine ⟨f, fd, gf, F.ok scDraw (fun vs H Q E h => ?_) (fun cdv A outer s H vs Q E hr h => ?_), bd, F.kp⟩
  · obtain ⟨d, ll, m, rfl, _⟩ := h
    rfl
  obtain ⟨d, ll, m, rfl, hD, m0, m30, q⟩ := h
  have hu := hu_of hr
  refine ⟨_, pss_cons (ps_while PassesOwn.never (PW.pt (pw_and (pt_cmpR op_eq (pe_dget hu (pv 0) pe_str (fun _ _ => rfl)) pe_int (nomark _)) (pw_and1 (pt_cmpR op_gt (pe_callB call_len_seq (by rfl) B.len PySem.boot_len (pa_cons (pe_dget hu (pv 0) pe_str (fun _ _ => rfl)) pa_nil)) pe_int (nomark _)))))
      (pss_one (ps_dput hu (pv 0) pe_str (pe_bm0 PySem.F.plainAttrs_list PySem.F.slot_list_pop PySem.F.type_list_pop mt_pop (pe_dget hu (pv 0) pe_str (fun _ _ => rfl))) rfl)))
    (pss_cons (ps_set (i := 2) scDraw.nd rfl (.inl rfl) (pe_dget hu (pv 0) pe_str (fun _ _ => rfl)))
    (pss_cons (ps_if (pt_cmpR op_gt (pv 2) pe_int (nomark _))
      (pss_cons (ps_dput hu (pv 0) pe_str (pe_op op_fdiv (pv 2) (pv 1)) rfl) (pss_one (ps_ret (pe_op op_mod (pv 2) (pv 1))))) pss_nil)
    (pss_cons (ps_set (i := 3) scDraw.nd rfl (.inl rfl) (pe_op op_mod (pe_op op_add (pe_op op_mul (pe_dget hu (pv 0) pe_str (fun _ _ => rfl)) pe_int) pe_int) pe_int))
    (pss_cons (ps_dput hu (pv 0) pe_str (pe_op op_mod (pe_op op_add (pe_op op_mul (pv 3) pe_int) pe_int) pe_int) rfl)
    (pss_cons (ps_set (i := 4) scDraw.nd rfl (.inl rfl) (pe_op op_mod (pe_op op_mul (pe_dget hu (pv 0) pe_str (fun _ _ => rfl)) (pe_dget hu (pv 0) pe_str (fun _ _ => rfl))) pe_int))
    (pss_one (ps_ret (pe_op op_mod (pe_op op_add (pe_op op_mul (pe_op op_mod (pe_op op_mul (pv 3) (pv 3)) pe_int) pe_int) (pv 4)) (pv 1))))))))), ?_⟩
  have hne := hD.ne
  have few : ∀ (sd nb : Int), (dkv sd nb ll).length < sizeLine := fun sd nb => by show 3 < sizeLine; decide
  refine ⟨fun n σ H' => ∃ (sd nb : Int) (xs : List Int) (x2 x3 x4 : Option V), n = xs.length ∧ σ = [some (.ref d), some (.int m), x2, x3, x4] ∧ Dl d ll H H' ∧ H' d = some (.dK (dkv sd nb ll)) ∧ H' ll = some (.lst (xs.map V.int)) ∧ 0 ≤ nb ∧ (∀ x ∈ xs, 0 ≤ x) ∧ 0 ≤ sd ∧ sd < 2147483647, ?_, ?_⟩
  · obtain ⟨sd, nb, xs, h1, h2, h3, h4, h5, h6⟩ := hD
    exact ⟨_, sd, nb, xs, none, none, none, rfl, rfl, Dl.refl d ll H, h1, h2, h3, h4, h5, h6⟩
  rintro n σ H1 ⟨sd, nb, xs, x2, x3, x4, rfl, rfl, s1, hd, hl, nb0, hx, sd0, sd1⟩
  -- what follows the loop
  have rest : ∀ (D : Ends), (∀ v H', Q v H' → D.rt v H') → True := fun _ _ => trivial
  refine ⟨_, rfl, d, .int nb, rfl, by rw [← v_number sd nb ll]; exact DGet.k (k := kN) hd, rfl, _, rfl, ?_⟩
  by_cases c : nb = 0 ∧ xs ≠ []
  · obtain ⟨rfl, hxs⟩ := c
    rw [decide_eq_true (rfl : V.int 0 = V.int 0)]
    obtain ⟨ys, y, rfl⟩ : ∃ ys y, xs = ys ++ [y] := by
      rcases List.eq_nil_or_concat xs with e | ⟨ys, y, e⟩
      · exact absurd e hxs
      · exact ⟨ys, y, by rw [e, List.concat_eq_append]⟩
    have gt : decide ((0 : Int) < ((((ys ++ [y]).map V.int).length : Nat) : Int)) = true := decide_eq_true (by rw [List.length_map, List.length_append, List.length_singleton]; omega)
    refine iteT ⟨_, rfl, d, .ref ll, rfl, by rw [← v_left sd 0 ll]; exact DGet.k (k := kL) hd, ll, _, rfl, .inl (SqL.of hl), _, _, rfl, rfl, _, rfl, ?_⟩
    rw [gt]
    refine iteT ⟨_, fun _ _ z => z, ?_⟩
    have hl' : H1 ll = some (.lst (ys.map V.int ++ [.int y])) := by rw [hl, List.map_append]; rfl
    refine ⟨_, rfl, d, .ref ll, rfl, by rw [← v_left sd 0 ll]; exact DGet.k (k := kL) hd, .inl ⟨rfl, _, SqL.of hl'⟩, ll, _, .int y, rfl, rfl, hl', ?_, ?_⟩
    · rw [List.length_append, List.length_singleton, Nat.add_sub_cancel, List.getElem?_append_right (Nat.le_refl _), Nat.sub_self]
      rfl
    rw [List.dropLast_concat]
    have hd2 : (upd H1 ll (.lst (ys.map V.int))) d = some (.dK (dkv sd 0 ll)) := by rw [upd_ne hne]; exact hd
    refine ⟨_, rfl, d, _, rfl, DPut.k (k := kN) hd2 (few _ _), ?_⟩
    refine ⟨ys.length, by rw [List.length_append, List.length_singleton]; omega, sd, y, ys, _, _, _, rfl, rfl, s1.at_l.at_d, by rw [upd_same, p_number], by rw [upd_ne hne.symm, upd_same], hx y (List.mem_append_right _ List.mem_cons_self), fun x h => hx x (List.mem_append_left _ h), sd0, sd1⟩
  · -- the loop is left
    have after : ∀ (X : Prop), X → X := fun _ x => x
    have tail : ∀ D : Ends, D.rt = Q → tSeq (tAsg (tDGet (tVar 0) (tC (.str "number"))) (gName 2)) (tSeq (tIfS (tTest (tOp (rI0 fun i j => .bl (decide (j < i))) (tVar 2) (tC (.int 0))))
        (tSeq (sDPut (tVar 0) (tC (.str "number")) (tOp (rI CDiv fun i j => .int (i / j)) (tVar 2) (tVar 1))) (tRet (tOp (rI (fun _ j => 0 < j) fun i j => .int (i % j)) (tVar 2) (tVar 1)))) tNext)
        (tSeq (tAsg (tOp (rI (fun _ j => 0 < j) fun i j => .int (i % j)) (tOp (rI0 fun i j => .int (i + j)) (tOp (rI CMul fun i j => .int (i * j)) (tDGet (tVar 0) (tC (.str "seed"))) (tC (.int 48271))) (tC (.int 7919))) (tC (.int 2147483647))) (gName 3))
        (tSeq (sDPut (tVar 0) (tC (.str "seed")) (tOp (rI (fun _ j => 0 < j) fun i j => .int (i % j)) (tOp (rI0 fun i j => .int (i + j)) (tOp (rI CMul fun i j => .int (i * j)) (tVar 3) (tC (.int 40692))) (tC (.int 104729))) (tC (.int 2147483399))))
        (tSeq (tAsg (tOp (rI (fun _ j => 0 < j) fun i j => .int (i % j)) (tOp (rI CMul fun i j => .int (i * j)) (tDGet (tVar 0) (tC (.str "seed"))) (tDGet (tVar 0) (tC (.str "seed")))) (tC (.int 2147483563))) (gName 4))
        (tRet (tOp (rI (fun _ j => 0 < j) fun i j => .int (i % j)) (tOp (rI0 fun i j => .int (i + j)) (tOp (rI CMul fun i j => .int (i * j)) (tOp (rI (fun _ j => 0 < j) fun i j => .int (i % j)) (tOp (rI CMul fun i j => .int (i * j)) (tVar 3) (tVar 3)) (tC (.int 2147483629))) (tC (.int 2147483563))) (tVar 4)) (tVar 1))))))) D [some (.ref d), some (.int m), x2, x3, x4] H1 := by
      intro D eD
      refine ⟨_, rfl, d, .int nb, rfl, by rw [← v_number sd nb ll]; exact DGet.k (k := kN) hd, ?_⟩
      refine ⟨_, rfl, _, _, rfl, rfl, _, rfl, ?_⟩
      by_cases pos : (0 : Int) < nb
      · rw [decide_eq_true pos]
        refine iteT ⟨_, rfl, _, rfl, _, _, rfl, rfl, ⟨m0, m30⟩, _, rfl, d, _, rfl, DPut.k (k := kN) hd (few _ _), ?_⟩
        refine ⟨_, rfl, _, rfl, _, _, rfl, rfl, m0, ?_⟩
        have k0 : 0 ≤ nb % m := Int.emod_nonneg _ (by omega)
        have k1 : nb % m < m := Int.emod_lt_of_pos _ m0
        obtain ⟨k, ek⟩ : ∃ k : Nat, ((k : Nat) : Int) = nb % m := ⟨(nb % m).toNat, by omega⟩
        rw [eD]
        show Q (V.int (nb % m)) (upd H1 d (.dK (putK (dkv sd nb ll) kN (.int (nb / m)))))
        rw [← ek]
        refine q _ k s1.at_d ⟨sd, nb / m, xs, by rw [upd_same, p_number], by rw [upd_ne hne.symm]; exact hl, Int.ediv_nonneg nb0 (by omega), hx, sd0, sd1⟩ (by rw [ek]; exact k1)
      · rw [decide_eq_false pos]
        refine iteF ?_
        refine ⟨_, rfl, d, .int sd, rfl, by rw [← v_seed sd nb ll]; exact DGet.k (k := kS) hd, _, _, rfl, rfl, .inr ⟨by decide, by decide⟩, _, _, rfl, rfl, _, _, rfl, rfl, (by show (0 : Int) < 2147483647; decide), ?_⟩
        have o0 : 0 ≤ (sd * 48271 + 7919) % 2147483647 := Int.emod_nonneg _ (by decide)
        have o1 : (sd * 48271 + 7919) % 2147483647 < 2147483647 := Int.emod_lt_of_pos _ (by decide)
        show tSeq _ _ _ ([some (.ref d), some (.int m), some (.int nb), some (.int ((sd * 48271 + 7919) % 2147483647)), x4]) H1
        generalize (sd * 48271 + 7919) % 2147483647 = one at o0 o1
        refine ⟨_, rfl, _, _, rfl, rfl, .inr ⟨by decide, by decide⟩, _, _, rfl, rfl, _, _, rfl, rfl, (by show (0 : Int) < 2147483399; decide), _, rfl, d, _, rfl, DPut.k (k := kS) hd (few _ _), ?_⟩
        have t0 : 0 ≤ (one * 40692 + 104729) % 2147483399 := Int.emod_nonneg _ (by decide)
        have t1 : (one * 40692 + 104729) % 2147483399 < 2147483399 := Int.emod_lt_of_pos _ (by decide)
        rw [p_seed]
        generalize (one * 40692 + 104729) % 2147483399 = two at t0 t1
        have hd2 : (upd H1 d (.dK (dkv two nb ll))) d = some (.dK (dkv two nb ll)) := upd_same
        refine ⟨_, rfl, d, .int two, rfl, by rw [← v_seed two nb ll]; exact DGet.k (k := kS) hd2, _, rfl, d, .int two, rfl, by rw [← v_seed two nb ll]; exact DGet.k (k := kS) hd2, _, _, rfl, rfl, .inr ⟨by omega, by omega⟩, _, _, rfl, rfl, (by show (0 : Int) < 2147483563; decide), ?_⟩
        refine ⟨_, rfl, _, rfl, _, _, rfl, rfl, .inr ⟨by omega, by omega⟩, _, _, rfl, rfl, (by show (0 : Int) < 2147483629; decide), _, _, rfl, rfl, .inr ⟨by decide, by decide⟩, _, rfl, _, _, rfl, rfl, _, rfl, _, _, rfl, rfl, m0, ?_⟩
        generalize one * one % 2147483629 * 2147483563 + two * two % 2147483563 = big
        have k0 : 0 ≤ big % m := Int.emod_nonneg _ (by omega)
        have k1 : big % m < m := Int.emod_lt_of_pos _ m0
        obtain ⟨k, ek⟩ : ∃ k : Nat, ((k : Nat) : Int) = big % m := ⟨(big % m).toNat, by omega⟩
        rw [eD]
        show Q (V.int (big % m)) _
        rw [← ek]
        exact q _ k s1.at_d ⟨two, nb, xs, hd2, by rw [upd_ne hne.symm]; exact hl, nb0, hx, t0, by omega⟩ (by rw [ek]; exact k1)
    by_cases n0 : nb = 0
    · subst n0
      have ex : xs = [] := Classical.byContradiction fun z => c ⟨rfl, z⟩
      subst ex
      rw [decide_eq_true (rfl : V.int 0 = V.int 0)]
      refine iteT ⟨_, rfl, d, .ref ll, rfl, by rw [← v_left sd 0 ll]; exact DGet.k (k := kL) hd, ll, _, rfl, .inl (SqL.of hl), _, _, rfl, rfl, _, rfl, ?_⟩
      refine iteF ?_
      exact tail _ rfl
    · have e1 : decide (V.int nb = V.int 0) = false := decide_eq_false fun z => n0 (V.int.inj z)
      rw [e1]
      refine iteF (iteF ?_)
      exact tail _ rfl
end
end Wk

/-! W22: _law_deal, _law_letters, _law_word. -/
namespace Wk
open PySem hiding Tree
open L2 KX K55
section
variable {P : Program} {w : World} {K : PySem.W.Frag} {mg : Str → Option Value} {base : Heap}
/-! ### _law_deal -/
def spDeal (K : PySem.W.Frag) : Sp := fun vs H Q _ => ∃ (a : Addr) (ns : List Int), vs = [.ref a, .int 0] ∧ SqL K H a (ns.map V.int) ∧ ns.length ≤ 63 ∧ ∀ H' d ll, Same H H' → H d = none → H ll = none → DealAt H' d ll → Q (.ref d) H'
abbrev nDeal : List Str := ["_law_script", "_law_base", "_law_cells", "_law_number", "_law_cell"]
theorem scDeal : FnScope nDeal ["_law_script", "_law_base"] (defScope sDeal) := ⟨rfl, rfl, rfl, by decide +kernel, rfl, by decide +kernel, by decide +kernel⟩
theorem cut_map (ns : List Int) (lo hi : Option Int) : ∃ ms : List Int, cutV (ns.map V.int) lo hi = ms.map V.int ∧ ms.length ≤ ns.length := by
  unfold cutV
  refine ⟨_, by rw [← List.map_drop, ← List.map_take], ?_⟩
  rw [List.length_take, List.length_drop]
  omega
theorem d_deal (S0 : Src K mg "_law_deal" sDeal ["_law_script", "_law_base"]) (B : Blt mg) : Dfn P w K mg base "_law_deal" 1 ["_law_script", "_law_base"] (spDeal K) := by
  obtain ⟨f, fd, gf, F, bd⟩ := S0.ex
  refine ⟨f, fd, gf, F.ok scDeal (fun vs H Q E h => ?_) (fun cdv A outer s H vs Q E hr h => ?_), bd, F.kp⟩
  · obtain ⟨a, ns, rfl, _⟩ := h
    rfl
  obtain ⟨a, ns, rfl, hA, l63, q⟩ := h
  refine ⟨_, pss_cons (ps_setLc (i := 2) (own := [("_law_cell", 4)]) (g := gName 4) rfl scDeal.nd rfl rfl (sw_true rfl rfl rfl (by decide +kernel)) (pi_list (pe_slice sl_list (pv 0) (po_some (pv 1)) (po_some pe_int))) (blkOk_by (N := nDeal) (sc := defScope sDeal) (by decide +kernel)) (fun _ _ _ _ _ => pg_name (i := 4) scDeal.nd rfl (Or.inl rfl))
        (fun _ _ _ _ _ => pts_nil) (fun _ _ _ _ _ => pe_callB (call_max2 rfl) (by rfl) B.max (by decide +kernel) (pa_cons (pv 4) (pa_cons (pe_op op_sub pe_int (pv 4)) pa_nil))))
    (pss_cons (ps_set (i := 3) scDeal.nd rfl (.inl rfl) (pe_op op_add pe_int (pv 1)))
    (pss_cons (ps_for PassesOwn.never rfl (pi_list (pv 2)) (pg_name (i := 4) scDeal.nd rfl (.inl rfl))
      (pss_one (ps_set (i := 3) scDeal.nd rfl (.inl rfl) (pe_op op_mod (pe_op op_add (pe_op op_mul (pv 3) pe_int) (pe_op op_mod (pv 4) pe_int)) pe_int))))
    (pss_one (ps_ret (pe_disp (pps_cons pe_str (pv 3) (pps_cons pe_str pe_int (pps_cons pe_str (pe_listRev rfl (by rfl) B.list (by rfl) B.rev
      (pe_lc (own := [("_law_cell", 4)]) (g := gName 4) rfl scDeal.nd (pi_list (pv 2)) (blkOk_by (N := nDeal) (sc := defScope sDeal) (by decide +kernel)) (fun _ _ _ _ _ => pg_name (i := 4) scDeal.nd rfl (Or.inl rfl))
        (fun _ _ _ _ _ => pts_one (pt_cmpR op_ge (pv 4) (pe_op op_pow pe_int pe_int) (nomark _))) (fun _ _ _ _ _ => pv 4))) pps_nil))) rfl rfl (by simp) (by show 3 ≤ 15; decide)))))), ?_⟩
  refine ⟨_, rfl, _, rfl, _, rfl, _, rfl, a, _, rfl, hA, fun c nc => ?_⟩
  obtain ⟨ms, ems, lms⟩ := cut_map ns (some 0) (some 63)
  have s1 : Same H (upd H c (.lst (cutV (ns.map V.int) (some 0) (some 63)))) := same_new nc
  have hc : (upd H c (.lst (cutV (ns.map V.int) (some 0) (some 63)))) c = some (.lst (ms.map V.int)) := by rw [upd_same, ems]
  refine ⟨c, rfl, ⟨_, SqL.of hc⟩, fun D nD => ?_⟩
  have D0 : H D = none := s1.free nD
  refine lc_list (K := K) (a := c) (xs := ms.map V.int) (fun i H' => Same (upd H c (.lst (cutV (ns.map V.int) (some 0) (some 63)))) H' ∧ ∃ cs : List Int, H' D = some (.lst (cs.map V.int)) ∧ (∀ x ∈ cs, 0 ≤ x) ∧ cs.length ≤ i) ⟨same_new nD, [], upd_same, fun _ z => (nomatch z), Nat.le_refl _⟩ (fun i H' _ z => SqL.of (z.1 _ _ hc)) ?_ ?_
  · rintro i v H1 hi ⟨s2, cs, hD, hcs, lcs⟩
    obtain ⟨n, hn, rfl⟩ : ∃ n, ms[i]? = some n ∧ V.int n = v := by
      rw [List.getElem?_map] at hi
      exact Option.map_eq_some_iff.mp hi
    have il : i < ms.length := (List.getElem?_eq_some_iff.mp hn).1
    refine ⟨rfl, _, rfl, _, rfl, _, _, rfl, rfl, _, _, rfl, _, hD, by rw [List.length_map]; exact small1000 (by omega), s2.put nD, cs ++ [if 0 - n > n then 0 - n else n], by rw [upd_same, List.map_append]; rfl, fun x hx => ?_, by rw [List.length_append, List.length_singleton]; omega⟩
    rcases List.mem_append.mp hx with z | z
    · exact hcs x z
    · rw [List.mem_singleton.mp z]
      split <;> omega
  rintro H1 ⟨s2, cs, hD, hcs, lcs⟩
  rw [List.length_map] at lcs
  have s12 := s1.trans s2
  refine ⟨_, rfl, _, _, rfl, rfl, ?_⟩
  refine ⟨_, rfl, D, rfl, ⟨_, SqL.of hD⟩, for_list (K := K) (a := D) (xs := cs.map V.int) (fun i σ H' => ∃ (n : Int) (x4 : Option V), σ = [some (.ref a), some (.int 0), some (.ref D), some (.int n), x4] ∧ H' = H1 ∧ 0 ≤ n ∧ n < 2147483647)
    ⟨7919 + 0, _, rfl, rfl, by decide, by decide⟩ (fun i σ H' _ ⟨_, _, _, e, _⟩ => by rw [e]; exact SqL.of hD) ?_ ?_⟩
  · rintro i v σ H' hi ⟨n, x4, rfl, rfl, n0, n1⟩
    obtain ⟨m, hm, rfl⟩ : ∃ n, cs[i]? = some n ∧ V.int n = v := by
      rw [List.getElem?_map] at hi
      exact Option.map_eq_some_iff.mp hi
    refine ⟨_, rfl, _, _, rfl, rfl, .inr ⟨by decide, by decide⟩, _, rfl, _, _, rfl, rfl, (by show (0 : Int) < 2147483629; decide), _, _, rfl, rfl, _, _, rfl, rfl, (by show (0 : Int) < 2147483647; decide), ?_⟩
    exact ⟨(n * 48271 + m % 2147483629) % 2147483647, _, rfl, rfl, Int.emod_nonneg _ (by decide), Int.emod_lt_of_pos _ (by decide)⟩
  · rintro σ H' ⟨n, x4, rfl, eH, n0, n1⟩
    subst eH
    intro d nd
    have hD2 : (upd H' d (.dK [])) D = some (.lst (cs.map V.int)) := by rw [upd_ne (ne_of_none hD nd)]; exact hD
    refine ⟨_, rfl, _, rfl, D, rfl, ⟨_, SqL.of hD2⟩, fun G nG => ?_⟩
    refine lc_list (K := K) (a := D) (xs := cs.map V.int) (fun i H2 => Same (upd H' d (.dK [])) H2 ∧ ∃ bs : List Int, H2 G = some (.lst (bs.map V.int)) ∧ (∀ x ∈ bs, 0 ≤ x) ∧ bs.length ≤ i) ⟨same_new nG, [], upd_same, fun _ z => (nomatch z), Nat.le_refl _⟩ (fun i H2 _ z => SqL.of (z.1 _ _ hD2)) ?_ ?_
    · rintro i v H2 hi ⟨s3, bs, hG, hbs, lbs⟩
      obtain ⟨m, hm, rfl⟩ : ∃ n, cs[i]? = some n ∧ V.int n = v := by
        rw [List.getElem?_map] at hi
        exact Option.map_eq_some_iff.mp hi
      have il : i < cs.length := (List.getElem?_eq_some_iff.mp hm).1
      refine ⟨rfl, _, rfl, _, _, rfl, rfl, ⟨by decide, by decide, by decide⟩, _, _, rfl, rfl, _, rfl, ?_⟩
      refine ite2 (fun _ => ?_) (fun _ => ⟨s3, bs, hG, hbs, by omega⟩)
      refine ⟨_, rfl, _, hG, by rw [List.length_map]; exact small1000 (by omega), s3.put nG, bs ++ [m], by rw [upd_same, List.map_append]; rfl, fun x hx => ?_, by rw [List.length_append, List.length_singleton]; omega⟩
      rcases List.mem_append.mp hx with z | z
      · exact hbs x z
      · rw [List.mem_singleton.mp z]; exact hcs m (List.mem_of_getElem? hm)
    · rintro H2 ⟨s3, bs, hG, hbs, lbs⟩
      refine ⟨G, _, rfl, SqL.of hG, fun ll nll => ?_⟩
      have hd3 := s3 _ _ (show (upd H' d (.dK [])) d = some (.dK []) from upd_same)
      have hd4 : (upd H2 ll (.lst (bs.map V.int).reverse)) d = some (.dK []) := by rw [upd_ne (ne_of_none hd3 nll)]; exact hd3
      have ndl : d ≠ ll := ne_of_none hd3 nll
      have sA : Same H (upd H2 ll (.lst (bs.map V.int).reverse)) := (s12.trans ((same_new nd).trans s3)).new nll
      have d0 : H d = none := s12.free nd
      have ll0 : H ll = none := (s12.trans ((same_new nd).trans s3)).free nll
      refine ⟨hd4, dkv n 0 ll, rfl, (by show 3 ≤ 15; decide), ?_⟩
      refine q _ d ll (sA.put d0) d0 ll0 ⟨n, 0, bs.reverse, ?_, by rw [upd_ne ndl.symm, upd_same, List.map_reverse], Int.le_refl 0, fun x hx => hbs x (List.mem_reverse.mp hx), n0, n1⟩
      rw [upd_same]
      have e : mergeK [] (dkv n 0 ll) = dkv n 0 ll := by
        unfold mergeK dkv
        show putK (putK (putK [] kS (.int n)) kN (.int 0)) kL (.ref ll) = _
        have p1 : putK ([] : List (Key × V)) kS (.int n) = [(kS, .int n)] := putK_new _ rfl
        have p2 : putK [(kS, V.int n)] kN (.int 0) = [(kS, .int n), (kN, .int 0)] := putK_new _ ((valV_neg sn_).trans rfl)
        have p3 : putK [(kS, V.int n), (kN, .int 0)] kL (.ref ll) = [(kS, .int n), (kN, .int 0), (kL, .ref ll)] := putK_new _ ((valV_neg sl_).trans ((valV_neg nl_).trans rfl))
        rw [p1, p2, p3]
      rw [e]
end
end Wk

/-! W23: _law_letters, _law_word, _law_had_word. -/
namespace Wk
open PySem hiding Tree
open L2 KX K55
def sg (c : Nat) : V := .str (tx [c])
theorem seqI (k n : Nat) (h : k < n) : seqIndex? ((k : Nat) : Int) n = some k := by
  unfold seqIndex?
  simp
  omega
theorem DealAt.out {H : Hp} {d ll x : Addr} (a : DealAt H d ll) (n : H x = none) : x ≠ d ∧ x ≠ ll := by
  obtain ⟨sd, nb, xs, h1, h2, _⟩ := a
  exact ⟨(ne_of_none h1 n).symm, (ne_of_none h2 n).symm⟩
theorem Dl.free {d ll x : Addr} {H H' : Hp} (s : Dl d ll H H') (h1 : x ≠ d) (h2 : x ≠ ll) (n : H' x = none) : H x = none := by
  cases e : H x with
  | none => rfl
  | some o => rw [s x o h1 h2 e] at n; cases n
def rLenSq (K : PySem.W.Frag) : List V → Hp → VK → Prop := fun xs H Q => ∃ p ys, xs = [.ref p] ∧ (SqL K H p ys ∨ SqT K H p ys) ∧ Q (.int ys.length) H
section
variable {P : Program} {w : World} {K : PySem.W.Frag} {mg : Str → Option Value} {base : Heap}
/-! ### _law_letters -/
def spLLetters : Sp := fun vs H Q _ => ∃ d ll : Addr, vs = [.ref d] ∧ DealAt H d ll ∧ ∀ H' y (ls : List Nat), Dl d ll H H' → DealAt H' d ll → H y = none → H' y = some (.lst (ls.map sg)) → 1 ≤ ls.length → ls.length ≤ 3 → Q (.ref y) H'
abbrev nLLetters : List Str := ["_law_deal_here", "_law_left", "_law_k"]
theorem scLLetters : FnScope nLLetters ["_law_deal_here"] (defScope sLLetters) := ⟨rfl, rfl, rfl, by decide +kernel, rfl, by decide +kernel, by decide +kernel⟩
theorem abc_len : (("abcdefghijklmnopqrstuvwxyz" : Str).cps.toList).length = 26 := by decide +kernel
theorem d_lletters (S0 : Src K mg "_law_letters" sLLetters ["_law_deal_here"]) (B : Blt mg) (D1 : Dfn P w K mg base "_law_draw" 1 ["_law_deal_here", "_law_many"] spDraw) : Dfn P w K mg base "_law_letters" 2 ["_law_deal_here"] spLLetters := by
  obtain ⟨f, fd, gf, F, bd⟩ := S0.ex
  obtain ⟨f1, fd1, g1, G1, b1, k1⟩ := D1.ex
  refine ⟨f, fd, gf, F.ok scLLetters (fun vs H Q E h => ?_) (fun cdv A outer s H vs Q E hr h => ?_), bd, F.kp⟩
  · obtain ⟨d, ll, rfl, _⟩ := h
    rfl
  obtain ⟨d, ll, rfl, hD, q⟩ := h
  refine ⟨_, pss_cons (ps_set (i := 1) scLLetters.nd rfl (.inr rfl) (pe_callTy (call_list_text rfl) (by rfl) B.list (by decide +kernel) (pa_cons pe_str pa_nil)))
    (pss_one (ps_ret (pe_callB cr_sortedS (by rfl) B.sorted (by decide +kernel) (pa_cons (pe_lc (own := [("_law_k", 2)]) (g := gName 2) (tt := tYes) (te := tBM K "list" rPopAt (tVar 1) (tCons (tCall spDraw [] E0 (tCons (tVar 0) (tCons (tCB (rLenSq K) (tCons (tVar 1) tNil)) tNil))) tNil)) rfl scLLetters.nd (pi_range1 (by rfl) B.range (pa_cons (pe_op op_add pe_int (pe_call G1 hr (by rfl) g1 k1 b1 .nil pass0 (pa_cons (pv 0) (pa_cons pe_int pa_nil)))) pa_nil))
      (blkOk_by (N := nLLetters) (sc := defScope sLLetters) (by decide +kernel)) (fun _ _ _ _ _ => pg_name (i := 2) scLLetters.nd rfl (Or.inl rfl)) (fun _ _ _ _ _ => pts_nil)
      (fun _ _ _ _ _ => pe_bm PySem.F.plainAttrs_list PySem.F.slot_list_pop PySem.F.type_list_pop mt_popAt (pv 1) (pa_cons (pe_call G1 hr (by rfl) g1 k1 b1 .nil pass0 (pa_cons (pv 0) (pa_cons (pe_callB call_len_seq (by rfl) B.len PySem.boot_len (pa_cons (pv 1) pa_nil)) pa_nil))) pa_nil))) pa_nil)))), ?_⟩
  refine ⟨_, rfl, by show (("abcdefghijklmnopqrstuvwxyz" : Str).cps.size) ≤ sizeLine; rw [← Array.length_toList, abc_len]; decide, fun L nL => ?_⟩
  obtain ⟨Ld, Lll⟩ := hD.out nL
  have hL : (upd H L (.lst (signsV "abcdefghijklmnopqrstuvwxyz"))) L = some (.lst (("abcdefghijklmnopqrstuvwxyz" : Str).cps.toList.map sg)) := upd_same
  have s1 : Same H (upd H L (.lst (signsV "abcdefghijklmnopqrstuvwxyz"))) := same_new nL
  have hD1 := hD.same s1
  generalize upd H L (.lst (signsV "abcdefghijklmnopqrstuvwxyz")) = H1 at hL s1 hD1
  refine ⟨_, rfl, d, ll, 3, rfl, hD1, by decide, by decide, fun H2 k s2 hD2 lt => ⟨_, _, rfl, rfl, _, rfl, by omega, by omega, ?_⟩⟩
  have en : ((1 : Int) + ((k : Nat) : Int)).toNat = 1 + k := by omega
  rw [en]
  intro D nD
  have s12 : Dl d ll H H2 := (s1.dl d ll).trans s2
  have hL2 := s2 _ _ Ld Lll hL
  have DL : L ≠ D := ne_of_none hL2 nD
  obtain ⟨Dd, Dll⟩ := hD2.out nD
  have D0 : H D = none := s12.free Dd Dll nD
  refine lc_range (lo := 0) (n := 1 + k) (fun i H' => Dl d ll H H' ∧ DealAt H' d ll ∧ ∃ rest got : List Nat, H' L = some (.lst (rest.map sg)) ∧ rest.length + i = 26 ∧ H' D = some (.lst (got.map sg)) ∧ got.length = i)
    ⟨s12.new nD, hD2.new nD, _, [], by rw [upd_ne DL]; exact hL2, abc_len, upd_same, rfl⟩ ?_ ?_
  · rintro i H3 hi ⟨s3, hD3, rest, got, hL3, lr, hG, lg⟩
    have lrm : (rest.map sg).length = rest.length := List.length_map _
    refine ⟨rfl, _, rfl, .inl ⟨rfl, _, SqL.of hL3⟩, _, rfl, _, rfl, L, _, rfl, .inl (SqL.of hL3), d, ll, _, rfl, hD3, by omega, by omega, fun H4 k' s4 hD4 lt' => ?_⟩
    have kl : k' < rest.length := by omega
    have hL4 := s4 _ _ Ld Lll hL3
    have hG4 := s4 _ _ Dd Dll hG
    refine ⟨L, _, _, k', sg rest[k'], rfl, rfl, hL4, by omega, by omega, by rw [lrm]; exact seqI _ _ kl, by rw [List.getElem?_map, List.getElem?_eq_getElem kl]; rfl, ?_⟩
    have hG5 : (upd H4 L (.lst ((rest.map sg).eraseIdx k'))) D = some (.lst (got.map sg)) := by rw [upd_ne DL.symm]; exact hG4
    refine ⟨_, hG5, by rw [List.length_map]; exact small1000 (by omega), ((s3.trans s4).put nL).put D0, (hD4.put Ld Lll).put Dd Dll, rest.eraseIdx k', got ++ [rest[k']], ?_, ?_, ?_, by rw [List.length_append, List.length_singleton, lg]⟩
    · rw [upd_ne DL, upd_same, List.eraseIdx_eq_take_drop_succ, List.eraseIdx_eq_take_drop_succ, List.map_append, List.map_take, List.map_drop]
    · rw [List.length_eraseIdx_of_lt kl]; omega
    · rw [upd_same, List.map_append]; rfl
  · rintro H3 ⟨s3, hD3, rest, got, hL3, lr, hG, lg⟩
    refine ⟨D, got.map fun c => tx [c], rfl, SqL.of (by rw [hG, List.map_map]; rfl), by rw [List.length_map]; omega, fun ys y pm _ ny => ?_⟩
    obtain ⟨ls, els, _⟩ := map_back (f := fun c => tx [c]) (ks := got) (L := ys) fun x hx => pm.mem_iff.mp hx
    subst els
    have lls : ls.length = got.length := by
      have z := pm.length_eq
      rw [List.length_map, List.length_map] at z
      exact z
    obtain ⟨yd, yll⟩ := hD3.out ny
    exact q _ y ls (s3.new ny) (hD3.new ny) (s3.free yd yll ny) (by rw [upd_same, List.map_map]; rfl) (by omega) (by omega)
/-! ### _law_word -/
def spWord : Sp := fun vs H Q _ => ∃ (d ll y : Addr) (ls : List Nat) (m : Nat), vs = [.ref d, .ref y, .int (m : Nat)] ∧ DealAt H d ll ∧ y ≠ d ∧ y ≠ ll ∧ H y = some (.lst (ls.map sg)) ∧ 1 ≤ ls.length ∧ ls.length ≤ 3 ∧ m ≤ 100 ∧
  ∀ H' (wd : List Nat), Dl d ll H H' → DealAt H' d ll → wd.length ≤ m → Q (.str (tx wd)) H'
abbrev nWord : List Str := ["_law_deal_here", "_law_letters_here", "_law_most", "_law_k"]
theorem scWord : FnScope nWord ["_law_deal_here", "_law_letters_here", "_law_most"] (defScope sWord) := ⟨rfl, rfl, rfl, by decide +kernel, rfl, by decide +kernel, by decide +kernel⟩
theorem ones_sum (s : List Nat) : ((s.map fun c => tx [c]).map fun x : Str => x.length).sum = s.length := by
  induction s with
  | nil => rfl
  | cons c s ih => rw [List.map_cons, List.map_cons, List.sum_cons, ih, List.length_cons, tx_len, List.length_singleton]; omega
theorem d_word (S0 : Src K mg "_law_word" sWord ["_law_deal_here", "_law_letters_here", "_law_most"]) (B : Blt mg) (D1 : Dfn P w K mg base "_law_draw" 1 ["_law_deal_here", "_law_many"] spDraw) : Dfn P w K mg base "_law_word" 2 ["_law_deal_here", "_law_letters_here", "_law_most"] spWord := by
  obtain ⟨f, fd, gf, F, bd⟩ := S0.ex
  obtain ⟨f1, fd1, g1, G1, b1, k1⟩ := D1.ex
  refine ⟨f, fd, gf, F.ok scWord (fun vs H Q E h => ?_) (fun cdv A outer s H vs Q E hr h => ?_), bd, F.kp⟩
  · obtain ⟨d, ll, y, ls, m, rfl, _⟩ := h
    rfl
  obtain ⟨d, ll, y, ls, m, rfl, hD, yd, yll, hy, l1, l3, m100, q⟩ := h
  refine ⟨_, pss_one (ps_ret (pe_join pe_str (pe_lc (own := [("_law_k", 3)]) (g := gName 3) (tt := tYes) (te := tOp (rIxL K) (tVar 1) (tCall spDraw [] E0 (tCons (tVar 0) (tCons (tCB (rLenSq K) (tCons (tVar 1) tNil)) tNil)))) rfl scWord.nd
      (pi_range1 (by rfl) B.range (pa_cons (pe_call G1 hr (by rfl) g1 k1 b1 .nil pass0 (pa_cons (pv 0) (pa_cons (pe_op op_add (pv 2) pe_int) pa_nil))) pa_nil))
      (blkOk_by (N := nWord) (sc := defScope sWord) (by decide +kernel)) (fun _ _ _ _ _ => pg_name (i := 3) scWord.nd rfl (Or.inl rfl)) (fun _ _ _ _ _ => pts_nil)
      (fun _ _ _ _ _ => pe_ix ix_list (pv 1) (pe_call G1 hr (by rfl) g1 k1 b1 .nil pass0 (pa_cons (pv 0) (pa_cons (pe_callB call_len_seq (by rfl) B.len PySem.boot_len (pa_cons (pv 1) pa_nil)) pa_nil))) (fun _ _ => rfl))))), ?_⟩
  refine ⟨⟨_, rfl⟩, _, rfl, _, rfl, _, _, rfl, rfl, d, ll, _, rfl, hD, by omega, by omega, fun H2 k s2 hD2 lt => ⟨_, rfl, by omega, by omega, ?_⟩⟩
  have en : (((k : Nat) : Int)).toNat = k := by omega
  rw [en]
  intro D nD
  have hy2 := s2 _ _ yd yll hy
  have Dy : y ≠ D := ne_of_none hy2 nD
  obtain ⟨Dd, Dll⟩ := hD2.out nD
  have D0 : H D = none := s2.free Dd Dll nD
  refine lc_range (lo := 0) (n := k) (fun i H' => Dl d ll H H' ∧ DealAt H' d ll ∧ ∃ got : List Nat, H' y = some (.lst (ls.map sg)) ∧ H' D = some (.lst (got.map sg)) ∧ got.length = i)
    ⟨s2.new nD, hD2.new nD, [], by rw [upd_ne Dy]; exact hy2, upd_same, rfl⟩ ?_ ?_
  · rintro i H3 hi ⟨s3, hD3, got, hy3, hG, lg⟩
    have lrm : (ls.map sg).length = ls.length := List.length_map _
    refine ⟨rfl, _, rfl, _, rfl, _, rfl, y, _, rfl, .inl (SqL.of hy3), d, ll, _, rfl, hD3, by omega, by omega, fun H4 k' s4 hD4 lt' => ?_⟩
    have kl : k' < ls.length := by omega
    have hy4 := s4 _ _ yd yll hy3
    have hG4 := s4 _ _ Dd Dll hG
    refine ⟨y, _, _, sg ls[k'], rfl, rfl, SqL.of hy4, atI_nat (by rw [List.getElem?_map, List.getElem?_eq_getElem kl]; rfl), ?_⟩
    refine ⟨_, hG4, by rw [List.length_map]; exact small1000 (by omega), (s3.trans s4).put D0, hD4.put Dd Dll, got ++ [ls[k']], by rw [upd_ne Dy]; exact hy4, by rw [upd_same, List.map_append]; rfl, by rw [List.length_append, List.length_singleton, lg]⟩
  · rintro H3 ⟨s3, hD3, got, hy3, hG, lg⟩
    refine ⟨_, D, got.map fun c => tx [c], rfl, rfl, .inl (SqL.of (by rw [hG, List.map_map]; rfl)), ?_, ?_⟩
    · rw [ones_sum, show (("" : Str).length) = 0 from by decide +kernel, Nat.mul_zero]
      omega
    · rw [show Txt.join ("" : Str) (got.map fun c => tx [c]) = Str.join "" (got.map fun c => tx [c]) from TL.join_eq _ _, join1]
      exact q H3 got s3 hD3 (by omega)
end
end Wk

/-! W24: _law_had_word. -/
namespace Wk
open PySem hiding Tree
open L2 KX K55
section
variable {P : Program} {w : World} {K : PySem.W.Frag} {mg : Str → Option Value} {base : Heap}
def spHad : Sp := fun vs H Q _ => ∃ (d ll b : Addr) (pr : Product), vs = [.ref d, .ref b] ∧ DealAt H d ll ∧ PrAt H b pr ∧ pr.length ≤ 35 ∧ WFP pr ∧
  ∀ H' (wd : List Nat), Dl d ll H H' → DealAt H' d ll → wd.length ≤ 6 → Q (.str (tx wd)) H'
abbrev nHad : List Str := ["_law_deal_here", "_law_product", "_law_word_here", "_law_sort", "_law_letters_here", "_law_k"]
theorem scHad : FnScope nHad ["_law_deal_here", "_law_product"] (defScope sHad) := ⟨rfl, rfl, rfl, by decide +kernel, rfl, by decide +kernel, by decide +kernel⟩
theorem cut6 (wd : List Nat) (i : Int) (hi : i = 6) : cutS (tx wd) none (some i) = tx (wd.take 6) := by
  subst hi
  unfold cutS
  rw [show HT.sIx (tx wd).length 0 none = 0 from HT.sIx_none _ _, show HT.sIx (tx wd).length (tx wd).length (some 6) = min 6 (tx wd).length from HT.sIx_nat _ _ 6, tx_len, tx_list]
  unfold tx
  congr 2
  show (wd.drop 0).take (min 6 wd.length - 0) = wd.take 6
  rw [List.drop_zero, Nat.sub_zero]
  rcases Nat.le_total 6 wd.length with h | h
  · rw [Nat.min_eq_left h]
  · rw [Nat.min_eq_right h, List.take_length, List.take_of_length_le h]
theorem d_had (S0 : Src K mg "_law_had_word" sHad ["_law_deal_here", "_law_product"]) (B : Blt mg) (D1 : Dfn P w K mg base "_law_draw" 1 ["_law_deal_here", "_law_many"] spDraw) : Dfn P w K mg base "_law_had_word" 2 ["_law_deal_here", "_law_product"] spHad := by
  obtain ⟨f, fd, gf, F, bd⟩ := S0.ex
  obtain ⟨f1, fd1, g1, G1, b1, k1⟩ := D1.ex
  refine ⟨f, fd, gf, F.ok scHad (fun vs H Q E h => ?_) (fun cdv A outer s H vs Q E hr h => ?_), bd, F.kp⟩
  · obtain ⟨d, ll, b, pr, rfl, _⟩ := h
    rfl
  obtain ⟨d, ll, b, pr, rfl, hD, ⟨cs, hb, hcs⟩, l35, wf, q⟩ := h
  refine ⟨_, pss_cons (ps_set (i := 2) scHad.nd rfl (.inl rfl) pe_str)
    (pss_cons (ps_for PassesOwn.never rfl (pi_tup (pv 1)) (pg_tup rfl (pgs_cons (pg_name (i := 3) scHad.nd rfl (.inl rfl)) (pgs_cons (pg_name (i := 4) scHad.nd rfl (.inr rfl)) pgs_nil)))
      (pss_one (ps_if (pt_cmpR op_eq (pv 3) pe_str (nomark _))
        (pss_one (ps_set (i := 2) scHad.nd rfl (.inl rfl) (pe_op op_add_str (pv 2) (pe_op op_mul_text (pv 4) (pe_call G1 hr (by rfl) g1 k1 b1 .nil pass0 (pa_cons (pv 0) (pa_cons pe_int pa_nil)))))))
        (pss_one (ps_set (i := 2) scHad.nd rfl (.inl rfl) (pe_op op_add_str (pv 2) (pe_join pe_str (pe_lc (own := [("_law_k", 5)]) (g := gName 5) (tt := tYes) rfl scHad.nd
          (pi_range1 (by rfl) B.range (pa_cons (pe_call G1 hr (by rfl) g1 k1 b1 .nil pass0 (pa_cons (pv 0) (pa_cons pe_int pa_nil))) pa_nil))
          (blkOk_by (N := nHad) (sc := defScope sHad) (by decide +kernel)) (fun _ _ _ _ _ => pg_name (i := 5) scHad.nd rfl (Or.inl rfl)) (fun _ _ _ _ _ => pts_nil)
          (fun _ _ _ _ _ => pe_ix ix_str (pv 4) (pe_call G1 hr (by rfl) g1 k1 b1 .nil pass0 (pa_cons (pv 0) (pa_cons (pe_callB call_len_str (by rfl) B.len PySem.boot_len (pa_cons (pv 4) pa_nil)) pa_nil))) (fun _ _ => rfl))))))))))
    (pss_one (ps_ret (pe_slice sl_str (pv 2) po_none (po_some pe_int))))), ?_⟩
  have lcs : cs.length = pr.length := hcs.len
  refine ⟨_, rfl, b, rfl, ⟨_, SqT.of hb⟩, for_tup (K := K) (a := b) (xs := cs.map V.ref) (fun i σ H' => ∃ (wd : List Nat) (x3 x4 x5 : Option V), σ = [some (.ref d), some (.ref b), some (.str (tx wd)), x3, x4, x5] ∧ Dl d ll H H' ∧ DealAt H' d ll ∧ H' b = some (.tup (cs.map V.ref)) ∧ All2 (PcAt H') cs pr ∧ wd.length ≤ 63 * i)
    ⟨[], none, none, none, by rw [tx_nil]; rfl, Dl.refl d ll H, hD, hb, hcs, Nat.le_refl _⟩ (fun i σ H' _ ⟨_, _, _, _, _, _, _, e, _⟩ => SqT.of e) ?_ ?_⟩
  · rintro i v σ H1 hi ⟨wd, x3, x4, x5, rfl, s1, hD1, hb1, hcs1, lw⟩
    obtain ⟨c, hc, rfl⟩ : ∃ c, cs[i]? = some c ∧ V.ref c = v := by
      rw [List.getElem?_map] at hi
      exact Option.map_eq_some_iff.mp hi
    obtain ⟨a, ha, pa⟩ := hcs1.getL hc
    have il : i < pr.length := (List.getElem?_eq_some_iff.mp ha).1
    have wa := wf a (List.mem_of_getElem? ha)
    refine ⟨c, _, rfl, pa.sq, rfl, _, _, rfl, _, _, rfl, rfl, ?_⟩
    refine ⟨_, rfl, rfl, _, rfl, ?_⟩
    rw [kind_mb]
    cases h : a.isAny with
    | false =>
      refine iteT ⟨_, rfl, _, rfl, _, rfl, d, ll, 2, rfl, hD1, by decide, by decide, fun H2 k s2 hD2 lt => ?_⟩
      have t12 := s2.tups hD1
      refine ⟨tx a.ls, k, rfl, rfl, by omega, by rw [tx_len]; exact Nat.le_of_lt (small1000 (by have := wa.1; omega)), ?_⟩
      have ee : (if k = 0 then Str.empty else tx a.ls) = tx (if k = 0 then [] else a.ls) := by
        split
        · exact tx_nil ▸ rfl
        · rfl
      rw [ee]
      have le2 : (if k = 0 then ([] : List Nat) else a.ls).length ≤ 63 := by
        split
        · exact Nat.zero_le _
        · exact wa.1
      generalize (if k = 0 then ([] : List Nat) else a.ls) = more at le2
      refine ⟨tx wd, tx more, rfl, rfl, by rw [tx_len, tx_len, sizeLine_eq]; omega, ?_⟩
      exact ⟨wd ++ more, _, _, _, by rw [← tx_append]; rfl, s1.trans s2, hD2, t12 _ _ hb1, hcs1.imp fun _ _ z => z.up t12, by rw [List.length_append]; omega⟩
    | true =>
      have ne : 1 ≤ a.ls.length := by
        cases a with
        | mb c => cases h
        | an s =>
          have := (wa.2 s rfl).2
          exact List.length_pos_iff.mpr this
      refine iteF ⟨_, rfl, ⟨_, rfl⟩, _, rfl, d, ll, 4, rfl, hD1, by decide, by decide, fun H2 k s2 hD2 lt => ⟨_, rfl, by omega, by omega, ?_⟩⟩
      have en : (((k : Nat) : Int)).toNat = k := by omega
      rw [en]
      intro D nD
      obtain ⟨Dd, Dll⟩ := hD2.out nD
      have D1 : H1 D = none := s2.free Dd Dll nD
      refine lc_range (lo := 0) (n := k) (fun i H' => Dl d ll H1 H' ∧ DealAt H' d ll ∧ ∃ got : List Nat, H' D = some (.lst (got.map sg)) ∧ got.length = i)
        ⟨s2.new nD, hD2.new nD, [], upd_same, rfl⟩ ?_ ?_
      · rintro i2 H3 hi2 ⟨s3, hD3, got, hG, lg⟩
        refine ⟨rfl, _, rfl, _, rfl, _, rfl, tx a.ls, rfl, by rw [tx_len]; exact Nat.le_of_lt (small1000 (by have := wa.1; omega)), d, ll, _, rfl, hD3, by rw [tx_len]; omega, by rw [tx_len]; have := wa.1; omega, fun H4 k' s4 hD4 lt' => ?_⟩
        have kl : k' < a.ls.length := by rw [tx_len] at lt'; omega
        have hG4 := s4 _ _ Dd Dll hG
        refine ⟨tx a.ls, _, a.ls[k'], rfl, rfl, by rw [tx_len]; exact Nat.le_of_lt (small1000 (by have := wa.1; omega)), by rw [tx_list]; exact atI_nat (List.getElem?_eq_getElem kl), ?_⟩
        exact ⟨_, hG4, by rw [List.length_map]; exact small1000 (by omega), (s3.trans s4).put D1, hD4.put Dd Dll, got ++ [a.ls[k']], by rw [upd_same, List.map_append]; rfl, by rw [List.length_append, List.length_singleton, lg]⟩
      · rintro H3 ⟨s3, hD3, got, hG, lg⟩
        have t13 := s3.tups hD1
        refine ⟨_, D, got.map fun c => tx [c], rfl, rfl, .inl (SqL.of (by rw [hG, List.map_map]; rfl)), ?_, ?_⟩
        · rw [ones_sum, show (("" : Str).length) = 0 from by decide +kernel, Nat.mul_zero]
          omega
        · rw [show Txt.join ("" : Str) (got.map fun c => tx [c]) = Str.join "" (got.map fun c => tx [c]) from TL.join_eq _ _, join1]
          refine ⟨tx wd, tx got, rfl, rfl, by rw [tx_len, tx_len, sizeLine_eq]; omega, ?_⟩
          exact ⟨wd ++ got, _, _, _, by rw [← tx_append]; rfl, s1.trans s3, hD3, t13 _ _ hb1, hcs1.imp fun _ _ z => z.up t13, by rw [List.length_append]; omega⟩
  · rintro σ H1 ⟨wd, x3, x4, x5, rfl, s1, hD1, hb1, hcs1, lw⟩
    rw [List.length_map, lcs] at lw
    refine ⟨_, rfl, _, rfl, tx wd, rfl, by rw [tx_len, sizeLine_eq]; omega, ?_⟩
    rw [cut6 wd _ rfl]
    exact q H1 (wd.take 6) s1 hD1 (List.length_take_le _ _)
end
end Wk

/-! W25: _law_grammar. -/
namespace Wk
open PySem hiding Tree
open L2 KX K55
section
variable {P : Program} {w : World} {K : PySem.W.Frag} {mg : Str → Option Value} {base : Heap}
def spGrammar : Sp := fun vs H Q _ => ∃ (d ll y : Addr) (ls : List Nat), vs = [.ref d, .ref y] ∧ DealAt H d ll ∧ y ≠ d ∧ y ≠ ll ∧ H y = some (.lst (ls.map sg)) ∧ 1 ≤ ls.length ∧ ls.length ≤ 3 ∧
  ∀ H' g N R, Dl d ll H H' → DealAt H' d ll → GramAt H' g N R → WFG R → Q (.ref g) H'
abbrev nGrammar : List Str := ["_law_deal_here", "_law_letters_here", "_law_names", "_law_rules", "_law_k", "_law_body", "_law_j", "_law_thing", "_law_one"]
theorem scGrammar : FnScope nGrammar ["_law_deal_here", "_law_letters_here"] (defScope sGrammar) := ⟨rfl, rfl, rfl, by decide +kernel, rfl, by decide +kernel, by decide +kernel⟩
theorem d_grammar (S0 : Src K mg "_law_grammar" sGrammar ["_law_deal_here", "_law_letters_here"]) (B : Blt mg) (D1 : Dfn P w K mg base "_law_draw" 1 ["_law_deal_here", "_law_many"] spDraw) : Dfn P w K mg base "_law_grammar" 2 ["_law_deal_here", "_law_letters_here"] spGrammar := by
  obtain ⟨f, fd, gf, F, bd⟩ := S0.ex
  obtain ⟨f1, fd1, g1, G1, b1, k1⟩ := D1.ex
  refine ⟨f, fd, gf, F.ok scGrammar (fun vs H Q E h => ?_) (fun cdv A outer s H vs Q E hr h => ?_), bd, F.kp⟩
  · obtain ⟨d, ll, y, ls, rfl, _⟩ := h
    rfl
  obtain ⟨d, ll, y, ls, rfl, hD, yd, yll, hy, l1, l3, q⟩ := h
  refine ⟨_, pss_cons (ps_set (i := 2) scGrammar.nd rfl (.inl rfl) (pe_op op_add pe_int (pe_call G1 hr (by rfl) g1 k1 b1 .nil pass0 (pa_cons (pv 0) (pa_cons pe_int pa_nil)))))
    (pss_cons (ps_set (i := 3) scGrammar.nd rfl (.inl rfl) (pe_lst pa_nil))
    (pss_cons (ps_for PassesOwn.never rfl (pi_range1 (by rfl) B.range (pa_cons (pe_call G1 hr (by rfl) g1 k1 b1 .nil pass0 (pa_cons (pv 0) (pa_cons pe_int pa_nil))) pa_nil)) (pg_name (i := 4) scGrammar.nd rfl (.inl rfl))
      (pss_cons (ps_set (i := 5) scGrammar.nd rfl (.inl rfl) (pe_lst pa_nil))
      (pss_cons (ps_for PassesOwn.never rfl (pi_range1 (by rfl) B.range (pa_cons (pe_call G1 hr (by rfl) g1 k1 b1 .nil pass0 (pa_cons (pv 0) (pa_cons pe_int pa_nil))) pa_nil)) (pg_name (i := 6) scGrammar.nd rfl (.inl rfl))
        (pss_cons (ps_set (i := 7) scGrammar.nd rfl (.inl rfl) (pe_ix ix_list (pv 1) (pe_call G1 hr (by rfl) g1 k1 b1 .nil pass0 (pa_cons (pv 0) (pa_cons (pe_callB call_len_seq (by rfl) B.len PySem.boot_len (pa_cons (pv 1) pa_nil)) pa_nil))) (fun _ _ => rfl)))
        (pss_cons (ps_if (PW.pt (pw_and (pt_cmpR op_eq (pe_call G1 hr (by rfl) g1 k1 b1 .nil pass0 (pa_cons (pv 0) (pa_cons pe_int pa_nil))) pe_int (nomark _))
            (pw_and1 (pt_cmpR op_lt (pe_callB call_len_seq (by rfl) B.len PySem.boot_len (pa_cons (pe_lc (own := [("_law_one", 8)]) (g := gName 8) rfl scGrammar.nd (pi_list (pv 5)) (blkOk_by (N := nGrammar) (sc := defScope sGrammar) (by decide +kernel)) (fun _ _ _ _ _ => pg_name (i := 8) scGrammar.nd rfl (Or.inl rfl))
              (fun _ _ _ _ _ => pts_one (pt_not (pt_val (pe_isS (by rfl) (by rfl) B.isi B.str (pv 8))))) (fun _ _ _ _ _ => pv 8)) pa_nil)) pe_int (nomark _)))))
          (pss_one (ps_set (i := 7) scGrammar.nd rfl (.inl rfl) (pe_call G1 hr (by rfl) g1 k1 b1 .nil pass0 (pa_cons (pv 0) (pa_cons (pv 2) pa_nil))))) pss_nil)
        (pss_one (ps_expr (pe_bm PySem.F.plainAttrs_list PySem.F.slot_list_append PySem.F.type_list_append mt_append (pv 5) (pa_cons (pv 7) pa_nil)))))))
      (pss_one (ps_expr (pe_bm PySem.F.plainAttrs_list PySem.F.slot_list_append PySem.F.type_list_append mt_append (pv 3) (pa_cons (pe_tup (pa_cons (pe_call G1 hr (by rfl) g1 k1 b1 .nil pass0 (pa_cons (pv 0) (pa_cons (pv 2) pa_nil)))
        (pa_cons (pe_callTy call_tuple_of (by rfl) B.tuple (by decide +kernel) (pa_cons (pv 5) pa_nil)) pa_nil))) pa_nil)))))))
    (pss_one (ps_ret (pe_tup (pa_cons (pv 2) (pa_cons (pe_callTy call_tuple_of (by rfl) B.tuple (by decide +kernel) (pa_cons (pv 3) pa_nil)) pa_nil))))))), ?_⟩
  refine ⟨_, rfl, d, ll, 3, rfl, hD, by decide, by decide, fun H1 n0 s1 hD1 lt0 => ⟨_, _, rfl, rfl, ?_⟩⟩
  obtain ⟨N, eN, N1, N3⟩ : ∃ N : Nat, (1 : Int) + ((n0 : Nat) : Int) = ((N : Nat) : Int) ∧ 1 ≤ N ∧ N ≤ 3 := ⟨1 + n0, by omega, by omega, by omega⟩
  show (gName 2) (.int ((1 : Int) + ((n0 : Nat) : Int))) _ _ _
  rw [eN]
  refine ⟨Nat.zero_le _, fun rl nrl => ?_⟩
  obtain ⟨rld, rlll⟩ := hD1.out nrl
  have rl0 : H rl = none := s1.free rld rlll nrl
  have hy1 := s1 _ _ yd yll hy
  have yrl : y ≠ rl := ne_of_none hy1 nrl
  refine ⟨_, rfl, d, ll, 6, rfl, hD1.new nrl, by decide, by decide, fun H2 n s2 hD2 lt => ⟨_, rfl, by omega, by omega, ?_⟩⟩
  have en : (((n : Nat) : Int)).toNat = n := by omega
  rw [en]
  have s02 : Dl d ll H H2 := (s1.new nrl).trans s2
  refine for_range (lo := 0) (n := n) (fun i σ H' => ∃ (R : Rules) (x4 x5 x6 x7 x8 : Option V), σ = [some (.ref d), some (.ref y), some (.int (N : Nat)), some (.ref rl), x4, x5, x6, x7, x8] ∧ Dl d ll H H' ∧ DealAt H' d ll ∧ RulesL H' rl R ∧ R.length = i ∧
      ∀ m b, (m, b) ∈ R → m < 3 ∧ b.length ≤ 3 ∧ (∀ k, Thing.nm k ∈ b → k < 3) ∧ (K55.namesOf b).length ≤ 2)
    ⟨[], none, none, none, none, none, rfl, s02, hD2, ⟨[], s2 _ _ rld rlll upd_same, trivial⟩, rfl, fun _ _ z => (nomatch z)⟩ ?_ ?_
  · rintro i σ H3 hi ⟨R, x4, x5, x6, x7, x8, rfl, s3, hD3, ⟨as, hrl, has⟩, lR, wR⟩
    refine ⟨Nat.zero_le _, fun bl nbl => ?_⟩
    obtain ⟨bld, blll⟩ := hD3.out nbl
    have bl0 : H bl = none := s3.free bld blll nbl
    have rb : rl ≠ bl := ne_of_none hrl nbl
    have hrl3 : (upd H3 bl (.lst [])) rl = some (.lst (as.map V.ref)) := by rw [upd_ne rb]; exact hrl
    refine ⟨_, rfl, d, ll, 4, rfl, hD3.new nbl, by decide, by decide, fun H4 m s4 hD4 lt4 => ⟨_, rfl, by omega, by omega, ?_⟩⟩
    have em : (((m : Nat) : Int)).toNat = m := by omega
    rw [em]
    have t34 : Tups H3 H4 := (tups_new nbl).trans (s4.tups (hD3.new nbl))
    refine for_range (lo := 0) (n := m) (fun j σ H' => ∃ (body : Body) (x6 x7 x8 : Option V), σ = [some (.ref d), some (.ref y), some (.int (N : Nat)), some (.ref rl), some (.int ((0 : Int) + ((i : Nat) : Int))), some (.ref bl), x6, x7, x8] ∧ Dl d ll H H' ∧ DealAt H' d ll ∧ H' rl = some (.lst (as.map V.ref)) ∧ Tups H3 H' ∧
        H' bl = some (.lst (body.map thV)) ∧ body.length = j ∧ (∀ k, Thing.nm k ∈ body → k < 3) ∧ (K55.namesOf body).length ≤ 2)
      ⟨[], _, _, _, rfl, (s3.new nbl).trans s4, hD4, s4 _ _ rld rlll hrl3, t34, s4 _ _ bld blll upd_same, rfl, fun _ z => (nomatch z), by decide⟩ ?_ ?_
    · rintro j σ H5 hj ⟨body, z6, z7, z8, rfl, s5, hD5, hrl5, t5, hbl5, lb, nb3, nb2⟩
      have hy5 := s5 _ _ yd yll hy
      have lls : (ls.map sg).length = ls.length := List.length_map _
      refine ⟨_, rfl, _, rfl, _, rfl, y, _, rfl, .inl (SqL.of hy5), d, ll, _, rfl, hD5, by omega, by omega, fun H6 k s6 hD6 lt6 => ?_⟩
      have kl : k < ls.length := by omega
      have hy6 := s6 _ _ yd yll hy5
      have hbl6 := s6 _ _ bld blll hbl5
      have hrl6 := s6 _ _ rld rlll hrl5
      have t6 := t5.trans (s6.tups hD5)
      refine ⟨y, _, _, sg ls[k], rfl, rfl, SqL.of hy6, atI_nat (by rw [List.getElem?_map, List.getElem?_eq_getElem kl]; rfl), ?_⟩
      -- the thing is appended
      have app : ∀ (H9 : Hp) (th : Thing) (σ : L2.St) (D : Ends), Dl d ll H H9 → DealAt H9 d ll → H9 rl = some (.lst (as.map V.ref)) → Tups H3 H9 → H9 bl = some (.lst (body.map thV)) → (∀ k, th = .nm k → k < 3 ∧ (K55.namesOf body).length < 2) →
          (∃ x6 x8, σ = [some (.ref d), some (.ref y), some (.int (N : Nat)), some (.ref rl), some (.int ((0 : Int) + ((i : Nat) : Int))), some (.ref bl), x6, some (thV th), x8]) →
          (∀ (body' : Body) (x6 x7 x8 : Option V) (H' : Hp), Dl d ll H H' → DealAt H' d ll → H' rl = some (.lst (as.map V.ref)) → Tups H3 H' → H' bl = some (.lst (body'.map thV)) → body'.length = j + 1 → (∀ k, Thing.nm k ∈ body' → k < 3) → (K55.namesOf body').length ≤ 2 →
            D.nx [some (.ref d), some (.ref y), some (.int (N : Nat)), some (.ref rl), some (.int ((0 : Int) + ((i : Nat) : Int))), some (.ref bl), x6, x7, x8] H') →
          tDrop (tBM K "list" rAppend (tVar 5) (tCons (tVar 7) tNil)) D σ H9 := by
        rintro H9 th σ D s9 hD9 hrl9 t9 hbl9 hth ⟨x6, x8, rfl⟩ kont
        refine ⟨_, rfl, .inl ⟨rfl, _, SqL.of hbl9⟩, _, rfl, bl, _, _, rfl, rfl, hbl9, by rw [List.length_map]; exact small1000 (by omega), ?_⟩
        refine kont (body ++ [th]) _ _ _ _ (s9.put bl0) (hD9.put bld blll) (by rw [upd_ne rb]; exact hrl9) (t9.trans (tups_put hbl9)) (by rw [upd_same, List.map_append]; rfl) (by rw [List.length_append, List.length_singleton, lb]) (fun k hk => ?_) ?_
        · rcases List.mem_append.mp hk with z | z
          · exact nb3 k z
          · exact (hth k (List.mem_singleton.mp z).symm).1
        · rw [namesOf_snoc, List.length_append]
          cases th with
          | lt c => exact nb2
          | nm k =>
            have := (hth k rfl).2
            show _ + 1 ≤ 2
            omega
      refine ⟨_, rfl, d, ll, 2, rfl, hD6, by decide, by decide, fun H7 k2 s7 hD7 lt7 => ⟨rfl, _, rfl, ?_⟩⟩
      have hbl7 := s7 _ _ bld blll hbl6
      have hrl7 := s7 _ _ rld rlll hrl6
      have t7 := t6.trans (s7.tups hD6)
      have s57 : Dl d ll H H7 := s5.trans (s6.trans s7)
      have letter : ∀ (σ : L2.St) (D : Ends) (H9 : Hp), Dl d ll H H9 → DealAt H9 d ll → H9 rl = some (.lst (as.map V.ref)) → Tups H3 H9 → H9 bl = some (.lst (body.map thV)) →
          (∃ x6 x8, σ = [some (.ref d), some (.ref y), some (.int (N : Nat)), some (.ref rl), some (.int ((0 : Int) + ((i : Nat) : Int))), some (.ref bl), x6, some (sg ls[k]), x8]) →
          (∀ (body' : Body) (x6 x7 x8 : Option V) (H' : Hp), Dl d ll H H' → DealAt H' d ll → H' rl = some (.lst (as.map V.ref)) → Tups H3 H' → H' bl = some (.lst (body'.map thV)) → body'.length = j + 1 → (∀ k, Thing.nm k ∈ body' → k < 3) → (K55.namesOf body').length ≤ 2 →
            D.nx [some (.ref d), some (.ref y), some (.int (N : Nat)), some (.ref rl), some (.int ((0 : Int) + ((i : Nat) : Int))), some (.ref bl), x6, x7, x8] H') →
          tDrop (tBM K "list" rAppend (tVar 5) (tCons (tVar 7) tNil)) D σ H9 := fun σ D H9 a1 a2 a3 a4 a5 a6 a7 => app H9 (.lt ls[k]) σ D a1 a2 a3 a4 a5 (fun _ z => nomatch z) a6 a7
      refine ite2 (fun _ => ?_) (fun _ => ?_)
      · refine ⟨_, rfl, bl, rfl, ⟨_, SqL.of hbl7⟩, fun G nG => ?_⟩
        obtain ⟨Gd, Gll⟩ := hD7.out nG
        have G0 : H G = none := s57.free Gd Gll nG
        refine lc_list (K := K) (a := bl) (xs := body.map thV) (fun o H' => Same H7 H' ∧ H' G = some (.lst ((K55.namesOf (body.take o)).map nmV))) ⟨same_new nG, upd_same⟩ (fun o H' _ z => SqL.of (z.1 _ _ hbl7)) ?_ ?_
        · rintro o v H8 ho ⟨s8, hG⟩
          obtain ⟨t, ht, rfl⟩ : ∃ t, body[o]? = some t ∧ thV t = v := by
            rw [List.getElem?_map] at ho
            exact Option.map_eq_some_iff.mp ho
          have ol : o < body.length := (List.getElem?_eq_some_iff.mp ht).1
          have e := namesOf_take body o t ht
          refine ⟨rfl, _, rfl, _, rfl, th_isS t, _, rfl, ?_⟩
          rw [th_S]
          cases t with
          | lt c =>
            show Same H7 H8 ∧ _
            rw [e]
            exact ⟨s8, by rw [List.append_nil]; exact hG⟩
          | nm k' =>
            refine ⟨_, rfl, _, hG, ?_, s8.put nG, ?_⟩
            · rw [List.length_map]
              have l1 := namesOf_len (body.take o)
              have l2 : (body.take o).length ≤ body.length := List.length_take_le' _ _
              exact small1000 (by omega)
            · rw [upd_same, e, List.map_append]
              rfl
        · rintro H8 ⟨s8, hG⟩
          rw [List.length_map, List.take_length] at hG
          have s58 : Dl d ll H H8 := s57.trans (s8.dl d ll)
          have hD8 := hD7.same s8
          have hbl8 := s8 _ _ hbl7
          have hrl8 := s8 _ _ hrl7
          have t8 := t7.trans s8.tups
          refine ⟨G, _, rfl, .inl (SqL.of hG), _, _, rfl, rfl, _, rfl, ?_⟩
          rw [List.length_map]
          refine ite2 (fun c => ?_) (fun _ => ?_)
          · have c' : (((K55.namesOf body).length : Nat) : Int) < 2 := of_decide_eq_true c
            refine ⟨_, rfl, _, rfl, d, ll, _, rfl, hD8, by omega, by omega, fun H9 k3 s9 hD9 lt9 => ?_⟩
            refine app H9 (.nm k3) _ _ (s58.trans s9) hD9 (s9 _ _ rld rlll hrl8) (t8.trans (s9.tups hD8)) (s9 _ _ bld blll hbl8) (fun k' e => by cases e; exact ⟨by omega, by omega⟩) ⟨_, _, rfl⟩ fun body' x6 x7 x8 H' a1 a2 a3 a4 a5 a6 a7 a8 => ⟨body', x6, x7, x8, rfl, a1, a2, a3, a4, a5, a6, a7, a8⟩
          · exact letter _ _ H8 s58 hD8 hrl8 t8 hbl8 ⟨_, _, rfl⟩ fun body' x6 x7 x8 H' a1 a2 a3 a4 a5 a6 a7 a8 => ⟨body', x6, x7, x8, rfl, a1, a2, a3, a4, a5, a6, a7, a8⟩
      · refine iteF ?_
        exact letter _ _ H7 s57 hD7 hrl7 t7 hbl7 ⟨_, _, rfl⟩ fun body' x6 x7 x8 H' a1 a2 a3 a4 a5 a6 a7 a8 => ⟨body', x6, x7, x8, rfl, a1, a2, a3, a4, a5, a6, a7, a8⟩
    · rintro σ H5 ⟨body, z6, z7, z8, rfl, s5, hD5, hrl5, t5, hbl5, lb, nb3, nb2⟩
      refine ⟨_, rfl, .inl ⟨rfl, _, SqL.of hrl5⟩, _, rfl, _, rfl, d, ll, _, rfl, hD5, by omega, by omega, fun H6 k s6 hD6 lt6 => ?_⟩
      have hbl6 := s6 _ _ bld blll hbl5
      have hrl6 := s6 _ _ rld rlll hrl5
      have t6 := t5.trans (s6.tups hD5)
      refine ⟨_, rfl, bl, _, rfl, .inl ⟨SqL.of hbl6, fun bt nbt => ⟨(by show 2 ≤ sizeLine; decide), fun rt nrt => ?_⟩⟩⟩
      have s67 : Same H6 (upd (upd H6 bt (.tup (body.map thV))) rt (.tup [.int (k : Nat), .ref bt])) := (same_new nbt).new nrt
      have hrl7 := s67 _ _ hrl6
      have e1 : (upd (upd H6 bt (.tup (body.map thV))) rt (.tup [.int (k : Nat), .ref bt])) bt = some (.tup (body.map thV)) := by rw [upd_ne (ne_of_none upd_same nrt), upd_same]
      have e2 : (upd (upd H6 bt (.tup (body.map thV))) rt (.tup [.int (k : Nat), .ref bt])) rt = some (.tup [.int (k : Nat), .ref bt]) := upd_same
      have tp := tups_put (o := .lst (as.map V.ref ++ [.ref rt])) hrl7
      refine ⟨rl, _, _, rfl, rfl, hrl7, by rw [List.length_map, has.len, lR]; exact small1000 (by omega), ?_⟩
      refine ⟨R ++ [(k, body)], _, _, _, _, _, rfl, ((s5.trans s6).trans (s67.dl d ll)).put rl0, (hD6.same s67).put rld rlll, ⟨as ++ [rt], by rw [upd_same, List.map_append]; rfl, KX.All2.append (has.imp fun _ _ z => ((z.up t6).up s67.tups).up tp) ⟨⟨bt, tp _ _ e2, tp _ _ e1⟩, trivial⟩⟩, by rw [List.length_append, List.length_singleton, lR], fun m' b' h => ?_⟩
      rcases List.mem_append.mp h with z | z
      · exact wR m' b' z
      · cases List.mem_singleton.mp z
        exact ⟨by omega, by omega, nb3, nb2⟩
  · rintro σ H3 ⟨R, x4, x5, x6, x7, x8, rfl, s3, hD3, ⟨as, hrl, has⟩, lR, wR⟩
    refine ⟨_, rfl, _, rfl, rl, _, rfl, .inl ⟨SqL.of hrl, fun rt nrt => ⟨(by show 2 ≤ sizeLine; decide), fun g ng => ?_⟩⟩⟩
    have s34 : Same H3 (upd (upd H3 rt (.tup (as.map V.ref))) g (.tup [.int (N : Nat), .ref rt])) := (same_new nrt).new ng
    have e1 : (upd (upd H3 rt (.tup (as.map V.ref))) g (.tup [.int (N : Nat), .ref rt])) rt = some (.tup (as.map V.ref)) := by rw [upd_ne (ne_of_none upd_same ng), upd_same]
    exact q _ g N R (s3.trans (s34.dl d ll)) (hD3.same s34) ⟨rt, upd_same, as, e1, has.imp fun _ _ z => z.up s34.tups⟩ ⟨by omega, fun m b h => (wR m b h).1, fun m b h => (wR m b h).2.1, fun m b h => (wR m b h).2.2.1, fun m b h => (wR m b h).2.2.2⟩
end
end Wk

/-! W26: the law. -/
namespace Wk
open PySem hiding Tree
open L2 KX K55
section
variable {P : Program} {w : World} {K : PySem.W.Frag} {mg : Str → Option Value} {base : Heap}
def spLaw (K : PySem.W.Frag) : Sp := fun vs H Q _ => ∃ (a : Addr) (ns : List Int), vs = [.ref a] ∧ SqL K H a (ns.map V.int) ∧ ns.length ≤ 63 ∧ ∀ H', Q (.bl true) H'
abbrev nLaw : List Str := ["_law_script", "_law_deal_here", "_law_letters_here", "_law_grammar_here", "_law_expression", "_law_words", "_law_k", "_law_word_here", "_law_tree"]
theorem scLaw : FnScope nLaw ["_law_script"] (defScope sLaw) := ⟨rfl, rfl, rfl, by decide +kernel, rfl, by decide +kernel, by decide +kernel⟩
def wdV (u : List Nat) : V := .str (tx u)
theorem ok_law {f : Addr} {fd : FuncData} (F : Fun K "law" "law" sLaw f fd) (B : Blt mg) (DD : Dfn P w K mg base "_law_deal" 1 ["_law_script", "_law_base"] (spDeal K)) (DL : Dfn P w K mg base "_law_letters" 2 ["_law_deal_here"] spLLetters)
    (DG : Dfn P w K mg base "_law_grammar" 2 ["_law_deal_here", "_law_letters_here"] spGrammar) (DE : Dfn P w K mg base "down_of" 16 ["grammar"] spDownOf) (DW : Dfn P w K mg base "_law_word" 2 ["_law_deal_here", "_law_letters_here", "_law_most"] spWord)
    (DH : Dfn P w K mg base "_law_had_word" 2 ["_law_deal_here", "_law_product"] spHad) (DR : Dfn P w K mg base "_law_draw" 1 ["_law_deal_here", "_law_many"] spDraw) (DT : Dfn P w K mg base "tree_above" 3 ["grammar", "word"] spTree)
    (DS : Dfn P w K mg base "_law_has" 2 ["_law_expression", "_law_word_here"] spHas) (DI : Dfn P w K mg base "_law_is_tree" 23 ["_law_grammar_here", "_law_name", "_law_tree"] (spIsTree 21)) (DO : Dfn P w K mg base "_law_word_of" 22 ["_law_grammar_here", "_law_tree"] (spWordOf 21))
    (DU : Dfn P w K mg base "_law_under" 1 ["_law_less", "_law_more"] spUnder) : FnOk P w K mg base CX0 24 f fd ["_law_script"] (spLaw K) := by
  obtain ⟨f1, fd1, g1, G1, b1, k1⟩ := DD.ex
  obtain ⟨f2, fd2, g2, G2, b2, k2⟩ := DL.ex
  obtain ⟨f3, fd3, g3, G3, b3, k3⟩ := DG.ex
  obtain ⟨f4, fd4, g4, G4, b4, k4⟩ := DE.ex
  obtain ⟨f5, fd5, g5, G5, b5, k5⟩ := DW.ex
  obtain ⟨f6, fd6, g6, G6, b6, k6⟩ := DH.ex
  obtain ⟨f7, fd7, g7, G7, b7, k7⟩ := DR.ex
  obtain ⟨f8, fd8, g8, G8, b8, k8⟩ := DT.ex
  obtain ⟨f9, fd9, g9, G9, b9, k9⟩ := DS.ex
  obtain ⟨fa, fda, ga, Ga, ba, ka⟩ := DI.ex
  obtain ⟨fb, fdb, gb, Gb, bb, kb⟩ := DO.ex
  obtain ⟨fc, fdc, gc, Gc, bc, kc⟩ := DU.ex
  refine F.ok scLaw (fun vs H Q E h => ?_) (fun cdv A outer s H vs Q E hr h => ?_)
  · obtain ⟨a, ns, rfl, _⟩ := h
    rfl
  obtain ⟨a, ns, rfl, hA, l63, q⟩ := h
  have r1 : Room 1 _ := hr.mono (by decide)
  have r2 : Room 2 _ := hr.mono (by decide)
  have r3 : Room 3 _ := hr.mono (by decide)
  have r16 : Room 16 _ := hr.mono (by decide)
  have r22 : Room 22 _ := hr.mono (by decide)
  refine ⟨_, pss_cons (ps_set (i := 1) scLaw.nd rfl (.inr rfl) (pe_call G1 r1 (by rfl) g1 k1 b1 .nil pass0 (pa_cons (pv 0) (pa_cons pe_int pa_nil))))
    (pss_cons (ps_set (i := 2) scLaw.nd rfl (.inr rfl) (pe_call G2 r2 (by rfl) g2 k2 b2 .nil pass0 (pa_cons (pv 1) pa_nil)))
    (pss_cons (ps_set (i := 3) scLaw.nd rfl (.inl rfl) (pe_call G3 r2 (by rfl) g3 k3 b3 .nil pass0 (pa_cons (pv 1) (pa_cons (pv 2) pa_nil))))
    (pss_cons (ps_set (i := 4) scLaw.nd rfl (.inl rfl) (pe_call G4 r16 (by rfl) g4 k4 b4 .nil pass0 (pa_cons (pv 3) pa_nil)))
    (pss_cons (ps_setLc (i := 5) (own := [("_law_k", 6)]) (g := gName 6) rfl scLaw.nd rfl rfl (sw_true rfl rfl rfl (by decide +kernel)) (pi_range1 (by rfl) B.range (pa_cons pe_int pa_nil)) (blkOk_by (N := nLaw) (sc := defScope sLaw) (by decide +kernel)) (fun _ _ _ _ _ => pg_name (i := 6) scLaw.nd rfl (Or.inl rfl))
        (fun _ _ _ _ _ => pts_nil) (fun _ _ _ _ _ => pe_call G5 r2 (by rfl) g5 k5 b5 .nil pass0 (pa_cons (pv 1) (pa_cons (pv 2) (pa_cons pe_int pa_nil)))))
    (pss_cons (ps_for PassesOwn.never rfl (pi_range1 (by rfl) B.range (pa_cons (pe_op op_mul pe_int (pe_callTy call_int1 (by rfl) B.int (by decide +kernel) (pa_cons (pe_cmpR op_gt (pe_callB call_len_seq (by rfl) B.len PySem.boot_len (pa_cons (pv 4) pa_nil)) pe_int (nomark _)) pa_nil))) pa_nil)) (pg_name (i := 6) scLaw.nd rfl (.inl rfl))
      (pss_one (ps_expr (pe_bm PySem.F.plainAttrs_list PySem.F.slot_list_append PySem.F.type_list_append mt_append (pv 5) (pa_cons (pe_call G6 r2 (by rfl) g6 k6 b6 .nil pass0 (pa_cons (pv 1) (pa_cons
        (pe_ix ix_tup (pv 4) (pe_call G7 r1 (by rfl) g7 k7 b7 .nil pass0 (pa_cons (pv 1) (pa_cons (pe_callB call_len_seq (by rfl) B.len PySem.boot_len (pa_cons (pv 4) pa_nil)) pa_nil))) (fun _ _ => rfl)) pa_nil))) pa_nil)))))
    (pss_cons (ps_for PassesOwn.never rfl (pi_list (pe_op op_cat (pv 5) (pe_slice sl_list (pv 5) po_none (po_some pe_int)))) (pg_name (i := 7) scLaw.nd rfl (.inl rfl))
      (pss_cons (ps_set (i := 8) scLaw.nd rfl (.inl rfl) (pe_call G8 r3 (by rfl) g8 k8 b8 .nil pass0 (pa_cons (pv 3) (pa_cons (pv 7) pa_nil))))
      (pss_cons (ps_if (pt_cmpR op_ne (pe_cmp (pc_notN (pv 8))) (pe_call G9 r2 (by rfl) g9 k9 b9 .nil pass0 (pa_cons (pv 4) (pa_cons (pv 7) pa_nil))) (nomark _)) (pss_one (ps_ret pe_bl)) pss_nil)
      (pss_cons (ps_if (PW.pt (pw_and (pt_cmp (pc_notN (pv 8))) (pw_and1 (pt_not (pt_val (pe_call Ga hr (by rfl) ga ka ba .nil pass0 (pa_cons (pv 3) (pa_cons pe_int (pa_cons (pv 8) pa_nil))))))))) (pss_one (ps_ret pe_bl)) pss_nil)
      (pss_one (ps_if (PW.pt (pw_and (pt_cmp (pc_notN (pv 8))) (pw_and1 (pt_not (pt_val (pe_call Gc r1 (by rfl) gc kc bc .nil pass0 (pa_cons (pv 7) (pa_cons (pe_call Gb r22 (by rfl) gb kb bb .nil pass0 (pa_cons (pv 3) (pa_cons (pv 8) pa_nil))) pa_nil)))))))) (pss_one (ps_ret pe_bl)) pss_nil))))))
    (pss_one (ps_ret pe_bl)))))))), ?_⟩
  refine ⟨_, rfl, a, ns, rfl, hA, l63, fun H1 d ll s1 d0 ll0 hD1 => ?_⟩
  refine ⟨_, rfl, d, ll, rfl, hD1, fun H2 y ls s2 hD2 y0 hy l1 l3 => ?_⟩
  obtain ⟨yd, yll⟩ := hD1.out y0
  refine ⟨_, rfl, _, rfl, d, ll, y, ls, rfl, hD2, yd, yll, hy, l1, l3, fun H3 g N R s3 hD3 hG wf => ?_⟩
  have hy3 := s3 _ _ yd yll hy
  refine ⟨_, rfl, g, N, R, rfl, hG, wf, fun H4 e S s4 hE l81 hS hW => ?_⟩
  have hD4 := hD3.same s4
  have hy4 := s4 _ _ hy3
  have hG4 := hG.up s4.tups
  refine ⟨3, rfl, by decide, by decide, fun D nD => ?_⟩
  obtain ⟨Dd, Dll⟩ := hD4.out nD
  have Dy : y ≠ D := ne_of_none hy4 nD
  refine lc_range (lo := 0) (n := 3) (fun i H' => Dl d ll H4 H' ∧ DealAt H' d ll ∧ ∃ ws : List (List Nat), H' y = some (.lst (ls.map sg)) ∧ H' D = some (.lst (ws.map wdV)) ∧ ws.length = i ∧ ∀ u ∈ ws, u.length ≤ 6)
    ⟨(Dl.refl d ll H4).new nD, hD4.new nD, [], by rw [upd_ne Dy]; exact hy4, upd_same, rfl, fun _ z => nomatch z⟩ ?_ ?_
  · rintro i H5 hi ⟨s5, hD5, ws, hy5, hG5, lg, w6⟩
    refine ⟨rfl, _, rfl, _, rfl, d, ll, y, ls, 6, rfl, hD5, yd, yll, hy5, l1, l3, by decide, fun H6 wd s6 hD6 l6 => ?_⟩
    have hG6 := s6 _ _ Dd Dll hG5
    have hy6 := s6 _ _ yd yll hy5
    refine ⟨_, hG6, by rw [List.length_map]; exact small1000 (by omega), (s5.trans s6).put nD, hD6.put Dd Dll, ws ++ [wd], by rw [upd_ne Dy]; exact hy6, by rw [upd_same, List.map_append]; rfl, by rw [List.length_append, List.length_singleton, lg], fun u hu => ?_⟩
    rcases List.mem_append.mp hu with z | z
    · exact w6 u z
    · rw [List.mem_singleton.mp z]; exact l6
  rintro H5 ⟨s5, hD5, ws, hy5, hW5, lw, w6⟩
  obtain ⟨bs, hbs, hbx⟩ := id hE
  have lb : bs.length = S.length := hbx.len
  have hbs5 := s5.tups hD4 _ _ hbs
  have hk : ∃ n : Nat, ((6 : Int) * (if (decide ((0 : Int) < (((bs.map V.ref).length : Nat) : Int))) = true then (1 : Int) else 0)) = (n : Int) ∧ n ≤ 6 ∧ (0 < n → 0 < bs.length) := by
    by_cases c : 0 < bs.length
    · exact ⟨6, by rw [decide_eq_true (by rw [List.length_map]; omega)]; rfl, by omega, fun _ => c⟩
    · exact ⟨0, by rw [decide_eq_false (by rw [List.length_map]; omega)]; rfl, by omega, fun z => absurd z (by omega)⟩
  obtain ⟨n, en, n6, npos⟩ := hk
  refine ⟨_, rfl, e, _, rfl, .inr (SqT.of hbs5), _, _, rfl, rfl, .inr ⟨_, rfl, _, _, rfl, rfl, .inl ⟨by decide, by decide⟩, _, rfl, ?_⟩⟩
  rw [en, Int.toNat_natCast]
  refine ⟨by omega, by omega, ?_⟩
  refine for_range (lo := 0) (n := n) (fun i σ H' => ∃ (ws : List (List Nat)) (x6 : Option V), σ = [some (.ref a), some (.ref d), some (.ref y), some (.ref g), some (.ref e), some (.ref D), x6, none, none] ∧ Dl d ll H4 H' ∧ DealAt H' d ll ∧ H' D = some (.lst (ws.map wdV)) ∧ ws.length = i + 3 ∧ ∀ u ∈ ws, u.length ≤ 6)
    ⟨ws, none, rfl, s5, hD5, hW5, by omega, w6⟩ ?_ ?_
  · rintro i σ H6 hi ⟨vs, x6, rfl, s6, hD6, hW6, lv, v6⟩
    have hi0 : 0 < bs.length := npos (by omega)
    have hbs6 := s6.tups hD4 _ _ hbs
    have lbm : (bs.map V.ref).length = bs.length := List.length_map _
    refine ⟨_, rfl, .inl ⟨rfl, _, SqL.of hW6⟩, _, rfl, _, rfl, _, rfl, _, rfl, e, _, rfl, .inr (SqT.of hbs6), d, ll, _, rfl, hD6, by omega, by omega, fun H7 k s7 hD7 lt7 => ?_⟩
    have kl : k < bs.length := by omega
    have s47 := s6.trans s7
    have hbs7 := s47.tups hD4 _ _ hbs
    have hW7 := s7 _ _ Dd Dll hW6
    obtain ⟨p, hp, hpx⟩ := hbx.getL (List.getElem?_eq_getElem kl)
    have mp : p ∈ S := List.mem_of_getElem? hp
    refine ⟨e, _, _, .ref bs[k], rfl, rfl, SqT.of hbs7, atI_nat (by rw [List.getElem?_map, List.getElem?_eq_getElem kl]; rfl), ?_⟩
    refine ⟨d, ll, bs[k], p, rfl, hD7, hpx.up (s47.tups hD4), (hS p mp).1, (hS p mp).2, fun H8 wd s8 hD8 l8 => ?_⟩
    have hW8 := s8 _ _ Dd Dll hW7
    refine ⟨D, _, _, rfl, rfl, hW8, by rw [List.length_map]; exact small1000 (by omega), ?_⟩
    refine ⟨vs ++ [wd], _, rfl, (s47.trans s8).put nD, hD8.put Dd Dll, by rw [upd_same, List.map_append]; rfl, by rw [List.length_append, List.length_singleton]; omega, fun u hu => ?_⟩
    rcases List.mem_append.mp hu with z | z
    · exact v6 u z
    · rw [List.mem_singleton.mp z]; exact l8
  · rintro σ H6 ⟨vs, x6, rfl, s6, hD6, hW6, lv, v6⟩
    obtain ⟨cs, ecs, lcs, c6⟩ : ∃ cs : List (List Nat), cutV (vs.map wdV) none (some 2) = cs.map wdV ∧ cs.length ≤ vs.length ∧ ∀ u ∈ cs, u.length ≤ 6 := by
      unfold cutV
      refine ⟨_, by rw [← List.map_drop, ← List.map_take], ?_, fun u hu => v6 u (List.mem_of_mem_drop (List.mem_of_mem_take hu))⟩
      rw [List.length_take, List.length_drop]
      omega
    refine ⟨_, rfl, _, rfl, _, rfl, D, _, rfl, SqL.of hW6, fun C nC => ?_⟩
    have s67 : Same H6 (upd H6 C (.lst (cutV (vs.map wdV) none (some 2)))) := same_new nC
    have hC : (upd H6 C (.lst (cutV (vs.map wdV) none (some 2)))) C = some (.lst (cs.map wdV)) := by rw [upd_same, ecs]
    generalize (upd H6 C (.lst (cutV (vs.map wdV) none (some 2)))) = H7 at s67 hC
    have hW7 := s67 _ _ hW6
    refine ⟨D, C, _, _, rfl, rfl, hW7, hC, by rw [List.length_map, List.length_map]; exact Nat.le_of_lt (small1000 (by omega)), fun L nL => ?_⟩
    have s78 : Same H7 (upd H7 L (.lst (vs.map wdV ++ cs.map wdV))) := same_new nL
    have hL : (upd H7 L (.lst (vs.map wdV ++ cs.map wdV))) L = some (.lst ((vs ++ cs).map wdV)) := by rw [upd_same, List.map_append]
    have u6 : ∀ u ∈ vs ++ cs, u.length ≤ 6 := fun u hu => by
      rcases List.mem_append.mp hu with z | z
      · exact v6 u z
      · exact c6 u z
    have hE8 : ExAt (upd H7 L (.lst (vs.map wdV ++ cs.map wdV))) e S := ((hE.up (s6.tups hD4)).up s67.tups).up s78.tups
    have hG8 : GramAt (upd H7 L (.lst (vs.map wdV ++ cs.map wdV))) g N R := ((hG4.up (s6.tups hD4)).up s67.tups).up s78.tups
    generalize (upd H7 L (.lst (vs.map wdV ++ cs.map wdV))) = H8 at hL hE8 hG8 s78
    generalize vs ++ cs = us at hL u6
    refine ⟨L, rfl, ⟨_, SqL.of hL⟩, for_list (K := K) (a := L) (xs := us.map wdV) (fun i σ H' => ∃ (x6 x7 x8 : Option V), σ = [some (.ref a), some (.ref d), some (.ref y), some (.ref g), some (.ref e), some (.ref D), x6, x7, x8] ∧ Same H8 H')
      ⟨_, none, none, rfl, Same.refl H8⟩ (fun i σ H' _ ⟨_, _, _, _, z⟩ => SqL.of (z _ _ hL)) ?_ ?_⟩
    · rintro i v σ H9 hi ⟨x6, x7, x8, rfl, s9⟩
      obtain ⟨u, hu, rfl⟩ : ∃ u, us[i]? = some u ∧ wdV u = v := by
        rw [List.getElem?_map] at hi
        exact Option.map_eq_some_iff.mp hi
      have lu : u.length ≤ 6 := u6 u (List.mem_of_getElem? hu)
      have hG9 := hG8.up s9.tups
      refine ⟨_, rfl, _, rfl, g, N, R, u, rfl, hG9, wf, lu, fun H10 v s10 hT => ?_⟩
      have hE10 := (hE8.up s9.tups).up s10.tups
      have hG10 := hG9.up s10.tups
      refine ⟨_, rfl, _, rfl, _, rfl, e, S, u, rfl, hE10, by omega, fun p hp => by have := (hS p hp).1; omega, fun H11 b s11 hb => ?_⟩
      refine ⟨rfl, _, rfl, ?_⟩
      have hb' : b = true ↔ Dn R [.nm 0] u := hb.trans (hW u)
      have hG11 := hG10.up s11.tups
      rcases hT with ⟨rfl, no⟩ | ⟨ta, t, rfl, hta, it, sz, dp, sub, yes⟩
      · have b0 : b = false := by
          cases b with
          | false => rfl
          | true => exact absurd (hb'.mp rfl) no
        subst b0
        rw [show (!decide (V.bl (!decide (V.non = V.non)) = V.bl false)) = false from by decide]
        refine iteF ?_
        have nn : (!decide ((V.non : V) = V.non)) = false := by decide
        refine ⟨_, rfl, _, rfl, ?_⟩
        rw [nn]
        refine iteF ⟨_, rfl, _, rfl, ?_⟩
        rw [nn]
        exact iteF ⟨_, _, _, rfl, s9.trans (s10.trans s11)⟩
      · have b1 : b = true := hb'.mpr yes
        subst b1
        rw [show (!decide (V.bl (!decide (V.ref ta = V.non)) = V.bl true)) = false from by rw [show decide (V.ref ta = V.non) = false from decide_eq_false (fun z => by cases z)]; decide]
        refine iteF ?_
        have nn : (!decide ((V.ref ta : V) = V.non)) = true := by rw [show decide (V.ref ta = V.non) = false from decide_eq_false (fun z => by cases z)]; decide
        have hta11 := hta.up s11.tups
        refine ⟨_, rfl, _, rfl, ?_⟩
        rw [nn]
        refine iteT ⟨_, rfl, _, rfl, g, ta, N, 0, R, t, rfl, hG11, wf, hta11, it, dp, fun H12 s12 => ⟨_, rfl, ?_⟩⟩
        refine iteF ⟨_, rfl, _, rfl, ?_⟩
        rw [nn]
        have hG12 := hG11.up s12.tups
        have hta12 := hta11.up s12.tups
        refine iteT ⟨_, rfl, _, rfl, _, rfl, g, ta, N, 0, R, t, rfl, hG12, wf, hta12, it, dp, sz, fun H13 s13 => ?_⟩
        refine ⟨u, wordOf R t, rfl, by omega, by have := word813 wf sz; omega, sub, _, rfl, ?_⟩
        exact iteF ⟨_, _, _, rfl, s9.trans (s10.trans (s11.trans (s12.trans s13)))⟩
    · rintro σ H9 ⟨x6, x7, x8, rfl, s9⟩
      exact q H9
end
end Wk

/-! W27: what the top has written, the head. -/
namespace Wk
open PySem hiding Tree
open L2 KX K55
set_option maxHeartbeats 0 in
theorem all_mk {l : PySem.W.OpenLaw} {w : World} {K : PySem.W.Frag} {h : Heap} {mg : Str → Option Value} {fa C ft0 ft1 ft2 ft3 ft4 ft5 ft6 ft7 ft8 ft9 ft10 ft11 ft12 ft13 ft14 ft15 ft16 ft17 ft18 ft19 ft20 ft21 ft22 ft23 ft24 ft25 ft26 fm0 fm1 fm2 fm3 fm4 fm5 fw : Addr} (X : K.In h) (G : h.Ns mainGlobals mg) (hfa : mg "law" = some (.ref fa))
    {odt0 ant0 odt1 ant1 odt2 ant2 odt3 ant3 odt4 ant4 odt5 ant5 odt6 ant6 odt7 ant7 odt8 ant8 odt9 ant9 odt10 ant10 odt11 ant11 odt12 ant12 odt13 ant13 odt14 ant14 odt15 ant15 odt16 ant16 odt17 ant17 odt18 ant18 odt19 ant19 odt20 ant20 odt21 ant21 odt22 ant22 odt23 ant23 odt24 ant24 odt25 ant25 odt26 ant26 odm0 anm0 odm1 anm1 odm2 anm2 odm3 anm3 odm4 anm4 odm5 anm5 odw anw : Option Addr} {slt0 slt1 slt2 slt3 slt4 slt5 slt6 slt7 slt8 slt9 slt10 slt11 slt12 slt13 slt14 slt15 slt16 slt17 slt18 slt19 slt20 slt21 slt22 slt23 slt24 slt25 slt26 slm0 slm1 slm2 slm3 slm4 slm5 slw : Array (Option Value)}
    {oct0 kVt0 dct0 pmt0 cdt0 ctt0 oct1 kVt1 dct1 pmt1 cdt1 ctt1 oct2 kVt2 dct2 pmt2 cdt2 ctt2 oct3 kVt3 dct3 pmt3 cdt3 ctt3 oct4 kVt4 dct4 pmt4 cdt4 ctt4 oct5 kVt5 dct5 pmt5 cdt5 ctt5 oct6 kVt6 dct6 pmt6 cdt6 ctt6 oct7 kVt7 dct7 pmt7 cdt7 ctt7 oct8 kVt8 dct8 pmt8 cdt8 ctt8 oct9 kVt9 dct9 pmt9 cdt9 ctt9 oct10 kVt10 dct10 pmt10 cdt10 ctt10 oct11 kVt11 dct11 pmt11 cdt11 ctt11 oct12 kVt12 dct12 pmt12 cdt12 ctt12 oct13 kVt13 dct13 pmt13 cdt13 ctt13 oct14 kVt14 dct14 pmt14 cdt14 ctt14 oct15 kVt15 dct15 pmt15 cdt15 ctt15 oct16 kVt16 dct16 pmt16 cdt16 ctt16 oct17 kVt17 dct17 pmt17 cdt17 ctt17 oct18 kVt18 dct18 pmt18 cdt18 ctt18 oct19 kVt19 dct19 pmt19 cdt19 ctt19 oct20 kVt20 dct20 pmt20 cdt20 ctt20 oct21 kVt21 dct21 pmt21 cdt21 ctt21 oct22 kVt22 dct22 pmt22 cdt22 ctt22 oct23 kVt23 dct23 pmt23 cdt23 ctt23 oct24 kVt24 dct24 pmt24 cdt24 ctt24 oct25 kVt25 dct25 pmt25 cdt25 ctt25 oct26 kVt26 dct26 pmt26 cdt26 ctt26 ocm0 kVm0 dcm0 pmm0 cdm0 ctm0 ocm1 kVm1 dcm1 pmm1 cdm1 ctm1 ocm2 kVm2 dcm2 pmm2 cdm2 ctm2 ocm3 kVm3 dcm3 pmm3 cdm3 ctm3 ocm4 kVm4 dcm4 pmm4 cdm4 ctm4 ocm5 kVm5 dcm5 pmm5 cdm5 ctm5 ocw kVw dcw pmw cdw ctw : Value}
    (aC : PySem.W.nsIn K mainGlobals "Downs" = some (some (.ref C)))
    (at0 : PySem.W.nsIn K mainGlobals "names_in" = some (some (.ref ft0)))
    (lt0 : K.lookup ft0 = some ⟨oct0, odt0, .func (PySem.W.fnOf "names_in" "names_in" (defArgs sNames) (defBody sNames) (defScope sNames) .none kVt0 dct0 pmt0 ant0 cdt0 ctt0), slt0⟩) (ct0 : PySem.W.codeIn K cdt0 "names_in" = true) (kt0 : PySem.W.keepIn K (.ref ft0) = true)
    (at1 : PySem.W.nsIn K mainGlobals "size_of" = some (some (.ref ft1)))
    (lt1 : K.lookup ft1 = some ⟨oct1, odt1, .func (PySem.W.fnOf "size_of" "size_of" (defArgs sSize) (defBody sSize) (defScope sSize) .none kVt1 dct1 pmt1 ant1 cdt1 ctt1), slt1⟩) (ct1 : PySem.W.codeIn K cdt1 "size_of" = true) (kt1 : PySem.W.keepIn K (.ref ft1) = true)
    (at2 : PySem.W.nsIn K mainGlobals "swallows" = some (some (.ref ft2)))
    (lt2 : K.lookup ft2 = some ⟨oct2, odt2, .func (PySem.W.fnOf "swallows" "swallows" (defArgs sSwal) (defBody sSwal) (defScope sSwal) .none kVt2 dct2 pmt2 ant2 cdt2 ctt2), slt2⟩) (ct2 : PySem.W.codeIn K cdt2 "swallows" = true) (kt2 : PySem.W.keepIn K (.ref ft2) = true)
    (at3 : PySem.W.nsIn K mainGlobals "plain_product" = some (some (.ref ft3)))
    (lt3 : K.lookup ft3 = some ⟨oct3, odt3, .func (PySem.W.fnOf "plain_product" "plain_product" (defArgs sPlainP) (defBody sPlainP) (defScope sPlainP) .none kVt3 dct3 pmt3 ant3 cdt3 ctt3), slt3⟩) (ct3 : PySem.W.codeIn K cdt3 "plain_product" = true) (kt3 : PySem.W.keepIn K (.ref ft3) = true)
    (at4 : PySem.W.nsIn K mainGlobals "may_take" = some (some (.ref ft4)))
    (lt4 : K.lookup ft4 = some ⟨oct4, odt4, .func (PySem.W.fnOf "may_take" "may_take" (defArgs sMay) (defBody sMay) (defScope sMay) .none kVt4 dct4 pmt4 ant4 cdt4 ctt4), slt4⟩) (ct4 : PySem.W.codeIn K cdt4 "may_take" = true) (kt4 : PySem.W.keepIn K (.ref ft4) = true)
    (at5 : PySem.W.nsIn K mainGlobals "product_within" = some (some (.ref ft5)))
    (lt5 : K.lookup ft5 = some ⟨oct5, odt5, .func (PySem.W.fnOf "product_within" "product_within" (defArgs sWithin) (defBody sWithin) (defScope sWithin) .none kVt5 dct5 pmt5 ant5 cdt5 ctt5), slt5⟩) (ct5 : PySem.W.codeIn K cdt5 "product_within" = true) (kt5 : PySem.W.keepIn K (.ref ft5) = true)
    (at6 : PySem.W.nsIn K mainGlobals "plain_products" = some (some (.ref ft6)))
    (lt6 : K.lookup ft6 = some ⟨oct6, odt6, .func (PySem.W.fnOf "plain_products" "plain_products" (defArgs sPlains) (defBody sPlains) (defScope sPlains) .none kVt6 dct6 pmt6 ant6 cdt6 ctt6), slt6⟩) (ct6 : PySem.W.codeIn K cdt6 "plain_products" = true) (kt6 : PySem.W.keepIn K (.ref ft6) = true)
    (at7 : PySem.W.nsIn K mainGlobals "plain" = some (some (.ref ft7)))
    (lt7 : K.lookup ft7 = some ⟨oct7, odt7, .func (PySem.W.fnOf "plain" "plain" (defArgs sPlain) (defBody sPlain) (defScope sPlain) .none kVt7 dct7 pmt7 ant7 cdt7 ctt7), slt7⟩) (ct7 : PySem.W.codeIn K cdt7 "plain" = true) (kt7 : PySem.W.keepIn K (.ref ft7) = true)
    (at8 : PySem.W.nsIn K mainGlobals "by_body" = some (some (.ref ft8)))
    (lt8 : K.lookup ft8 = some ⟨oct8, odt8, .func (PySem.W.fnOf "by_body" "by_body" (defArgs sByBody) (defBody sByBody) (defScope sByBody) .none kVt8 dct8 pmt8 ant8 cdt8 ctt8), slt8⟩) (ct8 : PySem.W.codeIn K cdt8 "by_body" = true) (kt8 : PySem.W.keepIn K (.ref ft8) = true)
    (at9 : PySem.W.nsIn K mainGlobals "by_thing" = some (some (.ref ft9)))
    (lt9 : K.lookup ft9 = some ⟨oct9, odt9, .func (PySem.W.fnOf "by_thing" "by_thing" (defArgs sByThing) (defBody sByThing) (defScope sByThing) .none kVt9 dct9 pmt9 ant9 cdt9 ctt9), slt9⟩) (ct9 : PySem.W.codeIn K cdt9 "by_thing" = true) (kt9 : PySem.W.keepIn K (.ref ft9) = true)
    (at10 : PySem.W.nsIn K mainGlobals "tree_above" = some (some (.ref ft10)))
    (lt10 : K.lookup ft10 = some ⟨oct10, odt10, .func (PySem.W.fnOf "tree_above" "tree_above" (defArgs sTree) (defBody sTree) (defScope sTree) .none kVt10 dct10 pmt10 ant10 cdt10 ctt10), slt10⟩) (ct10 : PySem.W.codeIn K cdt10 "tree_above" = true) (kt10 : PySem.W.keepIn K (.ref ft10) = true)
    (at11 : PySem.W.nsIn K mainGlobals "makers" = some (some (.ref ft11)))
    (lt11 : K.lookup ft11 = some ⟨oct11, odt11, .func (PySem.W.fnOf "makers" "makers" (defArgs sMakers) (defBody sMakers) (defScope sMakers) .none kVt11 dct11 pmt11 ant11 cdt11 ctt11), slt11⟩) (ct11 : PySem.W.codeIn K cdt11 "makers" = true) (kt11 : PySem.W.keepIn K (.ref ft11) = true)
    (at12 : PySem.W.nsIn K mainGlobals "any_of" = some (some (.ref ft12)))
    (lt12 : K.lookup ft12 = some ⟨oct12, odt12, .func (PySem.W.fnOf "any_of" "any_of" (defArgs sAnyOf) (defBody sAnyOf) (defScope sAnyOf) .none kVt12 dct12 pmt12 ant12 cdt12 ctt12), slt12⟩) (ct12 : PySem.W.codeIn K cdt12 "any_of" = true) (kt12 : PySem.W.keepIn K (.ref ft12) = true)
    (at13 : PySem.W.nsIn K mainGlobals "down_of" = some (some (.ref ft13)))
    (lt13 : K.lookup ft13 = some ⟨oct13, odt13, .func (PySem.W.fnOf "down_of" "down_of" (defArgs sDownOf) (defBody sDownOf) (defScope sDownOf) .none kVt13 dct13 pmt13 ant13 cdt13 ctt13), slt13⟩) (ct13 : PySem.W.codeIn K cdt13 "down_of" = true) (kt13 : PySem.W.keepIn K (.ref ft13) = true)
    (at14 : PySem.W.nsIn K mainGlobals "_law_deal" = some (some (.ref ft14)))
    (lt14 : K.lookup ft14 = some ⟨oct14, odt14, .func (PySem.W.fnOf "_law_deal" "_law_deal" (defArgs sDeal) (defBody sDeal) (defScope sDeal) .none kVt14 dct14 pmt14 ant14 cdt14 ctt14), slt14⟩) (ct14 : PySem.W.codeIn K cdt14 "_law_deal" = true) (kt14 : PySem.W.keepIn K (.ref ft14) = true)
    (at15 : PySem.W.nsIn K mainGlobals "_law_draw" = some (some (.ref ft15)))
    (lt15 : K.lookup ft15 = some ⟨oct15, odt15, .func (PySem.W.fnOf "_law_draw" "_law_draw" (defArgs sDraw) (defBody sDraw) (defScope sDraw) .none kVt15 dct15 pmt15 ant15 cdt15 ctt15), slt15⟩) (ct15 : PySem.W.codeIn K cdt15 "_law_draw" = true) (kt15 : PySem.W.keepIn K (.ref ft15) = true)
    (at16 : PySem.W.nsIn K mainGlobals "_law_whole" = some (some (.ref ft16)))
    (lt16 : K.lookup ft16 = some ⟨oct16, odt16, .func (PySem.W.fnOf "_law_whole" "_law_whole" (defArgs sWhole) (defBody sWhole) (defScope sWhole) .none kVt16 dct16 pmt16 ant16 cdt16 ctt16), slt16⟩) (ct16 : PySem.W.codeIn K cdt16 "_law_whole" = true) (kt16 : PySem.W.keepIn K (.ref ft16) = true)
    (at17 : PySem.W.nsIn K mainGlobals "_law_letters" = some (some (.ref ft17)))
    (lt17 : K.lookup ft17 = some ⟨oct17, odt17, .func (PySem.W.fnOf "_law_letters" "_law_letters" (defArgs sLLetters) (defBody sLLetters) (defScope sLLetters) .none kVt17 dct17 pmt17 ant17 cdt17 ctt17), slt17⟩) (ct17 : PySem.W.codeIn K cdt17 "_law_letters" = true) (kt17 : PySem.W.keepIn K (.ref ft17) = true)
    (at18 : PySem.W.nsIn K mainGlobals "_law_grammar" = some (some (.ref ft18)))
    (lt18 : K.lookup ft18 = some ⟨oct18, odt18, .func (PySem.W.fnOf "_law_grammar" "_law_grammar" (defArgs sGrammar) (defBody sGrammar) (defScope sGrammar) .none kVt18 dct18 pmt18 ant18 cdt18 ctt18), slt18⟩) (ct18 : PySem.W.codeIn K cdt18 "_law_grammar" = true) (kt18 : PySem.W.keepIn K (.ref ft18) = true)
    (at19 : PySem.W.nsIn K mainGlobals "_law_inner" = some (some (.ref ft19)))
    (lt19 : K.lookup ft19 = some ⟨oct19, odt19, .func (PySem.W.fnOf "_law_inner" "_law_inner" (defArgs sInner) (defBody sInner) (defScope sInner) .none kVt19 dct19 pmt19 ant19 cdt19 ctt19), slt19⟩) (ct19 : PySem.W.codeIn K cdt19 "_law_inner" = true) (kt19 : PySem.W.keepIn K (.ref ft19) = true)
    (at20 : PySem.W.nsIn K mainGlobals "_law_word" = some (some (.ref ft20)))
    (lt20 : K.lookup ft20 = some ⟨oct20, odt20, .func (PySem.W.fnOf "_law_word" "_law_word" (defArgs sWord) (defBody sWord) (defScope sWord) .none kVt20 dct20 pmt20 ant20 cdt20 ctt20), slt20⟩) (ct20 : PySem.W.codeIn K cdt20 "_law_word" = true) (kt20 : PySem.W.keepIn K (.ref ft20) = true)
    (at21 : PySem.W.nsIn K mainGlobals "_law_under" = some (some (.ref ft21)))
    (lt21 : K.lookup ft21 = some ⟨oct21, odt21, .func (PySem.W.fnOf "_law_under" "_law_under" (defArgs sUnder) (defBody sUnder) (defScope sUnder) .none kVt21 dct21 pmt21 ant21 cdt21 ctt21), slt21⟩) (ct21 : PySem.W.codeIn K cdt21 "_law_under" = true) (kt21 : PySem.W.keepIn K (.ref ft21) = true)
    (at22 : PySem.W.nsIn K mainGlobals "_law_product_has" = some (some (.ref ft22)))
    (lt22 : K.lookup ft22 = some ⟨oct22, odt22, .func (PySem.W.fnOf "_law_product_has" "_law_product_has" (defArgs sPHas) (defBody sPHas) (defScope sPHas) .none kVt22 dct22 pmt22 ant22 cdt22 ctt22), slt22⟩) (ct22 : PySem.W.codeIn K cdt22 "_law_product_has" = true) (kt22 : PySem.W.keepIn K (.ref ft22) = true)
    (at23 : PySem.W.nsIn K mainGlobals "_law_has" = some (some (.ref ft23)))
    (lt23 : K.lookup ft23 = some ⟨oct23, odt23, .func (PySem.W.fnOf "_law_has" "_law_has" (defArgs sHas) (defBody sHas) (defScope sHas) .none kVt23 dct23 pmt23 ant23 cdt23 ctt23), slt23⟩) (ct23 : PySem.W.codeIn K cdt23 "_law_has" = true) (kt23 : PySem.W.keepIn K (.ref ft23) = true)
    (at24 : PySem.W.nsIn K mainGlobals "_law_is_tree" = some (some (.ref ft24)))
    (lt24 : K.lookup ft24 = some ⟨oct24, odt24, .func (PySem.W.fnOf "_law_is_tree" "_law_is_tree" (defArgs sIsTree) (defBody sIsTree) (defScope sIsTree) .none kVt24 dct24 pmt24 ant24 cdt24 ctt24), slt24⟩) (ct24 : PySem.W.codeIn K cdt24 "_law_is_tree" = true) (kt24 : PySem.W.keepIn K (.ref ft24) = true)
    (at25 : PySem.W.nsIn K mainGlobals "_law_word_of" = some (some (.ref ft25)))
    (lt25 : K.lookup ft25 = some ⟨oct25, odt25, .func (PySem.W.fnOf "_law_word_of" "_law_word_of" (defArgs sWordOf) (defBody sWordOf) (defScope sWordOf) .none kVt25 dct25 pmt25 ant25 cdt25 ctt25), slt25⟩) (ct25 : PySem.W.codeIn K cdt25 "_law_word_of" = true) (kt25 : PySem.W.keepIn K (.ref ft25) = true)
    (at26 : PySem.W.nsIn K mainGlobals "_law_had_word" = some (some (.ref ft26)))
    (lt26 : K.lookup ft26 = some ⟨oct26, odt26, .func (PySem.W.fnOf "_law_had_word" "_law_had_word" (defArgs sHad) (defBody sHad) (defScope sHad) .none kVt26 dct26 pmt26 ant26 cdt26 ctt26), slt26⟩) (ct26 : PySem.W.codeIn K cdt26 "_law_had_word" = true) (kt26 : PySem.W.keepIn K (.ref ft26) = true)
    (am0 : PySem.W.findIn K (.ref C) "__init__" = some (some (.ref fm0))) (im0 : PySem.W.isFn K (.ref fm0) = true)
    (lm0 : K.lookup fm0 = some ⟨ocm0, odm0, .func (PySem.W.fnOf "__init__" "Downs.__init__" (defArgs sInit) (defBody sInit) (defScope sInit) .none kVm0 dcm0 pmm0 anm0 cdm0 ctm0), slm0⟩) (cm0 : PySem.W.codeIn K cdm0 "Downs.__init__" = true) (km0 : PySem.W.keepIn K (.ref fm0) = true)
    (am1 : PySem.W.findIn K (.ref C) "reached" = some (some (.ref fm1))) (im1 : PySem.W.isFn K (.ref fm1) = true)
    (lm1 : K.lookup fm1 = some ⟨ocm1, odm1, .func (PySem.W.fnOf "reached" "Downs.reached" (defArgs sReached) (defBody sReached) (defScope sReached) .none kVm1 dcm1 pmm1 anm1 cdm1 ctm1), slm1⟩) (cm1 : PySem.W.codeIn K cdm1 "Downs.reached" = true) (km1 : PySem.W.keepIn K (.ref fm1) = true)
    (am2 : PySem.W.findIn K (.ref C) "letters" = some (some (.ref fm2))) (im2 : PySem.W.isFn K (.ref fm2) = true)
    (lm2 : K.lookup fm2 = some ⟨ocm2, odm2, .func (PySem.W.fnOf "letters" "Downs.letters" (defArgs sLetters) (defBody sLetters) (defScope sLetters) .none kVm2 dcm2 pmm2 anm2 cdm2 ctm2), slm2⟩) (cm2 : PySem.W.codeIn K cdm2 "Downs.letters" = true) (km2 : PySem.W.keepIn K (.ref fm2) = true)
    (am3 : PySem.W.findIn K (.ref C) "of_body" = some (some (.ref fm3))) (im3 : PySem.W.isFn K (.ref fm3) = true)
    (lm3 : K.lookup fm3 = some ⟨ocm3, odm3, .func (PySem.W.fnOf "of_body" "Downs.of_body" (defArgs sOfBody) (defBody sOfBody) (defScope sOfBody) .none kVm3 dcm3 pmm3 anm3 cdm3 ctm3), slm3⟩) (cm3 : PySem.W.codeIn K cdm3 "Downs.of_body" = true) (km3 : PySem.W.keepIn K (.ref fm3) = true)
    (am4 : PySem.W.findIn K (.ref C) "expression" = some (some (.ref fm4))) (im4 : PySem.W.isFn K (.ref fm4) = true)
    (lm4 : K.lookup fm4 = some ⟨ocm4, odm4, .func (PySem.W.fnOf "expression" "Downs.expression" (defArgs sExpr) (defBody sExpr) (defScope sExpr) .none kVm4 dcm4 pmm4 anm4 cdm4 ctm4), slm4⟩) (cm4 : PySem.W.codeIn K cdm4 "Downs.expression" = true) (km4 : PySem.W.keepIn K (.ref fm4) = true)
    (am5 : PySem.W.findIn K (.ref C) "of_knot" = some (some (.ref fm5))) (im5 : PySem.W.isFn K (.ref fm5) = true)
    (lm5 : K.lookup fm5 = some ⟨ocm5, odm5, .func (PySem.W.fnOf "of_knot" "Downs.of_knot" (defArgs sKnot) (defBody sKnot) (defScope sKnot) .none kVm5 dcm5 pmm5 anm5 cdm5 ctm5), slm5⟩) (cm5 : PySem.W.codeIn K cdm5 "Downs.of_knot" = true) (km5 : PySem.W.keepIn K (.ref fm5) = true)
    (aw : PySem.W.nsIn K mainGlobals "law" = some (some (.ref fw)))
    (lw : K.lookup fw = some ⟨ocw, odw, .func (PySem.W.fnOf "law" "law" (defArgs sLaw) (defBody sLaw) (defScope sLaw) .none kVw dcw pmw anw cdw ctw), slw⟩) (cw : PySem.W.codeIn K cdw "law" = true) (kw : PySem.W.keepIn K (.ref fw) = true)
    (pg : PySem.W.plainGet K C Str.empty = true) (hd : PySem.W.hasDictIn K C = true) (po : PySem.W.plainOver K C = true) (sa : PySem.W.findIn K (.ref C) "__setattr__" = some (some (.builtin "object.__setattr__"))) (mk : PySem.W.makesIn K C = true) (kc : PySem.W.keepIn K (.ref C) = true)
    (nR : PySem.W.findIn K (.ref C) "rules" = some none) (nT : PySem.W.findIn K (.ref C) "told" = some none)
    (z0 : PySem.W.nsIn K mainGlobals "isinstance" = some none)
    (z1 : PySem.W.nsIn K mainGlobals "str" = some none)
    (z2 : PySem.W.nsIn K mainGlobals "len" = some none)
    (z3 : PySem.W.nsIn K mainGlobals "any" = some none)
    (z4 : PySem.W.nsIn K mainGlobals "all" = some none)
    (z5 : PySem.W.nsIn K mainGlobals "sorted" = some none)
    (z6 : PySem.W.nsIn K mainGlobals "set" = some none)
    (z7 : PySem.W.nsIn K mainGlobals "tuple" = some none)
    (z8 : PySem.W.nsIn K mainGlobals "list" = some none)
    (z9 : PySem.W.nsIn K mainGlobals "int" = some none)
    (z10 : PySem.W.nsIn K mainGlobals "bool" = some none)
    (z11 : PySem.W.nsIn K mainGlobals "range" = some none)
    (z12 : PySem.W.nsIn K mainGlobals "enumerate" = some none)
    (z13 : PySem.W.nsIn K mainGlobals "max" = some none)
    (z14 : PySem.W.nsIn K mainGlobals "sum" = some none)
    (z15 : PySem.W.nsIn K mainGlobals "reversed" = some none)
    : ∃ fd : FuncData, (∀ (s : Shared) (v : Value), BindsTo s fd ⟨[v], []⟩ [("_law_script", v)]) ∧ ∀ base : Heap, K.In base → base.Ns mainGlobals mg → FnOk l.prog w K mg base CX0 24 fa fd ["_law_script"] (spLaw K) := by
  have e := hfa.symm.trans (PySem.W.mg_of X G aw)
  cases e
  have T : DTxt K mg C := ⟨⟨pg, hd, po, sa⟩, nR, nT, PySem.W.mg_of X G aC, kc⟩
  have B : Blt mg := ⟨PySem.W.mg_none_of X G z0, PySem.W.mg_none_of X G z1, PySem.W.mg_none_of X G z2, PySem.W.mg_none_of X G z3, PySem.W.mg_none_of X G z4, PySem.W.mg_none_of X G z5, PySem.W.mg_none_of X G z6, PySem.W.mg_none_of X G z7, PySem.W.mg_none_of X G z8, PySem.W.mg_none_of X G z9, PySem.W.mg_none_of X G z10, PySem.W.mg_none_of X G z11, PySem.W.mg_none_of X G z12, PySem.W.mg_none_of X G z13, PySem.W.mg_none_of X G z14, PySem.W.mg_none_of X G z15⟩
  have Ft0 := fun_mk (st := sNames) lt0 ct0 kt0
  have bt0 := Ft0.binds (ps := ["body"]) fun _ _ _ _ _ _ us hl => match us, hl with | [_], _ => rfl
  have St0 : Src K mg "names_in" sNames ["body"] := ⟨_, _, PySem.W.mg_of X G at0, Ft0, bt0⟩
  have Ft1 := fun_mk (st := sSize) lt1 ct1 kt1
  have bt1 := Ft1.binds (ps := ["tree"]) fun _ _ _ _ _ _ us hl => match us, hl with | [_], _ => rfl
  have St1 : Src K mg "size_of" sSize ["tree"] := ⟨_, _, PySem.W.mg_of X G at1, Ft1, bt1⟩
  have Ft2 := fun_mk (st := sSwal) lt2 ct2 kt2
  have bt2 := Ft2.binds (ps := ["one", "other"]) fun _ _ _ _ _ _ us hl => match us, hl with | [_, _], _ => rfl
  have St2 : Src K mg "swallows" sSwal ["one", "other"] := ⟨_, _, PySem.W.mg_of X G at2, Ft2, bt2⟩
  have Ft3 := fun_mk (st := sPlainP) lt3 ct3 kt3
  have bt3 := Ft3.binds (ps := ["product"]) fun _ _ _ _ _ _ us hl => match us, hl with | [_], _ => rfl
  have St3 : Src K mg "plain_product" sPlainP ["product"] := ⟨_, _, PySem.W.mg_of X G at3, Ft3, bt3⟩
  have Ft4 := fun_mk (st := sMay) lt4 ct4 kt4
  have bt4 := Ft4.binds (ps := ["one", "other"]) fun _ _ _ _ _ _ us hl => match us, hl with | [_, _], _ => rfl
  have St4 : Src K mg "may_take" sMay ["one", "other"] := ⟨_, _, PySem.W.mg_of X G at4, Ft4, bt4⟩
  have Ft5 := fun_mk (st := sWithin) lt5 ct5 kt5
  have bt5 := Ft5.binds (ps := ["one", "other"]) fun _ _ _ _ _ _ us hl => match us, hl with | [_, _], _ => rfl
  have St5 : Src K mg "product_within" sWithin ["one", "other"] := ⟨_, _, PySem.W.mg_of X G at5, Ft5, bt5⟩
  have Ft6 := fun_mk (st := sPlains) lt6 ct6 kt6
  have bt6 := Ft6.binds (ps := ["products"]) fun _ _ _ _ _ _ us hl => match us, hl with | [_], _ => rfl
  have St6 : Src K mg "plain_products" sPlains ["products"] := ⟨_, _, PySem.W.mg_of X G at6, Ft6, bt6⟩
  have Ft7 := fun_mk (st := sPlain) lt7 ct7 kt7
  have bt7 := Ft7.binds (ps := ["expression"]) fun _ _ _ _ _ _ us hl => match us, hl with | [_], _ => rfl
  have St7 : Src K mg "plain" sPlain ["expression"] := ⟨_, _, PySem.W.mg_of X G at7, Ft7, bt7⟩
  have Ft8 := fun_mk (st := sByBody) lt8 ct8 kt8
  have bt8 := Ft8.binds (ps := ["body", "word", "place", "trees"]) fun _ _ _ _ _ _ us hl => match us, hl with | [_, _, _, _], _ => rfl
  have St8 : Src K mg "by_body" sByBody ["body", "word", "place", "trees"] := ⟨_, _, PySem.W.mg_of X G at8, Ft8, bt8⟩
  have Ft9 := fun_mk (st := sByThing) lt9 ct9 kt9
  have bt9 := Ft9.binds (ps := ["thing", "word", "place", "trees"]) fun _ _ _ _ _ _ us hl => match us, hl with | [_, _, _, _], _ => rfl
  have St9 : Src K mg "by_thing" sByThing ["thing", "word", "place", "trees"] := ⟨_, _, PySem.W.mg_of X G at9, Ft9, bt9⟩
  have Ft10 := fun_mk (st := sTree) lt10 ct10 kt10
  have bt10 := Ft10.binds (ps := ["grammar", "word"]) fun _ _ _ _ _ _ us hl => match us, hl with | [_, _], _ => rfl
  have St10 : Src K mg "tree_above" sTree ["grammar", "word"] := ⟨_, _, PySem.W.mg_of X G at10, Ft10, bt10⟩
  have Ft11 := fun_mk (st := sMakers) lt11 ct11 kt11
  have bt11 := Ft11.binds (ps := ["grammar"]) fun _ _ _ _ _ _ us hl => match us, hl with | [_], _ => rfl
  have St11 : Src K mg "makers" sMakers ["grammar"] := ⟨_, _, PySem.W.mg_of X G at11, Ft11, bt11⟩
  have Ft12 := fun_mk (st := sAnyOf) lt12 ct12 kt12
  have bt12 := Ft12.binds (ps := ["letters"]) fun _ _ _ _ _ _ us hl => match us, hl with | [_], _ => rfl
  have St12 : Src K mg "any_of" sAnyOf ["letters"] := ⟨_, _, PySem.W.mg_of X G at12, Ft12, bt12⟩
  have Ft13 := fun_mk (st := sDownOf) lt13 ct13 kt13
  have bt13 := Ft13.binds (ps := ["grammar"]) fun _ _ _ _ _ _ us hl => match us, hl with | [_], _ => rfl
  have St13 : Src K mg "down_of" sDownOf ["grammar"] := ⟨_, _, PySem.W.mg_of X G at13, Ft13, bt13⟩
  have Ft14 := fun_mk (st := sDeal) lt14 ct14 kt14
  have bt14 := Ft14.binds (ps := ["_law_script", "_law_base"]) fun _ _ _ _ _ _ us hl => match us, hl with | [_, _], _ => rfl
  have St14 : Src K mg "_law_deal" sDeal ["_law_script", "_law_base"] := ⟨_, _, PySem.W.mg_of X G at14, Ft14, bt14⟩
  have Ft15 := fun_mk (st := sDraw) lt15 ct15 kt15
  have bt15 := Ft15.binds (ps := ["_law_deal_here", "_law_many"]) fun _ _ _ _ _ _ us hl => match us, hl with | [_, _], _ => rfl
  have St15 : Src K mg "_law_draw" sDraw ["_law_deal_here", "_law_many"] := ⟨_, _, PySem.W.mg_of X G at15, Ft15, bt15⟩
  have Ft16 := fun_mk (st := sWhole) lt16 ct16 kt16
  have bt16 := Ft16.binds (ps := ["_law_found"]) fun _ _ _ _ _ _ us hl => match us, hl with | [_], _ => rfl
  have St16 : Src K mg "_law_whole" sWhole ["_law_found"] := ⟨_, _, PySem.W.mg_of X G at16, Ft16, bt16⟩
  have Ft17 := fun_mk (st := sLLetters) lt17 ct17 kt17
  have bt17 := Ft17.binds (ps := ["_law_deal_here"]) fun _ _ _ _ _ _ us hl => match us, hl with | [_], _ => rfl
  have St17 : Src K mg "_law_letters" sLLetters ["_law_deal_here"] := ⟨_, _, PySem.W.mg_of X G at17, Ft17, bt17⟩
  have Ft18 := fun_mk (st := sGrammar) lt18 ct18 kt18
  have bt18 := Ft18.binds (ps := ["_law_deal_here", "_law_letters_here"]) fun _ _ _ _ _ _ us hl => match us, hl with | [_, _], _ => rfl
  have St18 : Src K mg "_law_grammar" sGrammar ["_law_deal_here", "_law_letters_here"] := ⟨_, _, PySem.W.mg_of X G at18, Ft18, bt18⟩
  have Ft19 := fun_mk (st := sInner) lt19 ct19 kt19
  have bt19 := Ft19.binds (ps := ["_law_body"]) fun _ _ _ _ _ _ us hl => match us, hl with | [_], _ => rfl
  have St19 : Src K mg "_law_inner" sInner ["_law_body"] := ⟨_, _, PySem.W.mg_of X G at19, Ft19, bt19⟩
  have Ft20 := fun_mk (st := sWord) lt20 ct20 kt20
  have bt20 := Ft20.binds (ps := ["_law_deal_here", "_law_letters_here", "_law_most"]) fun _ _ _ _ _ _ us hl => match us, hl with | [_, _, _], _ => rfl
  have St20 : Src K mg "_law_word" sWord ["_law_deal_here", "_law_letters_here", "_law_most"] := ⟨_, _, PySem.W.mg_of X G at20, Ft20, bt20⟩
  have Ft21 := fun_mk (st := sUnder) lt21 ct21 kt21
  have bt21 := Ft21.binds (ps := ["_law_less", "_law_more"]) fun _ _ _ _ _ _ us hl => match us, hl with | [_, _], _ => rfl
  have St21 : Src K mg "_law_under" sUnder ["_law_less", "_law_more"] := ⟨_, _, PySem.W.mg_of X G at21, Ft21, bt21⟩
  have Ft22 := fun_mk (st := sPHas) lt22 ct22 kt22
  have bt22 := Ft22.binds (ps := ["_law_product", "_law_word_here"]) fun _ _ _ _ _ _ us hl => match us, hl with | [_, _], _ => rfl
  have St22 : Src K mg "_law_product_has" sPHas ["_law_product", "_law_word_here"] := ⟨_, _, PySem.W.mg_of X G at22, Ft22, bt22⟩
  have Ft23 := fun_mk (st := sHas) lt23 ct23 kt23
  have bt23 := Ft23.binds (ps := ["_law_expression", "_law_word_here"]) fun _ _ _ _ _ _ us hl => match us, hl with | [_, _], _ => rfl
  have St23 : Src K mg "_law_has" sHas ["_law_expression", "_law_word_here"] := ⟨_, _, PySem.W.mg_of X G at23, Ft23, bt23⟩
  have Ft24 := fun_mk (st := sIsTree) lt24 ct24 kt24
  have bt24 := Ft24.binds (ps := ["_law_grammar_here", "_law_name", "_law_tree"]) fun _ _ _ _ _ _ us hl => match us, hl with | [_, _, _], _ => rfl
  have St24 : Src K mg "_law_is_tree" sIsTree ["_law_grammar_here", "_law_name", "_law_tree"] := ⟨_, _, PySem.W.mg_of X G at24, Ft24, bt24⟩
  have Ft25 := fun_mk (st := sWordOf) lt25 ct25 kt25
  have bt25 := Ft25.binds (ps := ["_law_grammar_here", "_law_tree"]) fun _ _ _ _ _ _ us hl => match us, hl with | [_, _], _ => rfl
  have St25 : Src K mg "_law_word_of" sWordOf ["_law_grammar_here", "_law_tree"] := ⟨_, _, PySem.W.mg_of X G at25, Ft25, bt25⟩
  have Ft26 := fun_mk (st := sHad) lt26 ct26 kt26
  have bt26 := Ft26.binds (ps := ["_law_deal_here", "_law_product"]) fun _ _ _ _ _ _ us hl => match us, hl with | [_, _], _ => rfl
  have St26 : Src K mg "_law_had_word" sHad ["_law_deal_here", "_law_product"] := ⟨_, _, PySem.W.mg_of X G at26, Ft26, bt26⟩
  have Fm0 := fun_mk (st := sInit) lm0 cm0 km0
  have bm0 := Fm0.binds (ps := ["self", "grammar"]) fun _ _ _ _ _ _ us hl => match us, hl with | [_, _], _ => rfl
  have Sm0 : SrcM K C "__init__" "Downs.__init__" sInit ["self", "grammar"] := ⟨_, _, ⟨am0, im0, km0⟩, Fm0, bm0⟩
  have Fm1 := fun_mk (st := sReached) lm1 cm1 km1
  have bm1 := Fm1.binds (ps := ["self", "name"]) fun _ _ _ _ _ _ us hl => match us, hl with | [_, _], _ => rfl
  have Sm1 : SrcM K C "reached" "Downs.reached" sReached ["self", "name"] := ⟨_, _, ⟨am1, im1, km1⟩, Fm1, bm1⟩
  have Fm2 := fun_mk (st := sLetters) lm2 cm2 km2
  have bm2 := Fm2.binds (ps := ["self", "things"]) fun _ _ _ _ _ _ us hl => match us, hl with | [_, _], _ => rfl
  have Sm2 : SrcM K C "letters" "Downs.letters" sLetters ["self", "things"] := ⟨_, _, ⟨am2, im2, km2⟩, Fm2, bm2⟩
  have Fm3 := fun_mk (st := sOfBody) lm3 cm3 km3
  have bm3 := Fm3.binds (ps := ["self", "body"]) fun _ _ _ _ _ _ us hl => match us, hl with | [_, _], _ => rfl
  have Sm3 : SrcM K C "of_body" "Downs.of_body" sOfBody ["self", "body"] := ⟨_, _, ⟨am3, im3, km3⟩, Fm3, bm3⟩
  have Fm4 := fun_mk (st := sExpr) lm4 cm4 km4
  have bm4 := Fm4.binds (ps := ["self", "name"]) fun _ _ _ _ _ _ us hl => match us, hl with | [_, _], _ => rfl
  have Sm4 : SrcM K C "expression" "Downs.expression" sExpr ["self", "name"] := ⟨_, _, ⟨am4, im4, km4⟩, Fm4, bm4⟩
  have Fm5 := fun_mk (st := sKnot) lm5 cm5 km5
  have bm5 := Fm5.binds (ps := ["self", "name", "knot"]) fun _ _ _ _ _ _ us hl => match us, hl with | [_, _, _], _ => rfl
  have Sm5 : SrcM K C "of_knot" "Downs.of_knot" sKnot ["self", "name", "knot"] := ⟨_, _, ⟨am5, im5, km5⟩, Fm5, bm5⟩
  refine ⟨PySem.W.fnOf "law" "law" (defArgs sLaw) (defBody sLaw) (defScope sLaw) .none kVw dcw pmw anw cdw ctw, fun s v => .of_eq rfl, fun base _ _ => ?_⟩
  have Dnames : Dfn l.prog w K mg base "names_in" 1 ["body"] spNames := d_names St0 B
  have Dswal : Dfn l.prog w K mg base "swallows" 1 ["one", "other"] spSwal := d_swal St2 B
  have Dmay : Dfn l.prog w K mg base "may_take" 2 ["one", "other"] spMay := d_may St4 Dswal
  have DplainP : Dfn l.prog w K mg base "plain_product" 2 ["product"] spPlainP := d_plainP St3 B Dswal
  have Dwithin : Dfn l.prog w K mg base "product_within" 3 ["one", "other"] spWithin := d_within St5 B Dmay
  have Dplains : Dfn l.prog w K mg base "plain_products" 4 ["products"] spPlains := d_plains St6 B DplainP Dwithin
  have Dplain : Dfn l.prog w K mg base "plain" 5 ["expression"] spPlains := d_plain St7 Dplains
  have DanyOf : Dfn l.prog w K mg base "any_of" 1 ["letters"] spAnyOf := d_anyOf St12
  have Dmakers : Dfn l.prog w K mg base "makers" 2 ["grammar"] spMakers := d_makers St11 B Dnames
  have Dinit : DfnM l.prog w K mg base C "__init__" 3 ["self", "grammar"] (spInit C) := d_init Sm0 T B Dmakers Dnames
  have Dreached : DfnM l.prog w K mg base C "reached" 2 ["self", "name"] (spReached C) := d_reached Sm1 T B Dnames
  have Dletters : DfnM l.prog w K mg base C "letters" 3 ["self", "things"] (spLetters C) := d_letters Sm2 T B Dreached
  have Dexpr : DfnM l.prog w K mg base C "expression" 15 ["self", "name"] (spExpr C 3) := d_expr Sm4 Sm3 Sm5 T B Dreached Dplain Dletters DanyOf
  have DdownOf : Dfn l.prog w K mg base "down_of" 16 ["grammar"] spDownOf := d_downOf St13 T mk Dinit Dexpr
  have Dsize : Dfn l.prog w K mg base "size_of" 1 ["tree"] spSize := d_size St1 B
  have DbyThing : Dfn l.prog w K mg base "by_thing" 1 ["thing", "word", "place", "trees"] spByThing := d_byThing St9 B
  have DbyBody : Dfn l.prog w K mg base "by_body" 2 ["body", "word", "place", "trees"] spByBody := d_byBody St8 B DbyThing Dsize
  have Dtree : Dfn l.prog w K mg base "tree_above" 3 ["grammar", "word"] spTree := d_tree St10 B DbyBody Dsize
  have Dinner : Dfn l.prog w K mg base "_law_inner" 1 ["_law_body"] spNames := d_inner St19 B
  have Dwhole : Dfn l.prog w K mg base "_law_whole" 1 ["_law_found"] spWhole := d_whole St16 B
  have Dunder : Dfn l.prog w K mg base "_law_under" 1 ["_law_less", "_law_more"] spUnder := d_under St21 B
  have DpHas : Dfn l.prog w K mg base "_law_product_has" 1 ["_law_product", "_law_word_here"] spPHas := d_pHas St22 B
  have Dhas : Dfn l.prog w K mg base "_law_has" 2 ["_law_expression", "_law_word_here"] spHas := d_has St23 B DpHas
  have DisTree : Dfn l.prog w K mg base "_law_is_tree" 23 ["_law_grammar_here", "_law_name", "_law_tree"] (spIsTree 21) := d_isTree St24 B Dinner Dwhole 21
  have DwordOf : Dfn l.prog w K mg base "_law_word_of" 22 ["_law_grammar_here", "_law_tree"] (spWordOf 21) := d_wordOf St25 B 21
  have Ddraw : Dfn l.prog w K mg base "_law_draw" 1 ["_law_deal_here", "_law_many"] spDraw := d_draw St15 B
  have Ddeal : Dfn l.prog w K mg base "_law_deal" 1 ["_law_script", "_law_base"] (spDeal K) := d_deal St14 B
  have Dlletters : Dfn l.prog w K mg base "_law_letters" 2 ["_law_deal_here"] spLLetters := d_lletters St17 B Ddraw
  have Dword : Dfn l.prog w K mg base "_law_word" 2 ["_law_deal_here", "_law_letters_here", "_law_most"] spWord := d_word St20 B Ddraw
  have Dhad : Dfn l.prog w K mg base "_law_had_word" 2 ["_law_deal_here", "_law_product"] spHad := d_had St26 B Ddraw
  have Dgrammar : Dfn l.prog w K mg base "_law_grammar" 2 ["_law_deal_here", "_law_letters_here"] spGrammar := d_grammar St18 B Ddraw
  exact ok_law (fun_mk (st := sLaw) lw cw kw) B Ddeal Dlletters Dgrammar DdownOf Dword Dhad Ddraw Dtree Dhas DisTree DwordOf Dunder
theorem walk {l : PySem.W.OpenLaw} {q : Program} {loose : List Str} {XP : (Str → Option Value) → Heap → Prop} {YP : World → Heap → Prop} {d : DefRec} {K : Params → PySem.W.Frag} (hn : l.most = some 63) (hdf : d.params.defaults = [])
    (hY : ∀ (w : World) (h : Heap), YP w h → (K w.params).In h)
    (F : ∀ (w : World) (mg : Str → Option Value) (fa : Addr) (h : Heap), (K w.params).In h → h.Ns mainGlobals mg → mg d.name = some (.ref fa) →
      ∃ fd : FuncData, (∀ (s : Shared) (u : Value), BindsTo s fd ⟨[u], []⟩ [("_law_script", u)]) ∧ ∀ base : Heap, (K w.params).In base → base.Ns mainGlobals mg → FnOk l.prog w (K w.params) mg base CX0 24 fa fd ["_law_script"] (spLaw (K w.params))) :
    PySem.W.WalkO q loose XP YP l.row.toRowW d [] (fun f vs => PySem.call f vs) :=
  L2.walk_of (n := 63) (k := 24) (x := "_law_script") (CX := fun _ => CX0) (sp := fun w => spLaw (K w.params)) hn (by decide) hdf ⟨rfl, by decide, by decide⟩ hY F (fun _ _ a ns hl _ hS => ⟨a, ns, rfl, hS, hl, fun _ => rfl⟩) fun _ _ _ _ _ z => z
end Wk

open PySem PySem.W PyProof.Rows in
set_option maxRecDepth 100000 in
set_option maxHeartbeats 0 in
theorem PySem.Challenge.cw_lostpost_k55_whole_a_tree_above_each_holds : PySem.Challenge.rw_lostpost_k55_whole_a_tree_above_each.Holds := by
  w_on; o_law; k_head; (case hw => w_witness2)
  k_fill
  refine Wk.walk (l := PySem.Challenge.rw_lostpost_k55_whole_a_tree_above_each) rfl rfl (fun w h Y => PySem.W.kIn_of Y) ?F
  case F =>
    intro w mg fa h KX G hmg
    refine' Wk.all_mk KX G hmg ?aC ?at0 ?lt0 ?ct0 ?kt0 ?at1 ?lt1 ?ct1 ?kt1 ?at2 ?lt2 ?ct2 ?kt2 ?at3 ?lt3 ?ct3 ?kt3 ?at4 ?lt4 ?ct4 ?kt4 ?at5 ?lt5 ?ct5 ?kt5 ?at6 ?lt6 ?ct6 ?kt6 ?at7 ?lt7 ?ct7 ?kt7 ?at8 ?lt8 ?ct8 ?kt8 ?at9 ?lt9 ?ct9 ?kt9 ?at10 ?lt10 ?ct10 ?kt10 ?at11 ?lt11 ?ct11 ?kt11 ?at12 ?lt12 ?ct12 ?kt12 ?at13 ?lt13 ?ct13 ?kt13 ?at14 ?lt14 ?ct14 ?kt14 ?at15 ?lt15 ?ct15 ?kt15 ?at16 ?lt16 ?ct16 ?kt16 ?at17 ?lt17 ?ct17 ?kt17 ?at18 ?lt18 ?ct18 ?kt18 ?at19 ?lt19 ?ct19 ?kt19 ?at20 ?lt20 ?ct20 ?kt20 ?at21 ?lt21 ?ct21 ?kt21 ?at22 ?lt22 ?ct22 ?kt22 ?at23 ?lt23 ?ct23 ?kt23 ?at24 ?lt24 ?ct24 ?kt24 ?at25 ?lt25 ?ct25 ?kt25 ?at26 ?lt26 ?ct26 ?kt26 ?am0 ?im0 ?lm0 ?cm0 ?km0 ?am1 ?im1 ?lm1 ?cm1 ?km1 ?am2 ?im2 ?lm2 ?cm2 ?km2 ?am3 ?im3 ?lm3 ?cm3 ?km3 ?am4 ?im4 ?lm4 ?cm4 ?km4 ?am5 ?im5 ?lm5 ?cm5 ?km5 ?aw ?lw ?cw ?kw ?pg ?hd ?po ?sa ?mk ?kc ?nR ?nT ?z0 ?z1 ?z2 ?z3 ?z4 ?z5 ?z6 ?z7 ?z8 ?z9 ?z10 ?z11 ?z12 ?z13 ?z14 ?z15
    (case aC => k_is)
    (case at0 => k_is)
    (case lt0 => k_is)
    (case ct0 => k_is)
    (case kt0 => k_is)
    (case at1 => k_is)
    (case lt1 => k_is)
    (case ct1 => k_is)
    (case kt1 => k_is)
    (case at2 => k_is)
    (case lt2 => k_is)
    (case ct2 => k_is)
    (case kt2 => k_is)
    (case at3 => k_is)
    (case lt3 => k_is)
    (case ct3 => k_is)
    (case kt3 => k_is)
    (case at4 => k_is)
    (case lt4 => k_is)
    (case ct4 => k_is)
    (case kt4 => k_is)
    (case at5 => k_is)
    (case lt5 => k_is)
    (case ct5 => k_is)
    (case kt5 => k_is)
    (case at6 => k_is)
    (case lt6 => k_is)
    (case ct6 => k_is)
    (case kt6 => k_is)
    (case at7 => k_is)
    (case lt7 => k_is)
    (case ct7 => k_is)
    (case kt7 => k_is)
    (case at8 => k_is)
    (case lt8 => k_is)
    (case ct8 => k_is)
    (case kt8 => k_is)
    (case at9 => k_is)
    (case lt9 => k_is)
    (case ct9 => k_is)
    (case kt9 => k_is)
    (case at10 => k_is)
    (case lt10 => k_is)
    (case ct10 => k_is)
    (case kt10 => k_is)
    (case at11 => k_is)
    (case lt11 => k_is)
    (case ct11 => k_is)
    (case kt11 => k_is)
    (case at12 => k_is)
    (case lt12 => k_is)
    (case ct12 => k_is)
    (case kt12 => k_is)
    (case at13 => k_is)
    (case lt13 => k_is)
    (case ct13 => k_is)
    (case kt13 => k_is)
    (case at14 => k_is)
    (case lt14 => k_is)
    (case ct14 => k_is)
    (case kt14 => k_is)
    (case at15 => k_is)
    (case lt15 => k_is)
    (case ct15 => k_is)
    (case kt15 => k_is)
    (case at16 => k_is)
    (case lt16 => k_is)
    (case ct16 => k_is)
    (case kt16 => k_is)
    (case at17 => k_is)
    (case lt17 => k_is)
    (case ct17 => k_is)
    (case kt17 => k_is)
    (case at18 => k_is)
    (case lt18 => k_is)
    (case ct18 => k_is)
    (case kt18 => k_is)
    (case at19 => k_is)
    (case lt19 => k_is)
    (case ct19 => k_is)
    (case kt19 => k_is)
    (case at20 => k_is)
    (case lt20 => k_is)
    (case ct20 => k_is)
    (case kt20 => k_is)
    (case at21 => k_is)
    (case lt21 => k_is)
    (case ct21 => k_is)
    (case kt21 => k_is)
    (case at22 => k_is)
    (case lt22 => k_is)
    (case ct22 => k_is)
    (case kt22 => k_is)
    (case at23 => k_is)
    (case lt23 => k_is)
    (case ct23 => k_is)
    (case kt23 => k_is)
    (case at24 => k_is)
    (case lt24 => k_is)
    (case ct24 => k_is)
    (case kt24 => k_is)
    (case at25 => k_is)
    (case lt25 => k_is)
    (case ct25 => k_is)
    (case kt25 => k_is)
    (case at26 => k_is)
    (case lt26 => k_is)
    (case ct26 => k_is)
    (case kt26 => k_is)
    (case am0 => k_is)
    (case im0 => k_is)
    (case lm0 => k_is)
    (case cm0 => k_is)
    (case km0 => k_is)
    (case am1 => k_is)
    (case im1 => k_is)
    (case lm1 => k_is)
    (case cm1 => k_is)
    (case km1 => k_is)
    (case am2 => k_is)
    (case im2 => k_is)
    (case lm2 => k_is)
    (case cm2 => k_is)
    (case km2 => k_is)
    (case am3 => k_is)
    (case im3 => k_is)
    (case lm3 => k_is)
    (case cm3 => k_is)
    (case km3 => k_is)
    (case am4 => k_is)
    (case im4 => k_is)
    (case lm4 => k_is)
    (case cm4 => k_is)
    (case km4 => k_is)
    (case am5 => k_is)
    (case im5 => k_is)
    (case lm5 => k_is)
    (case cm5 => k_is)
    (case km5 => k_is)
    (case aw => k_is)
    (case lw => k_is)
    (case cw => k_is)
    (case kw => k_is)
    (case pg => k_is)
    (case hd => k_is)
    (case po => k_is)
    (case sa => k_is)
    (case mk => k_is)
    (case kc => k_is)
    (case nR => k_is)
    (case nT => k_is)
    (case z0 => k_is)
    (case z1 => k_is)
    (case z2 => k_is)
    (case z3 => k_is)
    (case z4 => k_is)
    (case z5 => k_is)
    (case z6 => k_is)
    (case z7 => k_is)
    (case z8 => k_is)
    (case z9 => k_is)
    (case z10 => k_is)
    (case z11 => k_is)
    (case z12 => k_is)
    (case z13 => k_is)
    (case z14 => k_is)
    (case z15 => k_is)

