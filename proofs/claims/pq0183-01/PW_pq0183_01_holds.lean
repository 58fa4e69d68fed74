import PyProof.Rows.All
import Wide.All
import OpenK.AllK
import Wide.FinOn
import Lean
import PySem.Challenge.RW_pq0183_01
set_option Elab.async false
set_option maxRecDepth 100000
set_option maxHeartbeats 8000000
-- PL
section
namespace Mine
structure Ln where
  calls : List Nat
  goal : Option Nat
abbrev Plan := List Ln
inductive Stm where
  | rem (k : Nat)
  | gosub (l : Nat)
  | ret (g : Option Nat)
def lineRows (i : Nat) (l : Ln) : List Stm := .rem i :: (l.calls.map .gosub ++ [.ret l.goal])
def rowsFrom : Nat → Plan → List Stm
  | _, [] => []
  | i, l :: p => lineRows i l ++ rowsFrom (i + 1) p
def rowsOf (p : Plan) : List Stm := rowsFrom 0 p
def start (p : Plan) (i : Nat) : Nat := (rowsFrom 0 (p.take i)).length
structure MS where
  at_ : Nat
  pile : List Nat
  notes : List Nat
def stp (p : Plan) (s : MS) : Option MS := match (rowsOf p)[s.at_]? with
  | some (.rem k) => some ⟨s.at_ + 1, s.pile, s.notes ++ [k]⟩
  | some (.gosub l) => if s.pile.length < 20 then some ⟨start p l, (s.at_ + 1) :: s.pile, s.notes⟩ else none
  | some (.ret g) => match s.pile with
    | [] => none
    | a :: q => some ⟨match g with | none => a | some l => start p l, q, s.notes⟩
  | none => none
def iter (p : Plan) : Nat → MS → Option MS
  | 0, s => some s
  | k + 1, s => match stp p s with
    | some s' => iter p k s'
    | none => none
def tellCalls (rec : Nat → List Nat × Option Nat) : List Nat → List Nat × Option Nat
  | [] => ([], none)
  | c :: cs => match rec c with
    | (ns, some g) => (ns, some g)
    | (ns, none) => (ns ++ (tellCalls rec cs).1, (tellCalls rec cs).2)
theorem tellCalls_none {rec : Nat → List Nat × Option Nat} {c : Nat} {cs : List Nat} (h : (rec c).2 = none) : tellCalls rec (c :: cs) = ((rec c).1 ++ (tellCalls rec cs).1, (tellCalls rec cs).2) := by
  show (match rec c with | (ns, some g) => (ns, some g) | (ns, none) => (ns ++ (tellCalls rec cs).1, (tellCalls rec cs).2)) = _
  cases ht : rec c with
  | mk ns led => rw [ht] at h; simp only at h; subst h; rfl
theorem tellCalls_some {rec : Nat → List Nat × Option Nat} {c g : Nat} {cs : List Nat} (h : (rec c).2 = some g) : tellCalls rec (c :: cs) = ((rec c).1, some g) := by
  show (match rec c with | (ns, some g) => (ns, some g) | (ns, none) => (ns ++ (tellCalls rec cs).1, (tellCalls rec cs).2)) = _
  cases ht : rec c with
  | mk ns led => rw [ht] at h; simp only at h; subst h; rfl
def tell (p : Plan) : Nat → Nat → List Nat × Option Nat
  | 0, _ => ([], none)
  | f + 1, i => match p[i]? with
    | none => ([], none)
    | some l => match tellCalls (tell p f) l.calls with
      | (ns, none) => (i :: ns, l.goal)
      | (ns, some g) => (i :: (ns ++ (tell p f g).1), (tell p f g).2)
structure Well (p : Plan) : Prop where
  many : p.length ≤ 6
  pos : 0 < p.length
  few : ∀ (i : Nat) (l : Ln), p[i]? = some l → l.calls.length ≤ 2
  calls : ∀ (i : Nat) (l : Ln), p[i]? = some l → ∀ c ∈ l.calls, i < c ∧ c < p.length
  goal : ∀ (i : Nat) (l : Ln), p[i]? = some l → ∀ g, l.goal = some g → i < g ∧ g < p.length
theorem iter_add {p : Plan} : ∀ {j k : Nat} {s s' : MS}, iter p j s = some s' → iter p (j + k) s = iter p k s'
  | 0, k, s, s', h => by cases h; rw [Nat.zero_add]
  | j + 1, k, s, s', h => by
    rw [show j + 1 + k = (j + k) + 1 by omega]
    simp only [iter] at h
    show (match stp p s with | some s' => iter p (j + k) s' | none => none) = _
    cases e : stp p s with
    | none => rw [e] at h; cases h
    | some s₁ => rw [e] at h; exact iter_add h
theorem rowsFrom_at : ∀ (p : Plan) (i n : Nat) (l : Ln), p[n]? = some l → ∀ j r, (lineRows (i + n) l)[j]? = some r → (rowsFrom i p)[(rowsFrom i (p.take n)).length + j]? = some r
  | [], _, _, _, h, _, _, _ => by simp at h
  | x :: p, i, 0, l, h, j, r, hr => by
    simp only [List.getElem?_cons_zero, Option.some.injEq] at h
    subst h
    rw [Nat.add_zero] at hr
    simp only [List.take_zero, rowsFrom, List.length_nil, Nat.zero_add]
    rw [List.getElem?_append_left (List.getElem?_eq_some_iff.mp hr).1]
    exact hr
  | x :: p, i, n + 1, l, h, j, r, hr => by
    simp only [List.getElem?_cons_succ] at h
    have := rowsFrom_at p (i + 1) n l h j r (by rw [show i + 1 + n = i + (n + 1) by omega]; exact hr)
    simp only [List.take_succ_cons, rowsFrom, List.length_append]
    rw [List.getElem?_append_right (by omega), show (lineRows i x).length + (rowsFrom (i + 1) (p.take n)).length + j - (lineRows i x).length = (rowsFrom (i + 1) (p.take n)).length + j by omega]
    exact this
theorem row_at {p : Plan} {i j : Nat} {l : Ln} {r : Stm} (h : p[i]? = some l) (hr : (lineRows i l)[j]? = some r) : (rowsOf p)[start p i + j]? = some r :=
  rowsFrom_at p 0 i l h j r (by rw [Nat.zero_add]; exact hr)
/-- a(k): steps a line with k lines behind it takes at most till it stands at its return -/
def cap : Nat → Nat
  | 0 => 1
  | k + 1 => 5 + 3 * cap k
theorem cap_mono {a b : Nat} (h : a ≤ b) : cap a ≤ cap b := by
  induction h with
  | refl => exact Nat.le_refl _
  | step _ ih => exact Nat.le_trans ih (by show _ ≤ 5 + 3 * cap _; omega)
theorem cap_pos (k : Nat) : 1 ≤ cap k := by cases k <;> simp [cap] <;> omega
/-- from s the machine comes in k turns to a return with g, the pile as given -/
def Comes (p : Plan) (s : MS) (most : Nat) (pile notes : List Nat) (g : Option Nat) : Prop :=
  ∃ k a, k ≤ most ∧ iter p k s = some ⟨a, pile, notes⟩ ∧ (rowsOf p)[a]? = some (.ret g)
theorem comes_step {p : Plan} {s s' : MS} {m : Nat} {pile notes : List Nat} {g : Option Nat} (h : stp p s = some s') (k : Comes p s' m pile notes g) : Comes p s (m + 1) pile notes g := by
  obtain ⟨n, a, hn, hi, hr⟩ := k
  exact ⟨n + 1, a, by omega, by unfold iter; rw [h]; exact hi, hr⟩
theorem comes_le {p : Plan} {s : MS} {m m' : Nat} {pile notes : List Nat} {g : Option Nat} (h : m ≤ m') (k : Comes p s m pile notes g) : Comes p s m' pile notes g := by
  obtain ⟨n, a, hn, hi, hr⟩ := k
  exact ⟨n, a, by omega, hi, hr⟩
theorem comes_then {p : Plan} {s s₁ : MS} {j m : Nat} {pile notes : List Nat} {g : Option Nat} (h : iter p j s = some s₁) (k : Comes p s₁ m pile notes g) : Comes p s (j + m) pile notes g := by
  obtain ⟨n, a, hn, hi, hr⟩ := k
  exact ⟨j + n, a, by omega, by rw [iter_add h]; exact hi, hr⟩
theorem runs_line {p : Plan} (W : Well p) : ∀ (f i : Nat), p.length - i ≤ f → i < p.length → ∀ (pile notes : List Nat), pile.length ≤ i →
    Comes p ⟨start p i, pile, notes⟩ (cap (p.length - 1 - i)) pile (notes ++ (tell p f i).1) (tell p f i).2
  | 0, i, hf, hi, _, _, _ => by omega
  | f + 1, i, hf, hi, pile, notes, hp => by
    obtain ⟨l, hl⟩ : ∃ l, p[i]? = some l := ⟨_, List.getElem?_eq_getElem hi⟩
    have ih := fun c (h1 : i < c) (h2 : c < p.length) => runs_line W f c (by omega) h2
    have hfew := W.few i l hl
    have hcalls := W.calls i l hl
    have hrows : ∀ j r, (lineRows i l)[j]? = some r → (rowsOf p)[start p i + j]? = some r := fun j r hr => row_at hl hr
    -- the calls from the j-th on
    have go : ∀ (cs pre : List Nat), l.calls = pre ++ cs → ∀ notes, Comes p ⟨start p i + 1 + pre.length, pile, notes⟩ (cs.length * (2 + cap (p.length - 1 - (i + 1))) + (if cs = [] then 0 else cap (p.length - 1 - (i + 1)))) pile
        (notes ++ (match tellCalls (tell p f) cs with | (ns, none) => ns | (ns, some g) => ns ++ (tell p f g).1)) (match tellCalls (tell p f) cs with | (_, none) => l.goal | (_, some g) => (tell p f g).2) := by
      intro cs
      induction cs with
      | nil =>
        intro pre hpre notes
        refine ⟨0, start p i + 1 + pre.length, Nat.zero_le _, by simp [iter, tellCalls], ?_⟩
        rw [List.append_nil] at hpre
        have := hrows (1 + pre.length) (.ret l.goal) (by rw [← hpre]; simp [lineRows, Nat.add_comm 1])
        rw [show start p i + 1 + pre.length = start p i + (1 + pre.length) by omega, this]
        simp [tellCalls]
      | cons c cs ihc =>
        intro pre hpre notes
        obtain ⟨h1, h2⟩ := hcalls c (by rw [hpre]; simp)
        have hrow := hrows (1 + pre.length) (.gosub c) (by rw [show 1 + pre.length = pre.length + 1 by omega]; simp [lineRows, hpre])
        have hcl : pre.length + (cs.length + 1) ≤ 2 := by have := hfew; rw [hpre] at this; simpa using this
        have s1 : stp p ⟨start p i + 1 + pre.length, pile, notes⟩ = some ⟨start p c, (start p i + 1 + pre.length + 1) :: pile, notes⟩ := by
          unfold stp
          rw [show start p i + 1 + pre.length = start p i + (1 + pre.length) by omega, hrow]
          have : pile.length < 20 := by have := W.many; omega
          simp [this]
        obtain ⟨n, a, hn, hi', hr⟩ := ih c h1 h2 ((start p i + 1 + pre.length + 1) :: pile) notes (by simp; omega)
        have hcap : cap (p.length - 1 - c) ≤ cap (p.length - 1 - (i + 1)) := cap_mono (by omega)
        have s2 : stp p ⟨a, (start p i + 1 + pre.length + 1) :: pile, notes ++ (tell p f c).1⟩ = some ⟨match (tell p f c).2 with | none => start p i + 1 + pre.length + 1 | some g => start p g, pile, notes ++ (tell p f c).1⟩ := by
          unfold stp
          rw [hr]
        have s3 : iter p (1 + (n + 1)) ⟨start p i + 1 + pre.length, pile, notes⟩ = some ⟨match (tell p f c).2 with | none => start p i + 1 + pre.length + 1 | some g => start p g, pile, notes ++ (tell p f c).1⟩ := by
          rw [iter_add (s' := ⟨start p c, (start p i + 1 + pre.length + 1) :: pile, notes⟩) (by unfold iter; rw [s1]; rfl), iter_add hi']
          unfold iter; rw [s2]; rfl
        cases hled : (tell p f c).2 with
        | none =>
          rw [hled] at s3
          have hk := ihc (pre ++ [c]) (by rw [hpre]; simp) (notes ++ (tell p f c).1)
          rw [show start p i + 1 + (pre ++ [c]).length = start p i + 1 + pre.length + 1 by simp; omega] at hk
          have hk := comes_then s3 hk
          have e := tellCalls_none (cs := cs) hled
          rw [e]
          refine comes_le ?_ ?_ (m := 1 + (n + 1) + (cs.length * (2 + cap (p.length - 1 - (i + 1))) + (if cs = [] then 0 else cap (p.length - 1 - (i + 1)))))
          · simp only [List.length_cons, Nat.add_mul, reduceCtorEq, if_false]
            split <;> omega
          · cases ht : tellCalls (tell p f) cs with
            | mk ns led =>
              rw [ht] at hk
              cases led with
              | none => simpa [List.append_assoc] using hk
              | some g => simpa [List.append_assoc] using hk
        | some g =>
          rw [hled] at s3
          have hg : i < g ∧ g < p.length := by
            have : ∀ (f c : Nat) (g : Nat), c < p.length → (tell p f c).2 = some g → c < g ∧ g < p.length := by
              intro f
              induction f with
              | zero => intro c g _ h; simp [tell] at h
              | succ f ihf =>
                intro c g hc h
                unfold tell at h
                obtain ⟨l', hl'⟩ : ∃ l, p[c]? = some l := ⟨_, List.getElem?_eq_getElem hc⟩
                rw [hl'] at h
                have hcs : ∀ (cs : List Nat), (∀ x ∈ cs, c < x ∧ x < p.length) → ∀ ns g', tellCalls (tell p f) cs = (ns, some g') → c < g' ∧ g' < p.length := by
                  intro cs
                  induction cs with
                  | nil => intro _ ns g' h; simp [tellCalls] at h
                  | cons x xs ihx =>
                    intro hx ns g' h
                    unfold tellCalls at h
                    have hx0 := hx x (by simp)
                    cases ht : tell p f x with
                    | mk ns' led =>
                      rw [ht] at h
                      cases led with
                      | none =>
                        simp only [Prod.mk.injEq] at h
                        exact ihx (fun y hy => hx y (by simp [hy])) _ g' (Prod.ext rfl h.2)
                      | some g'' =>
                        simp only [Prod.mk.injEq, Option.some.injEq] at h
                        have := ihf x g'' hx0.2 (by rw [ht])
                        omega
                cases ht : tellCalls (tell p f) l'.calls with
                | mk ns led =>
                  simp only [ht] at h
                  cases led with
                  | none => exact W.goal c l' hl' g h
                  | some g' =>
                    have h1 := hcs _ (W.calls c l' hl') ns g' ht
                    have := ihf g' g h1.2 h
                    omega
            have := this f c g h2 hled
            omega
          have hk := comes_then s3 (ih g hg.1 hg.2 pile (notes ++ (tell p f c).1) (by omega))
          have hcap2 : cap (p.length - 1 - g) ≤ cap (p.length - 1 - (i + 1)) := cap_mono (by omega)
          have e := tellCalls_some (cs := cs) hled
          rw [e]
          refine comes_le ?_ (by simpa [List.append_assoc] using hk)
          simp only [List.length_cons, Nat.add_mul, reduceCtorEq, if_false]
          have : 0 ≤ cs.length * (2 + cap (p.length - 1 - (i + 1))) := Nat.zero_le _
          omega
    have s0 : stp p ⟨start p i, pile, notes⟩ = some ⟨start p i + 1, pile, notes ++ [i]⟩ := by
      unfold stp
      have := hrows 0 (.rem i) (by simp [lineRows])
      rw [Nat.add_zero] at this
      rw [this]
    have hgo := comes_step s0 (by simpa using go l.calls [] (by simp) (notes ++ [i]))
    have e : tell p (f + 1) i = (i :: (match tellCalls (tell p f) l.calls with | (ns, none) => ns | (ns, some g) => ns ++ (tell p f g).1), (match tellCalls (tell p f) l.calls with | (_, none) => l.goal | (_, some g) => (tell p f g).2)) := by
      show (match p[i]? with | none => _ | some l => _) = _
      rw [hl]
      cases ht : tellCalls (tell p f) l.calls with
      | mk ns led => cases led <;> simp [ht]
    rw [e]
    refine comes_le ?_ (by simpa [List.append_assoc] using hgo)
    by_cases hc : l.calls = []
    · rw [hc]; simp; exact cap_pos _
    · have : i + 1 < p.length := by
        cases hq : l.calls with
        | nil => exact absurd hq hc
        | cons c cs => have := hcalls c (by rw [hq]; simp); omega
      rw [show p.length - 1 - i = (p.length - 1 - (i + 1)) + 1 by omega]
      rw [if_neg hc]
      have h2 : l.calls.length * (2 + cap (p.length - 1 - (i + 1))) ≤ 2 * (2 + cap (p.length - 1 - (i + 1))) := Nat.mul_le_mul_right _ hfew
      show _ ≤ 5 + 3 * cap _
      omega
theorem runs {p : Plan} (W : Well p) : Comes p ⟨0, [], []⟩ 848 [] (tell p 6 0).1 (tell p 6 0).2 := by
  have := runs_line W 6 0 (by have := W.many; omega) W.pos [] [] (by simp)
  have s0 : start p 0 = 0 := by simp [start, rowsFrom]
  rw [s0] at this
  refine comes_le ?_ (by simpa using this)
  exact Nat.le_trans (cap_mono (by have := W.many; omega : p.length - 1 - 0 ≤ 5)) (by decide)
end Mine
end
-- PL2
section
namespace Mine
theorem tellCalls_congr {r r' : Nat → List Nat × Option Nat} : ∀ {cs : List Nat}, (∀ c ∈ cs, r c = r' c) → tellCalls r cs = tellCalls r' cs
  | [], _ => rfl
  | c :: cs, h => by
    have h0 := h c (by simp)
    have ih := tellCalls_congr (cs := cs) fun x hx => h x (by simp [hx])
    cases hl : (r c).2 with
    | none => rw [tellCalls_none hl, tellCalls_none (by rw [← h0]; exact hl), ih, h0]
    | some g => rw [tellCalls_some hl, tellCalls_some (by rw [← h0]; exact hl), h0]
theorem tell_unf (p : Plan) (f i : Nat) (l : Ln) (h : p[i]? = some l) : tell p (f + 1) i = (i :: (match (tellCalls (tell p f) l.calls).2 with | none => (tellCalls (tell p f) l.calls).1 | some g => (tellCalls (tell p f) l.calls).1 ++ (tell p f g).1), match (tellCalls (tell p f) l.calls).2 with | none => l.goal | some g => (tell p f g).2) := by
  show (match p[i]? with | none => _ | some l => _) = _
  rw [h]
  cases ht : tellCalls (tell p f) l.calls with
  | mk ns led => cases led <;> simp [ht]
/-- what a line hands back lies behind it -/
theorem tell_goal {p : Plan} (W : Well p) : ∀ (f i g : Nat), i < p.length → (tell p f i).2 = some g → i < g ∧ g < p.length
  | 0, _, _, _, h => by simp [tell] at h
  | f + 1, i, g, hi, h => by
    obtain ⟨l, hl⟩ : ∃ l, p[i]? = some l := ⟨_, List.getElem?_eq_getElem hi⟩
    rw [tell_unf p f i l hl] at h
    have hcs : ∀ (cs : List Nat), (∀ x ∈ cs, i < x ∧ x < p.length) → ∀ g', (tellCalls (tell p f) cs).2 = some g' → i < g' ∧ g' < p.length := by
      intro cs
      induction cs with
      | nil => intro _ g' h; simp [tellCalls] at h
      | cons x xs ihx =>
        intro hx g' h
        cases hl : (tell p f x).2 with
        | none => rw [tellCalls_none hl] at h; exact ihx (fun y hy => hx y (by simp [hy])) g' h
        | some g'' =>
          rw [tellCalls_some hl] at h
          have h1 := hx x (by simp)
          have := tell_goal W f x g'' h1.2 hl
          simp only [Option.some.injEq] at h
          omega
    cases hc : (tellCalls (tell p f) l.calls).2 with
    | none => simp only [hc] at h; exact W.goal i l hl g h
    | some g' =>
      simp only [hc] at h
      have h1 := hcs _ (W.calls i l hl) g' hc
      have := tell_goal W f g' g h1.2 h
      omega
theorem calls_goal {p : Plan} (W : Well p) (f : Nat) {i : Nat} : ∀ {cs : List Nat} {g : Nat}, (∀ x ∈ cs, i < x ∧ x < p.length) → (tellCalls (tell p f) cs).2 = some g → i < g ∧ g < p.length
  | [], _, _, h => by simp [tellCalls] at h
  | x :: xs, g, hx, h => by
    cases hl : (tell p f x).2 with
    | none => rw [tellCalls_none hl] at h; exact calls_goal W f (fun y hy => hx y (by simp [hy])) h
    | some g'' =>
      rw [tellCalls_some hl] at h
      have h1 := hx x (by simp)
      have := tell_goal W f x g'' h1.2 hl
      simp only [Option.some.injEq] at h
      omega
theorem tell_more {p : Plan} (W : Well p) : ∀ (f i : Nat), p.length - i ≤ f → i < p.length → tell p f i = tell p (f + 1) i
  | 0, i, h, hi => by omega
  | f + 1, i, h, hi => by
    obtain ⟨l, hl⟩ : ∃ l, p[i]? = some l := ⟨_, List.getElem?_eq_getElem hi⟩
    have ih := fun c (h1 : i < c) (h2 : c < p.length) => tell_more W f c (by omega) h2
    have hc : tellCalls (tell p f) l.calls = tellCalls (tell p (f + 1)) l.calls := tellCalls_congr fun c hc => ih c (W.calls i l hl c hc).1 (W.calls i l hl c hc).2
    rw [tell_unf p f i l hl, tell_unf p (f + 1) i l hl, ← hc]
    cases hg : (tellCalls (tell p f) l.calls).2 with
    | none => simp
    | some g =>
      have h1 := calls_goal W f (W.calls i l hl) hg
      simp only [ih g h1.1 h1.2]
/-- what is told, in one word: the recursion's own equation -/
def say (p : Plan) (i : Nat) : List Nat × Option Nat := tell p 6 i
theorem say_eq {p : Plan} (W : Well p) {i : Nat} {l : Ln} (h : p[i]? = some l) : say p i = (i :: (match (tellCalls (say p) l.calls).2 with | none => (tellCalls (say p) l.calls).1 | some g => (tellCalls (say p) l.calls).1 ++ (say p g).1), match (tellCalls (say p) l.calls).2 with | none => l.goal | some g => (say p g).2) := by
  have hi : i < p.length := (List.getElem?_eq_some_iff.mp h).1
  have e : say p i = tell p 7 i := tell_more W 6 i (by have := W.many; omega) hi
  rw [e, tell_unf p 6 i l h]
  rfl
theorem say_goal {p : Plan} (W : Well p) {i g : Nat} (hi : i < p.length) (h : (say p i).2 = some g) : i < g ∧ g < p.length := tell_goal W 6 i g hi h
end Mine
end
open PySem PySem.W PyProof.Rows
-- IV
section
namespace Mine
section
variable {news : List (Addr × Obj)} {v : Value} {vs : List Value} {d d1 d2 : Dat} {ds : List Dat}
theorem dat_tup (h : DatIn news v (.tuple ds)) : ∃ a vs n, v = .ref a ∧ (a, ({ cls := .type "tuple", data := .seq (List.toArray vs) n } : Obj)) ∈ news ∧ DatAll news vs ds := by
  cases h with
  | tuple hm ha => exact ⟨_, _, _, rfl, hm, ha⟩
theorem dat_lst (h : DatIn news v (.list ds)) : ∃ a vs n, v = .ref a ∧ (a, listOf (List.toArray vs) n) ∈ news ∧ DatAll news vs ds := by
  cases h with
  | list hm ha => exact ⟨_, _, _, rfl, hm, ha⟩
theorem dat_int {i : Int} (h : DatIn news v (.int i)) : ∃ t, v = .int i t := by cases h; exact ⟨_, rfl⟩
theorem dat_str {x : Str} (h : DatIn news v (.str x)) : ∃ t, v = .str x t := by cases h; exact ⟨_, rfl⟩
theorem dat_none (h : DatIn news v .none) : v = .none := by cases h; rfl
theorem dat_nil (h : DatAll news vs []) : vs = [] := by cases h; rfl
theorem dat_cons (h : DatAll news vs (d :: ds)) : ∃ v ws, vs = v :: ws ∧ DatIn news v d ∧ DatAll news ws ds := by
  cases h with
  | cons h1 h2 => exact ⟨_, _, rfl, h1, h2⟩
theorem dat_two (h : DatIn news v (.tuple [d1, d2])) : ∃ a v1 v2 n, v = .ref a ∧ (a, ({ cls := .type "tuple", data := .seq [v1, v2].toArray n } : Obj)) ∈ news ∧ DatIn news v1 d1 ∧ DatIn news v2 d2 := by
  obtain ⟨a, vs, n, e, hm, ha⟩ := dat_tup h
  obtain ⟨v1, ws, rfl, h1, hb⟩ := dat_cons ha
  obtain ⟨v2, ws, rfl, h2, hc⟩ := dat_cons hb
  cases dat_nil hc
  exact ⟨a, v1, v2, n, e, hm, h1, h2⟩
theorem dat_ints : ∀ {cs : List Nat} {vs : List Value}, DatAll news vs (cs.map fun (c : Nat) => Dat.int (c : Int)) → IntsAre vs (cs.map fun (c : Nat) => (c : Int))
  | [], _, h => by cases dat_nil h; exact .nil
  | c :: cs, _, h => by
    obtain ⟨v, ws, rfl, h1, h2⟩ := dat_cons h
    obtain ⟨t, rfl⟩ := dat_int h1
    exact .cons _ _ (dat_ints h2)
end
end Mine
end
-- LB
section
namespace Mine
section
variable {prog : Program} {w : World} {A : Around} {E : Value → Shared → Prop} {s : Shared} {env : Env} {h₀ : Heap} {x : Str} {body : List Stmt} {Q : Flow → Shared → Prop}
theorem unrPost_mono {L I : Addr} {s₁ : Shared} {it : Obj} {R R' : (Str → Option Value) → List (Addr × Obj) → Prop} (k : ∀ m n, R m n → R' m n) {f : Flow} {s₂ : Shared} (h : UnrPost h₀ L s₁ I it R Q f s₂) : UnrPost h₀ L s₁ I it R' Q f s₂ := by
  have up : UnrEnd h₀ L s₁ I it R s₂ → UnrEnd h₀ L s₁ I it R' s₂ := by
    rintro ⟨h', tk, m', news', e, F, N, o, r⟩
    exact ⟨h', tk, m', news', e, F, N, o, k _ _ r⟩
  cases f with
  | ret v => exact h
  | brk => exact h
  | next => exact up h
  | cont => exact up h
theorem unrPostW_mono {L : Addr} {s₁ : Shared} {its : List (Addr × Obj)} {R R' : (Str → Option Value) → List (Addr × Obj) → Prop} (k : ∀ m n, R m n → R' m n) {f : Flow} {s₂ : Shared} (h : UnrPostW h₀ L s₁ its R Q f s₂) : UnrPostW h₀ L s₁ its R' Q f s₂ := by
  have up : UnrEndW h₀ L s₁ its R s₂ → UnrEndW h₀ L s₁ its R' s₂ := by
    rintro ⟨h', tk, m', news', e, F, N, o, r⟩
    exact ⟨h', tk, m', news', e, F, N, o, k _ _ r⟩
  cases f with
  | ret v => exact h
  | brk => exact h
  | next => exact up h
  | cont => exact up h
/-- a for over a list, by what holds of the items that are still to come -/
theorem list_ind {I : Addr} {lp : Addr × Obj} (J : List Value → (Str → Option Value) → List (Addr × Obj) → Prop)
    (zero : ∀ m news, J [] m news → ∀ h tk, Fr h₀ env.locals h m → News h₀ env.locals h news → Q .next { s with heap := h, toks := tk })
    (step : ∀ v r m news, J (v :: r) m news → ∀ (it : Obj) h tk, it.cls = .type "list_iterator" → Fr h₀ env.locals h (fun y => if y = x then some v else m y) → News h₀ env.locals h ((I, it) :: news) →
      wpAny (model prog w) A (execs body env) (UnrPost h₀ env.locals { s with heap := h, toks := tk } I it (fun m' n' => lp ∈ n' ∧ J r m' n') Q) E { s with heap := h, toks := tk }) :
    ∀ vs m news, J vs m news → ListRest prog w A E h₀ env x body Q s I lp vs m news := by
  intro vs
  induction vs with
  | nil => exact fun m news hJ => zero m news hJ
  | cons v r ih =>
    intro m news hJ it h tk hc F N
    exact wpAny_mono (step v r m news hJ it h tk hc F N) (fun f s₂ p => unrPost_mono (fun m n z => ⟨z.1, ih m n z.2⟩) p) fun _ _ e => e
theorem range_ind {I : Addr} {a : Int} {n : Nat} (J : Nat → Nat → (Str → Option Value) → List (Addr × Obj) → Prop)
    (zero : ∀ i m news, J 0 i m news → ∀ h tk, Fr h₀ env.locals h m → News h₀ env.locals h news → Q .next { s with heap := h, toks := tk })
    (step : ∀ k i m news, J (k + 1) i m news → ∀ t h tk, Fr h₀ env.locals h (fun y => if y = x then some (.int (a + (i : Int)) t) else m y) →
      News h₀ env.locals h ((I, itR (a + ((i + 1 : Nat) : Int)) ((n : Int) - ((i + 1 : Nat) : Int))) :: news) →
      wpAny (model prog w) A (execs body env) (UnrPost h₀ env.locals { s with heap := h, toks := tk } I (itR (a + ((i + 1 : Nat) : Int)) ((n : Int) - ((i + 1 : Nat) : Int))) (J k (i + 1)) Q) E { s with heap := h, toks := tk }) :
    ∀ k i m news, J k i m news → RangeRest prog w A E h₀ env x body Q s I a n k i m news := by
  intro k
  induction k with
  | zero => exact fun i m news hJ => zero i m news hJ
  | succ k ih =>
    intro i m news hJ t h tk F N
    exact wpAny_mono (step k i m news hJ t h tk F N) (fun f s₂ p => unrPost_mono (fun m n z => ih (i + 1) m n z) p) fun _ _ e => e
theorem items_ind {target : Expr} {ws : List (Addr × String)} {keep : List (Addr × Obj)} (J : List Itm → (Str → Option Value) → List (Addr × Obj) → Prop)
    (zero : ∀ m news, J [] m news → ∀ h tk, Fr h₀ env.locals h m → News h₀ env.locals h news → Q .next { s with heap := h, toks := tk })
    (step : ∀ a r m news, J (a :: r) m news → ∀ v h tk its, a.Is v h → Objs ws its → Fr h₀ env.locals h m → News h₀ env.locals h (its ++ news) →
      wpAny (model prog w) A (assign target env v) (fun _ s₂ => wpAny (model prog w) A (execs body env) (UnrPostW h₀ env.locals { s with heap := h, toks := tk } its (fun m' n' => SubL keep n' ∧ J r m' n') Q) E s₂) E { s with heap := h, toks := tk }) :
    ∀ vs m news, J vs m news → ItemsRest prog w A E h₀ env target body Q s ws keep vs m news := by
  have all_of : ∀ (ws : List (Addr × String)) (k : List (Addr × Obj) → Prop), (∀ its, Objs ws its → k its) → AllObj ws k := by
    intro ws
    induction ws with
    | nil => intro k h; exact AllObj.nil (h [] trivial)
    | cons w ws ih => intro k h; exact AllObj.cons fun o ho => ih _ fun its hi => h ((w.1, o) :: its) ⟨⟨rfl, ho⟩, hi⟩
  intro vs
  induction vs with
  | nil => exact fun m news hJ => zero m news hJ
  | cons v r ih =>
    intro m news hJ u h tk ha F
    refine all_of _ _ fun its hits N => ?_
    exact wpAny_mono (step v r m news hJ u h tk its ha hits F N) (fun _ s₂ p => wpAny_mono p (fun f s₃ p => unrPostW_mono (fun m n z => ⟨z.1, ih m n z.2⟩) p) fun _ _ e => e) fun _ _ e => e
theorem unr_end {L I : Addr} {it : Obj} {rest : (Str → Option Value) → List (Addr × Obj) → Prop} {s₁ : Shared} {h' : Heap} {tk : Nat} {m' : Str → Option Value} {all : List (Addr × Obj)} (F : Fr h₀ L h' m') (N : News h₀ L h' all) (news' : List (Addr × Obj))
    (hI : (I, it) ∈ all) (sub : ∀ p ∈ news', p ∈ all) (off : ∀ p ∈ news', p.1 ≠ I) (r : rest m' news') : UnrEnd h₀ L s₁ I it rest { s₁ with heap := h', toks := tk } :=
  UnrEnd.intro F N news' (fun p hp => (List.mem_cons.mp hp).elim (fun e => e ▸ hI) (sub p)) off r
theorem unrw_end {L : Addr} {its : List (Addr × Obj)} {rest : (Str → Option Value) → List (Addr × Obj) → Prop} {s₁ : Shared} {h' : Heap} {tk : Nat} {m' : Str → Option Value} {all : List (Addr × Obj)} (F : Fr h₀ L h' m') (N : News h₀ L h' all) (news' : List (Addr × Obj))
    (hI : ∀ p ∈ its, p ∈ all) (sub : ∀ p ∈ news', p ∈ all) (off : ∀ p ∈ news', ∀ q ∈ its, p.1 ≠ q.1) (r : rest m' news') : UnrEndW h₀ L s₁ its rest { s₁ with heap := h', toks := tk } :=
  ⟨h', tk, m', news', rfl, F, fun p hp => (List.mem_append.mp hp).elim (fun h => N p (hI p h)) fun h => N p (sub p h), off, r⟩
end
theorem objs_cons {a : Addr} {x : String} {ws : List (Addr × String)} : ∀ {its : List (Addr × Obj)}, Objs ((a, x) :: ws) its → ∃ (o : Obj) (r : List (Addr × Obj)), its = (a, o) :: r ∧ o.cls = .type x ∧ Objs ws r
  | [], h => by unfold Objs at h; exact h.elim
  | p :: r, h => by
    unfold Objs at h
    exact ⟨p.2, r, congrArg (· :: r) (Prod.ext h.1.1 rfl), h.1.2, h.2⟩
theorem objs_nil : ∀ {its : List (Addr × Obj)}, Objs [] its → its = []
  | [], _ => rfl
  | p :: r, h => by unfold Objs at h; exact h.elim
theorem objs1 {a : Addr} {x : String} {its : List (Addr × Obj)} (h : Objs [(a, x)] its) : ∃ o : Obj, its = [(a, o)] ∧ o.cls = .type x := by
  obtain ⟨o, r, rfl, hc, h⟩ := objs_cons h
  obtain rfl := objs_nil h
  exact ⟨o, rfl, hc⟩
theorem objs2 {a b : Addr} {x y : String} {its : List (Addr × Obj)} (h : Objs [(a, x), (b, y)] its) : ∃ o o' : Obj, its = [(a, o), (b, o')] ∧ o.cls = .type x ∧ o'.cls = .type y := by
  obtain ⟨o, r, rfl, hc, h⟩ := objs_cons h
  obtain ⟨o', rfl, hc'⟩ := objs1 h
  exact ⟨o, o', rfl, hc, hc'⟩
section
variable {prog : Program} {w : World} {A : Around} {h₀ : Heap} {L : Addr} {m : Str → Option Value} {env : Env}
theorem comp_ind {elt : Expr} {x : Str} {scope : Scope} {cl : List (Str × Addr)} {s : Shared} {S : List (Addr × Obj) → Prop} {P : Nat → Value → Prop} {Fin : List Value → List (Addr × Obj) → Prop}
    (J : Nat → Nat → List Value → List (Addr × Obj) → Prop)
    (zero : ∀ i ys news, J 0 i ys news → Fin ys news)
    (step : ∀ k i ys news, J (k + 1) i ys news → ∀ v I oI C oC D m₂ h tk (E' : Value → Shared → Prop), P i v → LCg.NsObj oC m₂ → m₂ x = some v → Fr h₀ L h m → News h₀ L h ((I, oI) :: (C, oC) :: (D, LCg.lst ys) :: news) → LCg.Off3 I C D news → ((@Ne Nat I C) ∧ (@Ne Nat I D) ∧ (@Ne Nat C D)) →
      wpAny (model prog w) A (eval elt (compEnvC scope cl C env)) (LCg.CompEnd h₀ L m { s with heap := h, toks := tk } I oI C oC D (LCg.lst ys) S (fun y news' => J k (i + 1) (ys ++ [y]) news')) E' { s with heap := h, toks := tk }) :
    ∀ k i ys news, J k i ys news → LCg.CompRest prog w A h₀ L m env elt x scope cl s S P Fin k i ys news := by
  intro k
  induction k with
  | zero => exact fun i ys news hJ => zero i ys news hJ
  | succ k ih =>
    intro i ys news hJ v I oI C oC D m₂ h tk E' a b c d e f g
    refine wpAny_mono (step k i ys news hJ v I oI C oC D m₂ h tk E' a b c d e f g) ?_ fun _ _ e => e
    rintro y s₂ ⟨h', tk, news', e, F, N, o, hS, r⟩
    exact ⟨h', tk, news', e, F, N, o, hS, ih _ _ _ r⟩
end
section
variable {prog : Program} {w : World} {A : Around} {E : Value → Shared → Prop} {s : Shared} {env : Env} {h₀ : Heap} {x : Str} {body : List Stmt} {Q : Flow → Shared → Prop}
def OutPost (Q : Flow → Shared → Prop) (f : Flow) (s₂ : Shared) : Prop :=
  match f with
  | .ret v => Q (.ret v) s₂
  | .brk => Q .next s₂
  | _ => False
/-- a downward range that is left in its first turn -/
theorem down_first {r : Addr} {a₀ b₀ : Int} {t₀ u₀ v₀ : Tok} {n : Nat} {m₀ : Str → Option Value} {news : List (Addr × Obj)}
    (hh : A.handled = none) (hr : IsRange s.heap r a₀ b₀ (-1) t₀ u₀ v₀) (hsmall : Builtin.Range.small a₀ b₀ (-1) = true) (hn : Builtin.Range.rangeSize a₀ b₀ (-1) = (n : Int)) (hpos : 0 < n) (F : Fr h₀ env.locals s.heap m₀) (N : News h₀ env.locals s.heap news)
    (turn : ∀ t h tk, Fr h₀ env.locals h (fun y => if y = x then some (.int a₀ t) else m₀ y) → News h₀ env.locals h news →
      wpAny (model prog w) A (execs body env) (OutPost Q) E { s with heap := h, toks := tk }) :
    wpAny (model prog w) A (pyIter (.ref r)) (fun it s₂ => LoopAtV prog w A h₀ env x body Q E it s₂) E s := by
  refine wpAny_pyIter_range hr hsmall ?_
  have W : Walks prog w A s.heap.objs.size [s.heap.objs.size] [s.heap.objs.size] n (fun i v => i < n ∧ ∃ t, v = .int (a₀ + i * (-1)) t)
      (fun i h => IsRangeIter h s.heap.objs.size (a₀ + (i : Nat) * (-1)) ((n : Int) - (i : Nat)) (-1)) := (Walks.range hh _ a₀ (-1) n).bound
  refine kdr_loop (fun i m nx => i = 0 ∧ m = m₀ ∧ nx = news) W (fun _ h => h) (fun _ h => h) ?_ ?_ ?_ ?_ (by show IsRangeIter _ _ _ _ _; rw [hn]; simpa using Heap.get?_push_size _ rfl) (F.push _) (fun p hp => ⟨Heap.get?_push_of_some _ (N p hp).1, (N p hp).2⟩) ⟨rfl, rfl, rfl⟩ ?_ ?_
  · intro i h hi b hb
    rw [List.mem_singleton.mp hb]
    exact ⟨_, hi⟩
  · intro hm
    exact absurd F.ns.lt ((List.mem_singleton.mp hm) ▸ Nat.lt_irrefl _)
  · intro b hb
    rw [List.mem_singleton.mp hb]
    exact next_is_new F
  · intro p hp hI
    exact absurd (Heap.lt_size (N p hp).1) ((List.mem_singleton.mp hI) ▸ Nat.lt_irrefl _)
  · rintro i v m₁ nx h tk own hi ⟨_, t, rfl⟩ hoff ⟨rfl, rfl, rfl⟩ F₁ N₁
    have e1 : a₀ + ((0 : Nat) : Int) * (-1) = a₀ := by omega
    rw [e1] at F₁
    refine wpAny_mono (turn t h tk F₁ fun p hp => N₁ p (List.mem_append.mpr (.inl hp))) (fun f s₂ p => ?_) fun _ _ e => e
    cases f with
    | ret v => exact p
    | brk => exact p
    | next => exact p.elim
    | cont => exact p.elim
  · rintro m₁ nx h tk ⟨h0, _⟩
    omega
end
theorem fr_same {h₀ h : Heap} {L : Addr} {x : Str} {v : Value} {m' mF : Str → Option Value} (F : Fr h₀ L h (fun y => if y = x then some v else m' y)) (hm : ∀ y, y ≠ x → m' y = mF y) : Fr h₀ L h (fun y => if y = x then some v else mF y) := by
  have e : (fun y => if y = x then some v else m' y) = (fun y => if y = x then some v else mF y) := by
    funext y
    by_cases h : y = x
    · simp [h]
    · simp [h, hm y h]
  rw [← e]; exact F
theorem fr_out {h₀ h : Heap} {L : Addr} {x : Str} {m' mF : Str → Option Value} (F : Fr h₀ L h m') (hm : ∀ y, y ≠ x → m' y = mF y) : Fr h₀ L h (fun y => if y = x then m' x else mF y) := by
  have e : m' = (fun y => if y = x then m' x else mF y) := by
    funext y
    by_cases h : y = x
    · simp [h]
    · simp [h, hm y h]
  rw [← e]; exact F
theorem newsRest {h₀ h : Heap} {L : Addr} {a b c : List (Addr × Obj)} (N : News h₀ L h (a ++ b)) (hs : ∀ p ∈ c, p ∈ b) : News h₀ L h (a ++ c) := fun p hp => N p (List.mem_append.mpr ((List.mem_append.mp hp).imp id (hs p)))
theorem newsSub {h₀ h : Heap} {L : Addr} {l l' : List (Addr × Obj)} (N : News h₀ L h l) (hs : ∀ p ∈ l', p ∈ l) : News h₀ L h l' := fun p hp => N p (hs p hp)
end Mine
end
-- LB2
section
namespace Mine
def rangeItems : Int → Nat → List Itm
  | _, 0 => []
  | a, n + 1 => .tok (fun t => .int a t) :: rangeItems (a + 1) n
theorem rangeItems_length : ∀ (a : Int) (n : Nat), (rangeItems a n).length = n
  | _, 0 => rfl
  | a, n + 1 => congrArg (· + 1) (rangeItems_length (a + 1) n)
theorem rangeItems_get : ∀ (n : Nat) (a : Int) (i : Nat), i < n → (rangeItems a n)[i]? = some (.tok fun t => .int (a + (i : Int)) t)
  | 0, _, _, h => absurd h (Nat.not_lt_zero _)
  | n + 1, a, 0, _ => by
    show some (Itm.tok fun t => .int a t) = _
    rw [show a + ((0 : Nat) : Int) = a by omega]
  | n + 1, a, i + 1, h => by
    show (rangeItems (a + 1) n)[i]? = _
    rw [rangeItems_get n (a + 1) i (Nat.lt_of_succ_lt_succ h), show a + 1 + (i : Int) = a + ((i + 1 : Nat) : Int) by omega]
section
variable {prog : Program} {w : World} {A : Around} {E : Value → Shared → Prop} {s : Shared} {env : Env} {h₀ : Heap} {x : Str} {px : Pos} {body : List Stmt} {Q : Flow → Shared → Prop}
/-- a range, the target any name (a cell too) -/
theorem iter_rangeTurns {r : Addr} {a₀ b₀ : Int} {t₀ u₀ v₀ : Tok} {n : Nat} {m₀ : Str → Option Value} {news : List (Addr × Obj)}
    (hh : A.handled = none) (hr : IsRange s.heap r a₀ b₀ 1 t₀ u₀ v₀) (hsmall : Builtin.Range.small a₀ b₀ 1 = true) (hn : Builtin.Range.rangeSize a₀ b₀ 1 = (n : Int)) (F : Fr h₀ env.locals s.heap m₀) (N : News h₀ env.locals s.heap news)
    (rest₀ : ∀ I : Addr, (∀ p ∈ news, p.1 < I) → ItemsRest prog w A E h₀ env (.Name x px) body Q s [(I, "range_iterator")] [] (rangeItems a₀ n) m₀ news) :
    wpAny (model prog w) A (pyIter (.ref r)) (fun it s₂ => TurnsAt prog w A h₀ env (.Name x px) body Q E it s₂) E s := by
  refine wpAny_pyIter_range hr hsmall ?_
  have W : Walks prog w A s.heap.objs.size [s.heap.objs.size] [s.heap.objs.size] n (fun i v => i < n ∧ ∃ t, v = .int (a₀ + i * 1) t)
      (fun i h => IsRangeIter h s.heap.objs.size (a₀ + (i : Nat) * 1) ((n : Int) - (i : Nat)) 1) := (Walks.range hh _ a₀ 1 n).bound
  refine ktu_core (tk0 := s.toks) (keep := []) (ws := [(s.heap.objs.size, "range_iterator")]) (KTurns.ofWalks W fun i v s Q E st q => wpAny_pure q) (rangeItems_length a₀ n).symm (fun i v h hp => ?_) (fun i h st => ⟨[(s.heap.objs.size, itR (a₀ + (i : Nat) * 1) ((n : Int) - (i : Nat)))], And.intro ⟨rfl, rfl⟩ trivial, fun p hp => by rw [List.mem_singleton.mp hp]; exact st⟩) (fun b hb => ?_) (fun b hb => by simpa using hb) (fun b hb => .inl (by simpa using hb)) ?_ (fun p hp hI => ?_) ?_ (F.push _) (fun p hp => ⟨Heap.get?_push_of_some _ (N p hp).1, (N p hp).2⟩) trivial (rest₀ _ fun p hp => Heap.lt_size (N p hp).1)
  · obtain ⟨hi, t, rfl⟩ := hp
    exact ⟨_, rangeItems_get n a₀ i hi, t, by rw [Int.mul_one]⟩
  · have hb' : b = s.heap.objs.size := by simpa using hb
    rw [hb']
    exact ⟨List.mem_cons_self .., next_is_new F⟩
  · intro hI
    exact absurd F.ns.lt ((List.mem_singleton.mp hI) ▸ Nat.lt_irrefl _)
  · exact absurd (Heap.lt_size (N p hp).1) ((List.mem_singleton.mp hI) ▸ Nat.lt_irrefl _)
  · show IsRangeIter _ _ _ _ _
    rw [hn]
    simpa using Heap.get?_push_size _ rfl
end
end Mine
end
-- E1
section
namespace Mine
/-- an own exception class stands at C -/
def ExcC (h : Heap) (C : Addr) : Prop := ∃ (nm qn : Str) (N : Addr) (bs bm : List Value) (hdct : Bool) (sn : List Str) (sub : List Value) (ab : Bool) (col : Option Bool) (dd : Option Addr) (k0 k1 k2 k3 k5 : Option Value) (newId : String),
  h.get? C = some (excClassObj nm qn C N bs bm hdct sn sub ab col dd k0 k1 k2 k3 k5 newId) ∧ bm.contains (.type "BaseException") = true
def OwnRaisable (C : Addr) (E : Value → Shared → Prop) (v : Value) (s₁ : Shared) : Prop :=
  ∃ a ob vs, v = .ref a ∧ s₁.heap.get? a = some ob ∧ ob.cls = .ref C ∧ ob.data = .fields vs ∧ vs[1]? = some .none ∧ ExcC s₁.heap C ∧ E (.ref a) s₁
section
variable {M : Model} {A : Around} {E : Value → Shared → Prop} {s : Shared} {env : Env}
theorem raise_own (C : Addr) {e : PySem.Expr} {pos : Pos} {Q : Flow → Shared → Prop} (hh : A.handled = none) (h : wpAny M A (eval e env) (OwnRaisable C E) E s) : wpAny M A (exec (.Raise (some e) none pos) env) Q E s := by
  show wpAny M A (do standAt pos; raiseStmt env (some (do let v ← eval e env; standAt pos; pure v)) none) Q E s
  refine wpAny_bind (wpAny_standAt ?_)
  unfold raiseStmt
  dsimp only
  refine wpAny_bind (wpAny_bind (wpAny_mono h (fun v s₁ h₁ => wpAny_bind (wpAny_standAt (wpAny_pure ?_))) fun _ _ x => x))
  obtain ⟨a, ob, vs, rfl, ha, hcls, hd, h1, ⟨nm, qn, N, bs, bm, hdct, sn, sub, ab, col, dd, k0, k1, k2, k3, k5, newId, hC, hbase⟩, hE⟩ := h₁
  obtain ⟨hp, g, d, tk, os⟩ := s₁
  have hcB : (Value.ref C :: bm).contains (.type "BaseException") = true := by rw [List.contains_cons, hbase, Bool.or_true]
  obtain ⟨c0, d0, dt0, sl0⟩ := ob
  dsimp only at hcls hd
  subst hcls hd
  have hf : wpAny M A (field (.ref a) 1) (fun v s' => v = .none ∧ s' = ⟨hp, g, d, tk, os⟩) E ⟨hp, g, d, tk, os⟩ := wpAny_field ha rfl h1 ⟨rfl, rfl⟩
  repeat (first | with_reducible refine wpAny_loadPart_at ha ?_ | with_reducible refine wpAny_loadPart_at hC ?_ | (with_reducible refine wpAny_isSubtype_exc hC ?_; rw [hcB]) | with_reducible refine wpAny_field ha rfl h1 ?_ | wp_step)
  exact wpAny_raiseNew_none hh hE
end
def excInI (K : Frag) (C Nn : Addr) (bm : List Value) (newId : String) (fI : Addr) : Bool := match K.lookup C with
  | some ⟨.type "type", _, .cls cd, sl⟩ => (match cd.mro, sl.toList with
    | .ref C' :: bm', [_, _, _, _, some (.builtin n), _] => C' == C && n == newId && !cd.hasDel && cd.ns == Nn && cd.hasDict && bm' == bm && nsOkIn K cd.ns && nsIn K cd.ns "__init__" == some (some (.ref fI))
    | _, _ => false)
  | _ => false
theorem ns_some_of {K : Frag} {h : Heap} {N : Addr} {mg : Str → Option Value} {n : Str} {v : Value} (X : K.In h) (G : h.Ns N mg) (e : nsIn K N n = some (some v)) : mg n = some v := by
  obtain ⟨o, es, ep, ho, hd, _, hf⟩ := G
  unfold nsIn at e
  split at e
  · rename_i c d es' n' sl q
    have := X _ _ q
    rw [ho] at this
    cases this
    cases hd
    split at e
    · rename_i he
      cases e
      rw [← hf]
      unfold nsFind findBy
      rw [← Array.find?_toList, he]
      rfl
    · split at e <;> cases e
  · cases e
theorem exc_of_in {K : Frag} {h : Heap} {C Nn fI : Addr} {bm : List Value} {newId : String} (X : K.In h) (q : excInI K C Nn bm newId fI = true) : ∃ (nm qn : Str) (bs : List Value) (sn : List Str) (sub : List Value) (ab : Bool) (col : Option Bool) (dd : Option Addr) (k0 k1 k2 k3 k5 : Option Value) (mN : Str → Option Value),
    h.get? C = some (excClassObj nm qn C Nn bs bm true sn sub ab col dd k0 k1 k2 k3 k5 newId) ∧ h.Ns Nn mN ∧ mN "__init__" = some (.ref fI) ∧ ∀ n, nsIn K Nn n = some none → mN n = none := by
  unfold excInI at q
  split at q
  · rename_i dd cd sl ho
    split at q
    · rename_i C' bm' k0 k1 k2 k3 n k5 hm hs
      simp only [Bool.and_eq_true, beq_iff_eq, Bool.not_eq_true'] at q
      obtain ⟨⟨⟨⟨⟨⟨⟨rfl, rfl⟩, hdel⟩, hns⟩, hdc⟩, rfl⟩, hok⟩, hni⟩ := q
      obtain ⟨nm, bs, mro, ns, qn, hd, sn, sub, ab, col, del⟩ := cd
      dsimp only at hm hdel hok hni hns hdc
      subst hm hdel hns hdc
      have hsl : sl = #[k0, k1, k2, k3, some (.builtin n), k5] := by
        obtain ⟨l⟩ := sl
        simp only at hs
        rw [hs]
      subst hsl
      have G : h.Ns ns (h.nsMap ns) := .of_isNs (isNs_of_in X hok)
      exact ⟨nm, qn, bs, sn, sub, ab, col, dd, k0, k1, k2, k3, k5, _, X _ _ ho, G, ns_some_of X G hni, fun n e => ns_none_of X G e⟩
    · cases q
  · cases q
/-- an exception as it is made: its arguments at t -/
abbrev excObj (C t : Addr) (d : Option Addr) : Obj := { cls := .ref C, dict := d, data := .fields #[.ref t, .none, .none, .none, .bool false, .none] }
abbrev tupObj (vs : List Value) : Obj := { cls := .type "tuple", data := .seq vs.toArray }
section
variable {prog : Program} {w : World} {A : Around} {E : Value → Shared → Prop} {s : Shared} {K : Frag} {h₀ : Heap} {L : Addr} {m : Str → Option Value} {news : List (Addr × Obj)}
theorem made_news {h h' : Heap} {e C : Addr} {rest : List Value} (F : Fr h₀ L h m) (N : News h₀ L h news) (M : Heap.MadeExcOf h h' e (.ref C) rest) :
    ∃ t, Fr h₀ L h' m ∧ News h₀ L h' ((e, excObj C t none) :: (t, tupObj rest) :: news) ∧ (∀ p ∈ news, p.1 ≠ e) ∧ (∀ p ∈ news, p.1 ≠ t) ∧ e ≠ t := by
  obtain ⟨t, he, htn, ht⟩ := M.there
  obtain ⟨oL, es, ep, hL, r⟩ := F.ns
  have fresh : ∀ a, h.get? a = none → h₀.get? a = none := fun a ha => by
    cases q : h₀.get? a with
    | none => rfl
    | some o => have := F.keep a o q; rw [ha] at this; cases this
  have neL : ∀ a, h.get? a = none → a ≠ L := fun a ha e => by rw [e, hL] at ha; cases ha
  have neN : ∀ a, h.get? a = none → ∀ p ∈ news, p.1 ≠ a := fun a ha p hp e => by have := (N p hp).1; rw [e, ha] at this; cases this
  refine ⟨t, ⟨⟨oL, es, ep, M.keeps _ _ hL, r⟩, fun b o e => M.keeps b o (F.keep b o e), F.above⟩, fun p hp => ?_, neN e M.new, neN t htn, fun q => ?_⟩
  · rcases List.mem_cons.mp hp with rfl | hp
    · exact ⟨he, neL _ M.new, fresh _ M.new⟩
    · rcases List.mem_cons.mp hp with rfl | hp
      · exact ⟨ht, neL _ htn, fresh _ htn⟩
      · exact ⟨M.keeps _ _ (N p hp).1, (N p hp).2⟩
  · rw [q, ht] at he; cases he
theorem inst_exc {h : Heap} {e C t : Addr} (N : News h₀ L h news) (hm : (e, excObj C t none) ∈ news) : InstAt h e (excObj C t none) C none := ⟨(N _ hm).1, rfl, rfl, trivial⟩
theorem inst_excD {h : Heap} {e C t d : Addr} {od : Obj} (N : News h₀ L h news) (hm : (e, excObj C t (some d)) ∈ news) (hd : (d, od) ∈ news) : InstAt h e (excObj C t (some d)) C (some od) := ⟨(N _ hm).1, rfl, rfl, (N _ hd).1⟩
theorem mk_own {C Nn fI : Addr} {rest : List Value} {B newId initId : String} {bm : List Value} {Q : Value → Shared → Prop} (FB : ExcBaseFacts B newId initId bm) (F : Fr h₀ L s.heap m) (X₀ : K.In h₀) (N : News h₀ L s.heap news) (hx : excInI K C Nn bm newId fI = true) (hf : typeIn K (.ref fI) = some (.type "function")) (hlen : rest.length ≤ sizeLine)
    (h : ∀ e t h', Fr h₀ L h' m → News h₀ L h' ((e, excObj C t none) :: (t, tupObj rest) :: news) → (∀ p ∈ news, p.1 ≠ e) → (∀ p ∈ news, p.1 ≠ t) → e ≠ t →
      wpAny (model prog w) (A.under (.builtin "type.__call__" ⟨.ref C :: rest, []⟩)) (call (.ref fI) (.ref e :: rest)) (fun r s' => r = .none ∧ Q (.ref e) s') E { s with heap := h' }) :
    wpAny (model prog w) A (call (.ref C) rest) Q E s := by
  have X : K.In s.heap := X₀.keeps F.keep
  obtain ⟨nm, qn, bs, sn, sub, ab, col, dd, k0, k1, k2, k3, k5, mN, hC, hN, hi, _⟩ := exc_of_in X hx
  obtain ⟨of, hof, hofc⟩ : ∃ of, s.heap.get? fI = some of ∧ of.cls = .type "function" := by
    have ht' : (K.lookup fI).map (·.cls) = some (.type "function") := hf
    cases z : K.lookup fI with
    | none => rw [z] at ht'; cases ht'
    | some of => rw [z] at ht'; exact ⟨of, X _ _ z, Option.some.inj ht'⟩
  obtain ⟨hh, g, d, t, os⟩ := s
  refine wpAny_call_exc_init (hrest := hlen) FB hC hN hi hof hofc fun h' e M => ?_
  obtain ⟨t', F', N'', n1, n2, n3⟩ := made_news F N M
  exact h e t' h' F' N'' n1 n2 n3
end
end Mine
end
-- E2
section
namespace Mine
/-- a dict of names -/
def NsIs (o : Obj) (mA : Str → Option Value) : Prop := ∃ es ep, o.data = .dict es ep ∧ StrKeys es ∧ UniqKeys es ∧ ∀ name, nsFind es name = mA name
theorem NsIs.at {o : Obj} {mA : Str → Option Value} {h : Heap} {d : Addr} (x : NsIs o mA) (e : h.get? d = some o) : h.Ns1 d mA := let ⟨es, ep, r⟩ := x; ⟨o, es, ep, e, r⟩
theorem NsIs.of {mA : Str → Option Value} {h : Heap} {d : Addr} (x : h.Ns1 d mA) : ∃ o, h.get? d = some o ∧ NsIs o mA := let ⟨o, es, ep, e, r⟩ := x; ⟨o, e, es, ep, r⟩
section
variable {prog : Program} {w : World} {A : Around} {E : Value → Shared → Prop} {h : Heap} {g : Array GenState} {d : Drawn} {t : Nat} {os : OsState}
variable {nm q : Str} {C N x : Addr} {bs bm : List Value} {sn : List Str} {sub : List Value} {ab : Bool} {col : Option Bool} {dd : Option Addr} {k0 k1 k2 k3 k5 : Option Value} {B newId sa owner : String}
  {mN mA : Str → Option Value} {name : Str} {v : Value} {tt : Addr}
/-- the first attribute of a new exception: its dict is made -/
theorem first_entry {tk : Tok} {Q : Fin → Shared → Prop} (SF : StoreFacts B bm sa owner)
    (hC : h.get? C = some (excClassObj nm q C N bs bm true sn sub ab col dd k0 k1 k2 k3 k5 newId)) (hn : h.Ns N mN) (hna : mN name = none)
    (hB : typeLookup (.type B) name = pure none) (hx : h.get? x = some (excObj C tt none))
    (hq : ∀ h' od, h'.get? h.objs.size = some od → NsIs od (fun y => if y = name then some v else none) → h'.get? x = some (excObj C tt (some h.objs.size)) → (∀ b o, b ≠ x → h.get? b = some o → h'.get? b = some o) → Q (.done (.ret .none)) ⟨h', g, d, t + 1, os⟩) :
    wpAny (model prog w) A (Builtin.«object.__setattr__» ⟨[.ref x, .str name tk, v], []⟩) Q E ⟨h, g, d, t, os⟩ := by
  have hpass := SF.passes (.ref x)
  have hx₁ : (h.push { cls := .type "dict", data := .dict #[] }).get? x = some (excObj C tt none) := Heap.get?_push_of_some _ hx
  have hxs : x ≠ h.objs.size := Nat.ne_of_lt (Heap.lt_size hx)
  have hgd : ((h.push { cls := .type "dict", data := .dict #[] }).update x fun o => { cls := o.cls, dict := some h.objs.size, data := o.data, slots := o.slots }).get? h.objs.size = some { cls := .type "dict", data := .dict #[] } :=
    (Heap.get?_update_ne _ _ _ _ hxs.symm).trans (Heap.get?_push_at rfl rfl)
  have hnd : ((h.push { cls := .type "dict", data := .dict #[] }).update x fun o => { cls := o.cls, dict := some h.objs.size, data := o.data, slots := o.slots }).Ns h.objs.size (fun _ => none) :=
    ⟨_, #[], _, hgd, rfl, fun e he => absurd he (by simp), fun _ => rfl⟩
  have hxx : ((h.push { cls := .type "dict", data := .dict #[] }).update x fun o => { cls := o.cls, dict := some h.objs.size, data := o.data, slots := o.slots }).get? x = some (excObj C tt (some h.objs.size)) := Heap.get?_update_self _ hx₁ rfl
  have hkk : ∀ b o, b ≠ x → h.get? b = some o → ((h.push { cls := .type "dict", data := .dict #[] }).update x fun o => { cls := o.cls, dict := some h.objs.size, data := o.data, slots := o.slots }).get? b = some o := fun b o hb e => (Heap.get?_update_ne _ _ _ _ hb).trans (Heap.get?_push_of_some _ e)
  unfold Builtin.«object.__setattr__»
  generalize hH : ((h.push { cls := .type "dict", data := .dict #[] }).update x fun o => { cls := o.cls, dict := some h.objs.size, data := o.data, slots := o.slots }) = H at hgd hnd hxx hkk
  repeat (first | rw [refuse_eq] | (rw [refuseLoop_ref, hpass]) | with_reducible refine wpAny_loadPart_at hx ?_ | with_reducible refine wpAny_mroOf_exc hC ?_ | (with_reducible refine wpAny_typeLookup_exc hC hn SF.mro hB ?_; rw [hna]) | rw [hH] | with_reducible refine wpAny_nsSet1 (Heap.Ns1.of_empty hnd) (fun h' hn' hs => ?_) | wp_step)
  obtain ⟨oD, esD, epD, hoD, hdD, hcD⟩ := hn'.count (Within.cons name v Within.nil)
  obtain ⟨od, hod, hns⟩ := NsIs.of hn'
  refine wpAny_loadPart hoD ?_
  rw [hdD, pastItsLine_dict (Nat.le_trans hcD (by rw [List.length_cons, List.length_nil, sizeLine_eq]; omega))]
  wp_walk
  exact hq h' od hod hns ((hs.2 x hxs).trans hxx) (fun b o hb e => (hs.2 b (Nat.ne_of_lt (Heap.lt_size e))).trans (hkk b o hb e))
theorem first_attr {Q : Unit → Shared → Prop} (SF : StoreFacts B bm sa owner)
    (hC : h.get? C = some (excClassObj nm q C N bs bm true sn sub ab col dd k0 k1 k2 k3 k5 newId)) (hn : h.Ns N mN) (hns : mN "__setattr__" = none) (hna : mN name = none)
    (hB : typeLookup (.type B) name = pure none) (hx : h.get? x = some (excObj C tt none))
    (hq : ∀ h' od, h'.get? h.objs.size = some od → NsIs od (fun y => if y = name then some v else none) → h'.get? x = some (excObj C tt (some h.objs.size)) → (∀ b o, b ≠ x → h.get? b = some o → h'.get? b = some o) → Q () ⟨h', g, d, t + 1 + 1, os⟩) :
    wpAny (model prog w) A (setAttr (.ref x) name v) Q E ⟨h, g, d, t, os⟩ := by
  have f3 := SF.slot.bind (.ref x)
  unfold setAttr callSpecial? specialOf
  repeat (any_goals (first | assumption | with_reducible refine wpAny_loadPart_at hx ?_ | (with_reducible refine wpAny_typeLookup_exc hC hn SF.mro SF.slot.lookup ?_; rw [hns]) | wp_step))
  refine codeAny_call_builtin SF.slot.plain SF.entry (wpAny_check_sa SF hC hx rfl (first_entry SF hC hn hna hB hx fun h' od a b c e => ?_))
  repeat (any_goals (first | assumption | wp_step))
  exact hq h' od a b c e
end
section
variable {prog : Program} {w : World} {A : Around} {E : Value → Shared → Prop} {s : Shared} {K : Frag} {h₀ : Heap} {L : Addr} {m : Str → Option Value} {news : List (Addr × Obj)} {e C Nn fI tt d : Addr} {bm : List Value} {B newId sa owner : String} {name : Str} {v : Value}
theorem set1 {Q : Unit → Shared → Prop} (SF : StoreFacts B bm sa owner) (F : Fr h₀ L s.heap m) (X₀ : K.In h₀) (N : News h₀ L s.heap ((e, excObj C tt none) :: news)) (hne : ∀ p ∈ news, p.1 ≠ e) (hx : excInI K C Nn bm newId fI = true)
    (hs : nsIn K Nn "__setattr__" = some none) (hna : nsIn K Nn name = some none) (hB : typeLookup (.type B) name = pure none)
    (h : ∀ d od h', Fr h₀ L h' m → News h₀ L h' ((e, excObj C tt (some d)) :: (d, od) :: news) → NsIs od (fun y => if y = name then some v else none) → (∀ p ∈ news, p.1 ≠ d) → d ≠ e → Q () { s with heap := h', toks := s.toks + 1 + 1 }) :
    wpAny (model prog w) A (setAttr (.ref e) name v) Q E s := by
  have X : K.In s.heap := X₀.keeps F.keep
  obtain ⟨nm, qn, bs, sn, sub, ab, col, dd, k0, k1, k2, k3, k5, mN, hC, hN, hi, hno⟩ := exc_of_in X hx
  have he := N _ List.mem_cons_self
  obtain ⟨oL, es, ep, hL, r⟩ := F.ns
  obtain ⟨hh, g, dr, t, os⟩ := s
  refine first_attr SF hC hN (hno _ hs) (hno _ hna) hB he.1 fun h' od hod hns hx' hk => ?_
  have hlt : ∀ b o, hh.get? b = some o → b ≠ hh.objs.size := fun b o e => Nat.ne_of_lt (Heap.lt_size e)
  have hfr : h₀.get? hh.objs.size = none := by
    cases q : h₀.get? hh.objs.size with
    | none => rfl
    | some o => exact absurd (Heap.lt_size (F.keep _ _ q)) (Nat.lt_irrefl _)
  refine h hh.objs.size od h' ⟨⟨oL, es, ep, hk _ _ (fun z => he.2.1 z.symm) hL, r⟩, fun b o e' => hk b o (fun z => ?_) (F.keep b o e'), F.above⟩ (fun p hp => ?_) hns (fun p hp => hlt _ _ (N p (List.mem_cons_of_mem _ hp)).1) (Ne.symm (hlt _ _ he.1))
  · have := he.2.2; rw [← z, e'] at this; cases this
  · rcases List.mem_cons.mp hp with rfl | hp
    · exact ⟨hx', he.2⟩
    · rcases List.mem_cons.mp hp with rfl | hp
      · exact ⟨hod, Ne.symm (hlt _ _ hL), hfr⟩
      · have z := N p (List.mem_cons_of_mem _ hp)
        exact ⟨hk _ _ (hne p hp) z.1, z.2⟩
theorem set2 {Q : Unit → Shared → Prop} {od : Obj} {mA : Str → Option Value} {ns : List Str} (SF : StoreFacts B bm sa owner) (F : Fr h₀ L s.heap m) (X₀ : K.In h₀) (N : News h₀ L s.heap ((e, excObj C tt (some d)) :: (d, od) :: news)) (hne : ∀ p ∈ news, p.1 ≠ e) (hnd : ∀ p ∈ news, p.1 ≠ d) (hde : d ≠ e) (hod : NsIs od mA) (hx : excInI K C Nn bm newId fI = true)
    (hs : nsIn K Nn "__setattr__" = some none) (hna : nsIn K Nn name = some none) (hB : typeLookup (.type B) name = pure none) (hw : Within mA ns) (hsz : ns.length ≤ sizeLine)
    (h : ∀ od' h' tk', Fr h₀ L h' m → News h₀ L h' ((e, excObj C tt (some d)) :: (d, od') :: news) → NsIs od' (fun y => if y = name then some v else mA y) → Q () { s with heap := h', toks := tk' }) :
    wpAny (model prog w) A (setAttr (.ref e) name v) Q E s := by
  have X : K.In s.heap := X₀.keeps F.keep
  obtain ⟨nm, qn, bs, sn, sub, ab, col, dd, k0, k1, k2, k3, k5, mN, hC, hN, hi, hno⟩ := exc_of_in X hx
  have he := N _ List.mem_cons_self
  have hd := N _ (List.mem_cons_of_mem _ List.mem_cons_self)
  obtain ⟨oL, es, ep, hL, r⟩ := F.ns
  obtain ⟨hh, g, dr, t, os⟩ := s
  have heC : e ≠ C := fun z => by have := he.1; rw [z, hC] at this; cases this
  refine store_attr SF hC hN (hno _ hs) (hno _ hna) hB heC ⟨_, he.1, rfl, fun c z => (by cases z), .inr ⟨d, rfl, hde, hod.at hd.1⟩⟩ (fun h' tk' I hk hsame => ?_) hw hsz
  obtain ⟨o₁, ho₁, hc₁, hd₁, hs₁, hdd₁⟩ := hsame _ he.1
  have e₁ : o₁ = excObj C tt (some d) := by
    obtain ⟨a1, a2, a3, a4⟩ := o₁
    have z := hdd₁ d rfl
    dsimp only at hc₁ hd₁ hs₁ z
    subst hc₁ hd₁ hs₁ z
    rfl
  subst e₁
  obtain ⟨o₂, ho₂, -, -, hI⟩ := I
  rw [ho₁] at ho₂
  obtain rfl := Option.some.inj ho₂
  obtain ⟨od', hod', hns'⟩ : ∃ od', h'.get? d = some od' ∧ NsIs od' (fun y => if y = name then some v else mA y) := by
    rcases hI with ⟨z, _⟩ | ⟨d', z, _, hn'⟩
    · cases z
    · cases z
      exact NsIs.of hn'
  have keep : ∀ b o, b ≠ e → b ≠ d → hh.get? b = some o → h'.get? b = some o := fun b o h1 h2 q => hk b o h1 (fun o₀ dx q1 q2 => by rw [he.1] at q1; cases q1; cases q2; exact h2) q
  refine h od' h' tk' ⟨⟨oL, es, ep, keep _ _ (fun z => he.2.1 z.symm) (fun z => hd.2.1 z.symm) hL, r⟩, fun b o q => keep b o (fun z => ?_) (fun z => ?_) (F.keep b o q), F.above⟩ (fun p hp => ?_) hns'
  · have := he.2.2; rw [← z, q] at this; cases this
  · have := hd.2.2; rw [← z, q] at this; cases this
  · rcases List.mem_cons.mp hp with rfl | hp
    · exact ⟨ho₁, he.2⟩
    · rcases List.mem_cons.mp hp with rfl | hp
      · exact ⟨hod', hd.2⟩
      · have z := N p (List.mem_cons_of_mem _ (List.mem_cons_of_mem _ hp))
        exact ⟨keep _ _ (hne p hp) (hnd p hp) z.1, z.2⟩
end
end Mine
end
-- E3
section
open PySem.Calls
namespace Mine
abbrev boundObj (x : Addr) : Obj := { cls := .type "method-wrapper", data := .fields #[.builtin "Exception.__init__", .ref x] }
theorem slot_wget : Slot "wrapper_descriptor" "__get__" "wrapper_descriptor.__get__" :=
  .of (owner := "wrapper_descriptor") (n := "__get__") (by rw [typeLookup_type, builtinLookup_eq_fast]; kernel_rfl) (by decide +kernel) (by decide +kernel) (by decide +kernel)
    (by first | exact .inl (by decide +kernel) | exact .inr (by decide +kernel)) (by rw [isSubtype_type]; kernel_rfl)
theorem entry_wget : entryFor table "wrapper_descriptor.__get__" = some Builtin.«wrapper_descriptor.__get__» := entryFor_of_tree (by kernel_rfl)
theorem args_wget (a b c : Value) : argsOk "wrapper_descriptor.__get__" ⟨[a, b, c], []⟩ := by unfold argsOk; kernel_rfl
theorem type_einit : typeOf (.builtin "Exception.__init__") = pure (.type "wrapper_descriptor") := by show builtinType _ = _; rw [builtinType_eq_fast]; kernel_rfl
theorem owner_einit : (kfb_private% "ownerAndName") "Exception.__init__" = ("Exception", "__init__") := by first | decide +kernel | kernel_rfl
section
variable {prog : Program} {w : World} {M : Model} {A : Around} {E : Value → Shared → Prop} {h : Heap} {g : Array GenState} {d : Drawn} {t : Nat} {os : OsState}
theorem run_wget {x C : Addr} {ox : Obj} {P : Fin → Shared → Prop} (hx : h.get? x = some ox) (hc : ox.cls = .ref C) (hsub : Looks M h (isSubtype (.ref C) (.type "Exception")) true)
    (hq : P (.done (.ret (.ref h.objs.size))) ⟨h.push (boundObj x), g, d, t, os⟩) :
    wpAny M A (Builtin.«wrapper_descriptor.__get__» ⟨[.builtin "Exception.__init__", .ref x, .ref C], []⟩) P E ⟨h, g, d, t, os⟩ := by
  unfold Builtin.«wrapper_descriptor.__get__»
  refine wpAny_bind (wpAny_of_eq (a := (.builtin "Exception.__init__", some (.ref x), some (.ref C))) (by first | rfl | kernel_rfl) ?_)
  have hk : ∀ {Q' : Bool → Shared → Prop}, Q' true ⟨h, g, d, t, os⟩ → wpAny M A (isInstance (.ref x) (.type "Exception")) Q' E ⟨h, g, d, t, os⟩ := by
    intro Q' hq'
    unfold isInstance
    refine wpAny_bind ((show Looks M h (typeOf (.ref x)) (.ref C) from hc ▸ (Looks.ld hx).andThen .now).at ?_)
    exact hsub.at hq'
  show wpAny M A ((kfb_private% "checkInstance") (.builtin "Exception.__init__") (.ref x) >>= fun _ => newFields "method-wrapper" [.builtin "Exception.__init__", .ref x] >>= fun v => ret v) P E _
  refine wpAny_bind ?_
  show wpAny M A ((kfb_private% "nameAndClass") (.builtin "Exception.__init__") >>= fun nc => isInstance (.ref x) nc.2 >>= fun b => if (!b) = true then _ else pure ()) _ E _
  refine wpAny_bind (wpAny_of_eq (a := (("__init__" : Str), Value.type "Exception")) (by first | rfl | kernel_rfl) ?_)
  refine wpAny_bind (hk ?_)
  refine KFB.if_not rfl (wpAny_pure ?_)
  exact wpAny_bind (wpAny_newObj_type (wpAny_pure hq))
theorem super_ga {so D x C : Addr} {ox : Obj} {l₀ l : List Value} {K : Frag} {tk : Tok} {Q : Fin → Shared → Prop}
    (hso : h.get? so = some (ks_superObj D x C)) (hno : Looks (model prog w) h (opaqueClassAbove (.ref C)) none)
    (hC : Looks (model prog w) h (mroOf (.ref C)) l₀) (hl : (l₀.dropWhile (· != .ref D)).drop 1 = l) (X : K.In h)
    (hf : alongIn K "__init__" l = some (some (.builtin "Exception.__init__"))) (hx : h.get? x = some ox) (hc : ox.cls = .ref C) (hsub : Looks (model prog w) h (isSubtype (.ref C) (.type "Exception")) true) (hxC : x ≠ C)
    (hq : Q (.done (.ret (.ref h.objs.size))) ⟨h.push (boundObj x), g, d, t, os⟩) :
    wpAny (model prog w) A (Builtin.«super.__getattribute__» ⟨[.ref so, .str "__init__" tk], []⟩) Q E ⟨h, g, d, t, os⟩ := by
  have hlk := slot_wget.lookup
  have hne : (Value.ref x == Value.ref C) = false := by simp [hxC]
  have hTf : (⟨h, g, d, t, os⟩ : Shared).TypeIs (.builtin "Exception.__init__") "wrapper_descriptor" := type_einit
  have hdt : (ks_superObj D x C).data = .fields #[.ref D, .ref x, .ref C] := rfl
  have f0 : (#[.ref D, .ref x, .ref C] : Array Value)[0]? = some (.ref D) := rfl
  have f1 : (#[.ref D, .ref x, .ref C] : Array Value)[1]? = some (.ref x) := rfl
  have f2 : (#[.ref D, .ref x, .ref C] : Array Value)[2]? = some (.ref C) := rfl
  have hn : (("__init__" : Str) == ("__class__" : Str)) = false := by decide
  unfold Builtin.«super.__getattribute__»
  repeat (first
    | (with_reducible refine wpAny_field hso hdt f0 ?_) | (with_reducible refine wpAny_field hso hdt f1 ?_) | (with_reducible refine wpAny_field hso hdt f2 ?_)
    | (with_reducible refine ks_wpAny_notOpaque hno ?_)
    | (with_reducible refine Looks.at hC ?_; rw [hl])
    | (refine ks_forIn_along X (fun _ _ => rfl) rfl ?_ hf)
    | (with_reducible refine wpAny_typeOf hTf ?_)
    | (with_reducible refine wpAny_call_entry slot_wget hTf entry_wget ?_ (args_wget _ _ _))
    | (with_reducible refine run_wget hx hc hsub ?_)
    | (with_reducible refine ⟨_, rfl, ?_⟩)
    | (simp only [hn, hne, Bool.or_false, Bool.false_eq_true, if_false])
    | wp_step
    | dsimp only)
  all_goals exact hq
theorem getMethod_super {so D x C : Addr} {ox : Obj} {l₀ l : List Value} {K : Frag} {pl : Sem Bool} {Q : Value × List Value → Shared → Prop}
    (hso : h.get? so = some (ks_superObj D x C)) (hno : Looks (model prog w) h (opaqueClassAbove (.ref C)) none)
    (hC : Looks (model prog w) h (mroOf (.ref C)) l₀) (hl : (l₀.dropWhile (· != .ref D)).drop 1 = l) (X : K.In h)
    (hf : alongIn K "__init__" l = some (some (.builtin "Exception.__init__"))) (hx : h.get? x = some ox) (hc : ox.cls = .ref C) (hsub : Looks (model prog w) h (isSubtype (.ref C) (.type "Exception")) true) (hxC : x ≠ C)
    (hq : Q (.ref h.objs.size, []) ⟨h.push (boundObj x), g, d, t + 1, os⟩) :
    wpAny (model prog w) A (getMethod (.ref so) "__init__" pl) Q E ⟨h, g, d, t, os⟩ := by
  have hlk := F.ks_slot_super_ga.lookup
  have hcan := F.ks_canon_super_ga
  have hT : ∀ t', (⟨h, g, d, t', os⟩ : Shared).TypeIs (.ref so) "super" := fun _ => ⟨_, hso, rfl⟩
  unfold getMethod
  refine wpAny_bind (wpAny_specialOf (hT _) hlk ?_)
  show wpAny _ _ (if (Manifest.canonical "super.__getattribute__" != "object.__getattribute__") = true then _ else _) _ _ _
  rw [if_pos hcan]
  unfold getAttr getAttrBy
  refine wpAny_bind (wpAny_bind (wpAny_mkText (wpAny_holding (wpAny_bind (wpAny_typeOf (hT _) (wpAny_bind (wpAny_of_eq hlk ?_)))))))
  show wpAny _ _ (getAttrByItsOwn (.ref so) (.str "__init__" t) (.type "super") (.builtin "super.__getattribute__") true false) _ _ _
  unfold getAttrByItsOwn hookBefore callGetattribute boundAndCalled
  refine wpAny_bind (wpAny_of_eq (show (if onTheHeap (.type "super") then typeLookup (.type "super") "__getattr__" else pure none) = pure none from rfl) ?_)
  refine wpAny_bind (wpAny_attempt (wpAny_holding ?_))
  show wpAny _ _ (bindSpecial (.builtin "super.__getattribute__") (.ref so) >>= _) _ _ _
  refine wpAny_bind (wpAny_of_eq (F.ks_slot_super_ga.bind _) ?_)
  refine wpAny_mono (Q := fun v s' => v = .ref h.objs.size ∧ s' = ⟨h.push (boundObj x), g, d, t + 1, os⟩) (E := fun _ _ => False)
    (wpAny_call_entry F.ks_slot_super_ga (hT _) F.ks_entry_super_ga (super_ga hso hno hC hl X hf hx hc hsub hxC ⟨_, rfl, rfl, rfl⟩) (F.ks_gaArgs_super _ _)) (fun v s' hv => ?_) fun _ _ z => z.elim
  obtain ⟨rfl, rfl⟩ := hv
  exact wpAny_pure (wpAny_pure hq)
theorem check_einit {C N : Addr} {nm qn : Str} {bs bm : List Value} {hdct : Bool} {sn : List Str} {sub : List Value} {ab : Bool} {col : Option Bool} {dd : Option Addr} {k0 k1 k2 k3 k5 : Option Value} {newId : String} (FB : ExcBaseFacts "Exception" newId "Exception.__init__" bm) {e : Addr} {oe : Obj} {rest : List Value} {Q : Unit → Shared → Prop}
    (hC : h.get? C = some (excClassObj nm qn C N bs bm hdct sn sub ab col dd k0 k1 k2 k3 k5 newId)) (he : h.get? e = some oe) (hcls : oe.cls = .ref C) (hq : Q () ⟨h, g, d, t, os⟩) :
    wpAny M A (checkBoundCall "Exception.__init__" ⟨.ref e :: rest, []⟩) Q E ⟨h, g, d, t, os⟩ := by
  have hshort := FB.noStar
  unfold checkBoundCall
  simp only [FB.initKind, FB.initRow]
  repeat (first | (with_reducible refine wpAny_loadPart_at he ?_; rw [hcls]) | with_reducible refine wpAny_loadPart_at hC ?_ | wp_step)
  refine wpAny_onRaise ?_
  rw [show ∀ (a b : String) (n : Nat), Bind.check ⟨.positional, "*", "Exception", .self, [⟨"args", .varPos, false⟩]⟩ a b n (List.map (fun x => x.fst) ({ pos := Value.ref e :: rest } : Args).kw) = pure () from
    fun a b n => check_star_args _ _ _ _ _ _]
  exact wpAny_pure hq
end
section
variable {prog : Program} {w : World} {A : Around} {E : Value → Shared → Prop} {s : Shared} {K : Frag} {h₀ : Heap} {L : Addr} {m : Str → Option Value} {news : List (Addr × Obj)} {e C D Nn fI tt so q : Addr} {bm : List Value} {newId : String}
theorem gmK {ox : Obj} {od : Option Obj} {pl : Sem Bool} {Q : Value × List Value → Shared → Prop} (F : Fr h₀ L s.heap m) (X₀ : K.In h₀) (N : News h₀ L s.heap news) (hso : (so, ks_superObj D e C) ∈ news) (I : InstAt s.heap e ox C od) (ho : nsIn K cStatics "thirdparty.any" = some none)
    (hm : ks_superIn K C D "__init__" = some (some (.builtin "Exception.__init__"))) (hsub : mroIn K C (.type "Exception") = some true)
    (h : ∀ q h', Fr h₀ L h' m → News h₀ L h' ((q, boundObj e) :: news) → (∀ p ∈ news, p.1 < q) → Q (.ref q, []) { s with heap := h', toks := s.toks + 1 }) : wpAny (model prog w) A (getMethod (.ref so) "__init__" pl) Q E s := by
  have X : K.In s.heap := X₀.keeps F.keep
  obtain ⟨hh, g, d, t, os⟩ := s
  cases hc : clsIn K C with
  | none => unfold ks_superIn at hm; rw [hc] at hm; cases hm
  | some cd =>
    unfold ks_superIn at hm
    rw [hc] at hm
    refine getMethod_super (N _ hso).1 (looks_opaque X ho) (l₀ := cd.mro) ?_ rfl X hm I.at_ I.cls (looks_mroIn X hsub) (ks_ne X I hc) ?_
    · exact fun A Q E s k q => wpAny_bind ((looks_clsIn X hc) A _ E s k (wpAny_pure q))
    · obtain ⟨F', N', l'⟩ := ks_newsPush (s := ⟨hh, g, d, t, os⟩) (o := boundObj e) F N rfl (Heap.get?_push_at rfl rfl) (fun b o e => Heap.get?_push_of_some _ e)
      exact h _ _ F' N' l'
theorem callWith_wrap {pos : Pos} {first : List Value} {args : List (Bool × Sem Value)} {Q : Value → Shared → Prop} (hplain : args.any (·.1) = false)
    (h : wpAny (model prog w) A (evalArgs (.ref q) true args []) (fun x s₁ => s₁.heap.get? q = some (boundObj e) ∧ wpAny (model prog w) A (call (.ref q) (first ++ x.pos) x.kw) Q E s₁) E s) : wpAny (model prog w) A (callWith pos (.ref q) first args []) Q E s := by
  unfold callWith
  refine wpAny_bind (wpAny_holding (wpAny_mono h (fun x s₁ h₁ => wpAny_bind (wpAny_standAt ?_)) fun _ _ x => x))
  obtain ⟨ho, hcall⟩ := h₁
  simp only [hplain, List.any_nil, Bool.or_false]
  refine wpAny_bind (m := keeperOf (.ref q)) ?_
  unfold keeperOf
  refine wpAny_bind (wpAny_load ho ?_)
  refine KFB.if_so (show (Value.type "method-wrapper" != Value.type "method") = true by decide) ?_
  show wpAny _ _ (pure (if (Value.type "method-wrapper" == Value.type "builtin_function_or_method" || Value.type "method-wrapper" == Value.type "method-wrapper") = true then Keeper.machine else Keeper.caller)) _ _ _
  rw [if_pos (by decide)]
  refine wpAny_pure ?_
  exact wpAny_bind (wpAny_mono hcall (fun r s₂ hr => wpAny_bind (wpAny_holding (wpAny_point (wpAny_pure hr)))) fun _ _ x => x)
theorem callWith_wrap1 {pos : Pos} {env : Env} {x : PySem.Expr} {rest : List PySem.Expr} {Q : Value → Shared → Prop}
    (h : wpAny (model prog w) A (spliced (backTo pos (starEach (x :: rest) env))) (fun vs s₁ => s₁.heap.get? q = some (boundObj e) ∧ wpAny (model prog w) A (call (.ref q) vs) Q E s₁) E s)
    (he : starEach (x :: rest) env = (false, eval x env) :: starEach rest env := by rfl) (hplain : (backTo pos (starEach rest env)).any (·.1) = false := by rfl) :
    wpAny (model prog w) A (callWith pos (.ref q) [] (backTo pos (starEach (x :: rest) env)) []) Q E s := by
  rw [he] at h ⊢
  refine callWith_wrap (e := e) (by show (false || (backTo pos (starEach rest env)).any (·.1)) = false; rw [hplain]; rfl) ?_
  exact evalArgs_plain h
theorem call_wrap {rest : List Value} {dd : Option Addr} {Q : Value → Shared → Prop} (FB : ExcBaseFacts "Exception" newId "Exception.__init__" bm) (F : Fr h₀ L s.heap m) (X₀ : K.In h₀) (hx : excInI K C Nn bm newId fI = true) (hb : s.heap.get? q = some (boundObj e))
    (N : News h₀ L s.heap ((e, excObj C tt dd) :: news)) (hne : ∀ p ∈ news, p.1 ≠ e) (hlen : rest.length ≤ sizeLine)
    (h : ∀ t2 h', Fr h₀ L h' m → News h₀ L h' ((e, excObj C t2 dd) :: (t2, tupObj rest) :: news) → (∀ p ∈ news, p.1 < t2) → e < t2 → Q .none { s with heap := h' }) :
    wpAny (model prog w) A (call (.ref q) rest) Q E s := by
  have X : K.In s.heap := X₀.keeps F.keep
  obtain ⟨nm, qn, bs, sn, sub, ab, col, dd', k0, k1, k2, k3, k5, mN, hC, hN, hi, hno⟩ := exc_of_in X hx
  have he := N _ List.mem_cons_self
  obtain ⟨hh, g, dr, t, os⟩ := s
  refine wpAny_call (codeAny_of_tree ?_)
  show wpAny _ A.in1 (callAny (.ref q) ⟨rest, []⟩) _ _ _
  simp only [callAny]
  refine wpAny_bind (wpAny_load hb ?_)
  refine KFB.if_so (show (Value.type "method-wrapper" == Value.type "method" || Value.type "method-wrapper" == Value.type "builtin_function_or_method" || Value.type "method-wrapper" == Value.type "method-wrapper") = true by decide) ?_
  dsimp only
  refine KFB.if_so (show (Value.type "method-wrapper" != Value.type "method") = true by decide) ?_
  refine wpAny_bind (check_einit FB hC he.1 rfl ?_)
  refine wpAny_bind (wpAny_pure (wpAny_pure ?_))
  refine ⟨Code.quiet_builtin _ (by decide +kernel), codeAny_builtin FB.initEntry ?_⟩
  unfold Builtin.«BaseException.__init__»
  dsimp only
  rw [if_neg (by simp)]
  unfold newTuple Builtin.BaseException.bexcPut
  have he₁ := Heap.get?_push_of_some (h := hh) { cls := .type "tuple", data := .seq rest.toArray } he.1
  refine wpAny_bind (wpAny_newObj_type (wpAny_bind (wpAny_bind (wpAny_field he₁ rfl rfl (wpAny_bind (wpAny_setField he₁ rfl (by show 0 < 6; omega) ?_))))) (by show rest.toArray.size ≤ sizeLine; rw [List.size_toArray]; exact hlen))
  refine wpAny_letGo (wpAny_pure ?_)
  dsimp only
  obtain ⟨oL, es, ep, hL, r⟩ := F.ns
  have hlt : ∀ b o, hh.get? b = some o → b ≠ hh.objs.size := fun b o e => Nat.ne_of_lt (Heap.lt_size e)
  have hfr : h₀.get? hh.objs.size = none := by
    cases q : h₀.get? hh.objs.size with
    | none => rfl
    | some o => exact absurd (Heap.lt_size (F.keep _ _ q)) (Nat.lt_irrefl _)
  have hk : ∀ b o, b ≠ e → hh.get? b = some o → ((hh.push { cls := .type "tuple", data := .seq rest.toArray }).update e (Obj.mapFields fun x => x.setIfInBounds 0 (.ref hh.objs.size))).get? b = some o := fun b o hb q => (Heap.get?_update_ne _ _ _ _ hb).trans (Heap.get?_push_of_some _ q)
  refine h hh.objs.size _ ⟨⟨oL, es, ep, hk _ _ (fun z => he.2.1 z.symm) hL, r⟩, fun b o q => hk b o (fun z => ?_) (F.keep b o q), F.above⟩ (fun p hp => ?_) (fun p hp => Heap.lt_size (N p (List.mem_cons_of_mem _ hp)).1) (Heap.lt_size he.1)
  · have := he.2.2; rw [← z, q] at this; cases this
  · rcases List.mem_cons.mp hp with rfl | hp
    · exact ⟨Heap.get?_update_self _ he₁ rfl, he.2⟩
    · rcases List.mem_cons.mp hp with rfl | hp
      · exact ⟨(Heap.get?_update_ne _ _ _ _ (Ne.symm (hlt _ _ he.1))).trans (Heap.get?_push_at rfl rfl), Ne.symm (hlt _ _ hL), hfr⟩
      · have z := N p (List.mem_cons_of_mem _ hp)
        exact ⟨hk _ _ (hne p hp) z.1, z.2⟩
end
end Mine
end
-- E5
section
open PySem.Calls
namespace Mine
/-- the third field: of an exception, its context -/
def ctx2 (o : Obj) : Value := match o.data with | .fields vs => vs.getD 2 .notImplemented | _ => .notImplemented
/-- every object that stood keeps its dict and its third field -/
def CD (h h' : Heap) : Prop := ∀ b o, h.get? b = some o → ∃ o', h'.get? b = some o' ∧ o'.dict = o.dict ∧ ctx2 o' = ctx2 o
theorem CD.refl (h : Heap) : CD h h := fun _ o e => ⟨o, e, rfl, rfl⟩
theorem CD.trans {h h₁ h₂ : Heap} (x : CD h h₁) (y : CD h₁ h₂) : CD h h₂ := fun b o e => by
  obtain ⟨o', e', d', c'⟩ := x b o e
  obtain ⟨o'', e'', d'', c''⟩ := y b o' e'
  exact ⟨o'', e'', d''.trans d', c''.trans c'⟩
def Keeps {α : Type} (t : Sem α) : Prop := ∀ (M : Model) (Γ : Ctx) (Q : α → Pos → Shared → Prop) (E : Value → Pos → Shared → Prop) (p : Pos) (s : Shared),
  Sem.wp M Γ t Q E p s → Sem.wp M Γ t (fun a p' s' => Q a p' s' ∧ CD s.heap s'.heap) (fun e p' s' => E e p' s' ∧ CD s.heap s'.heap) p s
theorem Keeps.use {α : Type} {M : Model} {A : Around} {t : Sem α} {Q : α → Shared → Prop} {E : Value → Shared → Prop} {s : Shared} (k : Keeps t) (h : wpAny M A t Q E s) :
    wpAny M A t (fun a s' => Q a s' ∧ CD s.heap s'.heap) (fun e s' => E e s' ∧ CD s.heap s'.heap) s := fun Γ p hΓ => k M Γ _ _ p s (h Γ p hΓ)
section
variable {α β : Type}
theorem Keeps.pure (a : α) : Keeps (Pure.pure a : Sem α) := fun _ _ _ _ _ s h => by
  rw [Sem.wp_pure'] at h ⊢; exact ⟨h, CD.refl _⟩
theorem Keeps.unsupported (w : String) : Keeps (PySem.unsupported w : Sem α) := fun M Γ Q E p s h => (by
  have : Sem.wp M Γ (Sem.unsupported w : Sem α) Q E p s := h
  rw [Sem.wp_unsupported] at this; exact this.elim)
theorem Keeps.bind {m : Sem α} {f : α → Sem β} (x : Keeps m) (y : ∀ a, Keeps (f a)) : Keeps (m >>= f) := fun M Γ Q E p s h => by
  rw [Sem.wp_bind'] at h ⊢
  refine Sem.wp_mono M Γ m (fun a p' s' k => ?_) (fun e p' s' k => k) p s (x M Γ _ _ p s h)
  obtain ⟨k1, k2⟩ := k
  exact Sem.wp_mono M Γ (f a) (fun b p'' s'' z => ⟨z.1, k2.trans z.2⟩) (fun e p'' s'' z => ⟨z.1, k2.trans z.2⟩) p' s' (y a M Γ _ _ p' s' k1)
theorem Keeps.load (a : Addr) : Keeps (PySem.load a) := fun M Γ Q E p s h => by
  show Sem.wp M Γ (Sem.load a none Sem.pure) _ _ p s
  have h' : Sem.wp M Γ (Sem.load a none Sem.pure) Q E p s := h
  rw [Sem.wp_load] at h' ⊢
  obtain ⟨o, ho, k⟩ := h'
  rw [Sem.wp_pure] at k
  refine ⟨o, ho, ?_⟩
  rw [Sem.wp_pure]
  exact ⟨k, CD.refl _⟩
theorem Keeps.stack : Keeps PySem.stack := fun M Γ Q E p s h => by
  exact ⟨h, CD.refl _⟩
theorem Keeps.update {a : Addr} {f : Obj → Obj} (hd : ∀ o, (f o).dict = o.dict) (hc : ∀ o, ctx2 (f o) = ctx2 o) (hf : ∀ o : Obj, o.isFreed = false → (f o).isFreed = false) : Keeps (PySem.update a f) := fun M Γ Q E p s h => by
  have h' : Sem.wp M Γ (Sem.update a none f fun _ => Sem.pure ()) Q E p s := h
  show Sem.wp M Γ (Sem.update a none f fun _ => Sem.pure ()) _ _ p s
  rw [Sem.wp_update] at h' ⊢
  refine ⟨h'.1, ?_⟩
  have k := h'.2
  rw [Sem.wp_pure] at k ⊢
  refine ⟨k, fun b o e => ?_⟩
  by_cases hb : b = a
  · subst hb
    exact ⟨f o, Heap.get?_update_self f e (hf o (Heap.get?_some_iff.mp e).2), hd o, hc o⟩
  · exact ⟨o, (Heap.get?_update_ne _ _ _ _ hb).trans e, rfl, rfl⟩
theorem Keeps.alloc (o : Obj) : Keeps (PySem.alloc o) := fun M Γ Q E p s h => by
  have h' : Sem.wp M Γ (Sem.alloc o Sem.pure) Q E p s := h
  show Sem.wp M Γ (Sem.alloc o Sem.pure) _ _ p s
  rw [Sem.wp_alloc] at h' ⊢
  rw [Sem.wp_pure] at h' ⊢
  exact ⟨h', fun b o' e => ⟨o', Heap.get?_push_of_some _ e, rfl, rfl⟩⟩
theorem Keeps.ite {c : Prop} [Decidable c] {a b : Sem α} (x : Keeps a) (y : Keeps b) : Keeps (if c then a else b) := by split <;> assumption
end
theorem Keeps.fieldsOf (v : Value) : Keeps (PySem.fieldsOf v) := by
  unfold PySem.fieldsOf
  split
  · refine Keeps.bind (Keeps.load _) fun o => ?_
    split
    · exact Keeps.pure _
    · exact Keeps.unsupported _
  · exact Keeps.unsupported _
theorem Keeps.field (v : Value) (i : Nat) : Keeps (PySem.field v i) := by
  unfold PySem.field
  refine Keeps.bind (Keeps.fieldsOf _) fun o => ?_
  split
  · exact Keeps.pure _
  · exact Keeps.unsupported _
theorem mapFields_freed (f : Array Value → Array Value) (o : Obj) : (Obj.mapFields f o).isFreed = o.isFreed := by
  obtain ⟨c, d, dt, sl⟩ := o
  cases dt <;> rfl
theorem mapFields_dict (f : Array Value → Array Value) (o : Obj) : (Obj.mapFields f o).dict = o.dict := by
  obtain ⟨c, d, dt, sl⟩ := o
  cases dt <;> rfl
theorem mapFields_ctx (i : Nat) (x : Value) (hi : i ≠ 2) (o : Obj) : ctx2 (Obj.mapFields (·.setIfInBounds i x) o) = ctx2 o := by
  obtain ⟨c, d, dt, sl⟩ := o
  cases dt with
  | fields vs =>
    show (vs.setIfInBounds i x).getD 2 _ = vs.getD 2 _
    rw [Array.getD_eq_getD_getElem?, Array.getD_eq_getD_getElem?, Array.getElem?_setIfInBounds_ne hi]
  | _ => rfl
theorem Keeps.setField (v : Value) (i : Nat) (x : Value) (hi : i ≠ 2) : Keeps (PySem.setField v i x) := by
  unfold PySem.setField
  split
  · unfold updateField
    refine Keeps.bind (Keeps.load _) fun o => ?_
    split
    · split
      · exact Keeps.update (fun o => mapFields_dict _ o) (fun o => mapFields_ctx _ _ hi o) (fun o h => (mapFields_freed _ o).trans h)
      · exact Keeps.unsupported _
    · exact Keeps.unsupported _
  · exact Keeps.unsupported _
theorem Keeps.behind (env : Env) (outer : List Env) : Keeps (behindIsImport env outer) := by
  unfold behindIsImport
  split
  · exact Keeps.pure _
  · split
    · exact Keeps.pure _
    · exact Keeps.bind (Keeps.field _ _) fun _ => Keeps.pure _
theorem Keeps.claim : Keeps underTheClaimsCaller := Keeps.bind Keeps.stack fun _ => Keeps.pure _
theorem Keeps.back (env : Env) (i : Bool) (outer : List Env) : Keeps (keptBack env i outer) := by
  unfold keptBack
  split
  · split
    · exact Keeps.pure _
    · exact Keeps.bind Keeps.claim fun _ => Keeps.pure _
  · exact Keeps.pure _
theorem Keeps.ready : ∀ l : List Env, Keeps (readyFrames l)
  | [] => Keeps.pure _
  | env :: outer => by
    unfold readyFrames
    split
    · refine Keeps.bind (Keeps.load _) fun o => ?_
      split
      · exact Keeps.pure _
      · refine Keeps.bind (Keeps.behind _ _) fun _ => Keeps.bind (Keeps.back _ _ _) fun _ => Keeps.bind (Keeps.update (fun _ => rfl) (fun _ => rfl) (fun o h => (kts_isFreed o _).trans h)) fun _ => Keeps.ready outer
    · exact Keeps.unsupported _
theorem Keeps.frameObj : ∀ l : List Env, Keeps (frameObject l)
  | [] => Keeps.pure _
  | env :: outer => Keeps.bind (Keeps.ready _) fun _ => Keeps.pure _
theorem Keeps.envs : Keeps frameEnvs := Keeps.bind Keeps.stack fun _ => Keeps.pure _
theorem Keeps.frameOf (env : Env) : Keeps (PySem.frameOf env) := by
  unfold PySem.frameOf
  refine Keeps.bind Keeps.envs fun l => Keeps.bind (Keeps.frameObj _) fun o => ?_
  split
  · exact Keeps.pure _
  · exact Keeps.unsupported _
theorem Keeps.place (f : Addr) (b : Bool) : Keeps (entryPlaceOf f b) := by
  unfold entryPlaceOf
  refine Keeps.bind Keeps.stack fun l => ?_
  split
  · exact Keeps.pure _
  · exact Keeps.pure _
theorem Keeps.entry (a b c d e : Value) (l : List Value) : Keeps (EntryCells.newEntry a b c d e l) := by
  unfold EntryCells.newEntry newFields newObj
  dsimp only
  have k : ∀ d, Keeps (newObjAsIs (.type "traceback") d) := fun d => Keeps.bind (Keeps.alloc _) fun _ => Keeps.pure _
  generalize ([a, b, c, d, e] ++ if l.isEmpty = true then List.replicate 6 Value.none else l).toArray = arr
  split
  · exact Keeps.bind (Keeps.unsupported _) fun _ => k _
  · exact k _
theorem Keeps.noteFrame (e : Value) (env : Env) : Keeps (PySem.noteFrame e env) := by
  unfold PySem.noteFrame
  split
  · refine Keeps.bind (Keeps.field _ _) fun _ => ?_
    have last : ∀ (hd : Value) (f : Addr), Keeps (do PySem.setField e 1 (← EntryCells.newEntry hd (← PySem.frameOf env) .none (rawInt f) .none (← entryPlaceOf f (hd != .none)))) := fun hd f =>
      Keeps.bind (Keeps.frameOf _) fun _ => Keeps.bind (Keeps.place _ _) fun _ => Keeps.bind (Keeps.entry _ _ _ _ _ _) fun _ => Keeps.setField _ _ _ (by decide)
    split
    · refine Keeps.bind (Keeps.field _ _) fun _ => ?_
      split
      · exact Keeps.pure _
      · exact Keeps.bind (Keeps.setField _ _ _ (by decide)) fun _ => last _ _
    · exact last _ _
  · exact Keeps.unsupported _
theorem Keeps.setFlight (e : Value) (f : Option Addr) : Keeps (PySem.setFlight e f) := by
  unfold PySem.setFlight
  refine Keeps.bind (Keeps.field _ _) fun _ => ?_
  split
  · exact Keeps.setField _ _ _ (by decide)
  · exact Keeps.pure _
theorem Keeps.leaving (env : Env) (e : Value) : Keeps (PySem.leaving env e) := Keeps.bind (Keeps.noteFrame _ _) fun _ => Keeps.setFlight _ _
end Mine
end
-- E6
section
open PySem.Calls
namespace Mine
/-- an own exception that flies, its dict at d -/
def RaisedD (base G : Heap) (l : List Env) (e C t d : Addr) (vs : List Value) (news : List (Addr × Obj)) (h : Heap) : Prop :=
  RaisedS base G l e (.ref C) t vs news h ∧ ∃ o, h.get? e = some o ∧ o.dict = some d ∧ ctx2 o = .none
section
variable {M : Model} {A : Around} {E : Value → Shared → Prop} {s' : Shared} {base g g₂ : Heap} {outer : List Env} {L a e t d C : Addr} {m : Str → Option Value} {name : Str} {scope : Scope} {cd : Value} {Q : Unit → Shared → Prop} {news : List (Addr × Obj)} {vs : List Value}
theorem leave_firstD (K : Below A base outer g) (F : Fr g L s'.heap m) (N : News g L s'.heap ((e, excObj C t (some d)) :: (t, tupObj vs) :: news)) (ne : ∀ p ∈ news, p.1 ≠ e) (nt : ∀ p ∈ news, p.1 ≠ t)
    (hQ : ∀ h', RaisedD base g outer e C t d vs news h' → g.UpToSlots h' → Q () { s' with heap := h' }) (hk : scope.kind = .function := by rfl) :
    wpAny M (A.deeper (envOf name scope L a cd)) (leaving (envOf name scope L a cd) (.ref e)) Q E s' := by
  have K' := K.push (name := name) (a := a) (cd := cd) F hk
  have he := N _ List.mem_cons_self
  have ht := N _ (List.mem_cons_of_mem _ List.mem_cons_self)
  have fs_in : ∀ env ∈ (envOf name scope L a cd :: outer), ∀ b, env.frame = some b → b ∈ (envOf name scope L a cd :: outer).filterMap (·.frame) ++ [e, t] := fun env he b hb => List.mem_append.mpr (.inl (List.mem_filterMap.mpr ⟨env, he, hb⟩))
  have hid : ∀ b o, g.get? b = some o → b ≠ e ∧ b ≠ t := fun b o q => ⟨fun z => (by have := he.2.2; rw [← z, q] at this; cases this), fun z => (by have := ht.2.2; rw [← z, q] at this; cases this)⟩
  have mem2 : ∀ b, b ∈ (envOf name scope L a cd :: outer).filterMap (·.frame) ++ [e, t] → b ∈ (envOf name scope L a cd :: outer).filterMap (·.frame) ∨ b = e ∨ b = t := fun b hb => (List.mem_append.mp hb).imp id fun z => by simpa using z
  have st : base.StaysIn (hideAll s'.heap ((envOf name scope L a cd :: outer).filterMap (·.frame) ++ [e, t])) := fun b o q => hideAll_get _ (K'.stays b o q) fun hm => by
    rcases mem2 b hm with z | z | z
    · rw [(K'.frames.mem z).1] at q; cases q
    · exact (hid b o (K.stays b o q)).1 z
    · exact (hid b o (K.stays b o q)).2 z
  have sg : ∀ b o, g.get? b = some o → b ∉ outer.filterMap (·.frame) → (hideAll s'.heap ((envOf name scope L a cd :: outer).filterMap (·.frame) ++ [e, t])).get? b = some o := fun b o q nm => hideAll_get _ (F.keep b o q) fun hm => by
    rcases mem2 b hm with z | z | z
    · rcases kts_mem z with z | z
      · rw [z, kts_self F] at q
        cases q
      · exact nm z
    · exact (hid b o q).1 z
    · exact (hid b o q).2 z
  have hl : ∀ q ∈ news, (hideAll s'.heap ((envOf name scope L a cd :: outer).filterMap (·.frame) ++ [e, t])).get? q.1 = some q.2 ∧ g.get? q.1 = none ∧ base.get? q.1 = none := fun q hq => by
    have Nq := N q (List.mem_cons_of_mem _ (List.mem_cons_of_mem _ hq))
    refine ⟨hideAll_get _ Nq.1 fun hm => ?_, Nq.2.2, fresh_of_stays K.stays Nq.2.2⟩
    rcases mem2 _ hm with z | z | z
    · obtain ⟨env, he, hf⟩ := List.mem_filterMap.mp z
      rcases List.mem_cons.mp he with rfl | he
      · exact Nq.2.1 (Option.some.inj hf).symm
      · obtain ⟨o, ho, _⟩ := (K.frames.mem (List.mem_filterMap.mpr ⟨env, he, hf⟩)).2
        rw [Nq.2.2] at ho; cases ho
    · exact ne q hq z
    · exact nt q hq z
  have e_none : (hideAll s'.heap ((envOf name scope L a cd :: outer).filterMap (·.frame) ++ [e, t])).get? e = none := hideAll_none _ (List.mem_append.mpr (.inr (by simp)))
  have t_none : (hideAll s'.heap ((envOf name scope L a cd :: outer).filterMap (·.frame) ++ [e, t])).get? t = none := hideAll_none _ (List.mem_append.mpr (.inr (by simp)))
  have hu : ∀ h', (∀ b o, s'.heap.get? b = some o → (∀ vs, o.data ≠ .fields vs) → ∃ sl, h'.get? b = some { o with slots := sl }) → g.UpToSlots h' := fun h' k b o q hn => k b o (F.keep b o q) hn
  refine wpAny_mono (Keeps.use (Keeps.leaving _ _) (wpAny_leaving_firstW (base := hideAll s'.heap ((envOf name scope L a cd :: outer).filterMap (·.frame) ++ [e, t])) (a0 := .ref t) (Q := fun _ s'' => ∃ h', s'' = { s' with heap := h' } ∧ Heap.LeftW (hideAll s'.heap ((envOf name scope L a cd :: outer).filterMap (·.frame) ++ [e, t])) (envOf name scope L a cd :: outer) e (.ref C) (.ref t) s'.heap h') (E := E)
    K'.stack (funFrames_hide K'.frames fs_in) rfl he.1 (fun b o q => of_hideAll _ q) e_none rfl rfl rfl fun h' hL => ⟨h', rfl, hL⟩)) (fun _ s'' z => ?_) fun _ _ z => z.1
  obtain ⟨⟨h', rfl, k1, ⟨_, _, k2⟩, k3, k4⟩, kd⟩ := z
  obtain ⟨o', ho', hd'⟩ := kd e _ he.1
  exact hQ h' ⟨⟨⟨_, st, sg, hl, ⟨k1, e_none, k2, k3⟩, t_none⟩, Heap.TupAt.of_slots ⟨_, _, ht.1, rfl, rfl⟩ k4⟩, o', ho', hd'⟩ (hu h' k4)
theorem leave_onD (K : Below A base outer g) (F : Fr g L g₂ m) (R : RaisedD base g₂ (envOf name scope L a cd :: outer) e C t d vs news s'.heap) (hsm : g₂.UpToSlots s'.heap)
    (hQ : ∀ h', RaisedD base g outer e C t d vs news h' → g.UpToSlots h' → Q () { s' with heap := h' }) :
    wpAny M (A.deeper (envOf name scope L a cd)) (leaving (envOf name scope L a cd) (.ref e)) Q E s' := by
  obtain ⟨R, o, ho, hd⟩ := R
  refine wpAny_mono (Keeps.use (Keeps.leaving _ _) (leave_onS (Q := fun _ s'' => ∃ h', s'' = { s' with heap := h' } ∧ RaisedS base g outer e (.ref C) t vs news h' ∧ g.UpToSlots h') (E := E) K F R hsm fun h' S _ U => ⟨h', rfl, S, U⟩)) (fun _ s'' z => ?_) fun _ _ z => z.1
  obtain ⟨⟨h', rfl, S, U⟩, kd⟩ := z
  obtain ⟨o', ho', hd'⟩ := kd e o ho
  exact hQ h' ⟨S, o', ho', hd'.1.trans hd.1, hd'.2.trans hd.2⟩ U
end
section
variable {prog : Program} {w : World} {A₀ : Around} {E : Value → Shared → Prop} {s' : Shared} {base g g₀ G : Heap} {outer : List Env} {L a e t d C : Addr} {m : Str → Option Value} {name : Str} {scope : Scope} {cd : Value}
  {vs : List Value} {n : Str} {b₀ : Stmt} {suite : List Stmt} {pos np : Pos} {rest : List ExceptHandler} {Q : Flow → Shared → Prop} {news : List (Addr × Obj)} {KF : Frag}
  {p : Program} {loose : List Str} {mean : ExcName → Option Value} {mg mb : Str → Option Value} {x : Str}
/-- what is caught keeps its dict -/
theorem caughtD (RD : RaisedD base G (envOf name scope L a cd :: outer) e C t d vs news s'.heap) (F : Fr g L G m) (K : Below A₀ base outer g) (hsm : G.UpToSlots s'.heap) (XB : KF.In base) (TB : Top p loose mean mg mb base)
    (D : KtsDicts (outer.filterMap (·.frame)) g) (T0 : KtsTurn (outer.filterMap (·.frame)) g₀ g)
    (ex : nsIn KF mainGlobals x = some (some (.ref C))) (q : ktsIn KF C "BaseException" = true)
    (k : ∀ h' g' oe tk, KtsTurn (outer.filterMap (·.frame)) g₀ g' → Fr g' L h' (fun y => if y = n then some (.ref e) else m y) → News g' L h' ((e, oe) :: news) → oe.cls = .ref C → oe.dict = some d → ctx2 oe = .none → notCls oe = true → Below A₀ base outer g' → KF.In g' → Top p loose mean mg mb g' → KtsDicts (outer.filterMap (·.frame)) g' →
      wpAny (model prog w) ((A₀.deeper (envOf name scope L a cd)).mark (some (.ref e))) (execs (b₀ :: suite) (envOf name scope L a cd))
        (fun f s₄ => wpAny (model prog w) (A₀.deeper (envOf name scope L a cd)) (do bindName (envOf name scope L a cd) n .none; unbindBehindTheSuite (envOf name scope L a cd) n pos) (fun _ s₅ => Q f s₅) E s₄)
        (AsSuiteRaised (model prog w) ((A₀.deeper (envOf name scope L a cd)).mark (some (.ref e))) (envOf name scope L a cd) n pos (notedBy (model prog w) ((A₀.deeper (envOf name scope L a cd)).mark (some (.ref e))) (envOf name scope L a cd) (cameBackBy (model prog w) (A₀.deeper (envOf name scope L a cd)) (envOf name scope L a cd) E)))
        { s' with heap := h', toks := tk })
    (hk : scope.kind = .function := by rfl) (hlo : (envOf name scope L a cd).kindOf n = some .local := by rfl) (hx : (envOf name scope L a cd).kindOf x = some .globalImplicit := by rfl) (hd : (x == ("__debug__" : Str)) = false := by decide) :
    wpAny (model prog w) (A₀.deeper (envOf name scope L a cd)) (noteFrame (.ref e) (envOf name scope L a cd))
      (fun _ s₂ => wpAny (model prog w) (A₀.deeper (envOf name scope L a cd)) (setFlight (.ref e) none) (fun _ s₃ =>
        wpAny (model prog w) (A₀.deeper (envOf name scope L a cd)) (handleBy (.ref e) (envOf name scope L a cd) (.ExceptHandler (some (.Name x np)) (some n) (b₀ :: suite) pos :: rest)) Q E s₃) E s₂) E s' := by
  obtain ⟨⟨⟨B, hB, hBG, hl, hfl, hnew⟩, htup⟩, oe₀, hoe₀, hoed₀, hctx₀⟩ := RD
  have hL : B.get? L = none := by
    obtain ⟨_, ⟨L', _, hf, hn', _⟩, _⟩ := hfl.2.2.1
    obtain rfl : L = L' := Option.some.inj hf
    exact hn'
  -- the three heaps on the way to the suite
  refine wpAny_mono (Keeps.use (Keeps.noteFrame _ _) (wpAny_looks_onW (Q := fun _ s₂ => ∃ h₄, s₂ = { s' with heap := h₄ } ∧ Heap.HeldW B (envOf name scope L a cd :: outer) e (.ref C) (.ref t) L h₄ ∧ s'.heap.UpToSlots h₄) (E := fun _ _ => False)
    (Around.frames_deeper K.stack) rfl hfl fun h₄ c1 c2 => ⟨h₄, rfl, c1, c2⟩)) (fun _ s₂ z => ?_) fun _ _ z => z.1.elim
  obtain ⟨⟨h₄, rfl, hheld₄, hsm₄⟩, cd₄⟩ := z
  refine wpAny_mono (Keeps.use (Keeps.setFlight _ _) (wpAny_landsW (Q := fun _ s₃ => ∃ h₅, s₃ = { s' with heap := h₅ } ∧ Heap.FlyingW B (envOf name scope L a cd :: outer) e (.ref C) (.ref t) h₅ ∧ h₄.UpToSlots h₅) (E := fun _ _ => False)
    hheld₄ fun h₅ c1 c2 => ⟨h₅, rfl, c1, c2⟩)) (fun _ s₃ z => ?_) fun _ _ z => z.1.elim
  obtain ⟨⟨h₅, rfl, hheld, hsm₅'⟩, cd₅⟩ := z
  have hsm₅ := hsm₄.trans hsm₅'
  obtain ⟨g₅, T₅, F₅, K₅⟩ := kts_ground K F hBG hheld.1 (hsm.trans hsm₅)
  have X₅ : KF.In g₅ := XB.keeps K₅.stays
  have P₅ : TopRead p loose mg mb g₅ := topRead_of (TB.keeps K₅.stays)
  obtain ⟨ob, hob, hobc⟩ := hheld.there
  obtain ⟨nm, q', N, bs, bm, hdct, sn, sub, ab, col, dd, k0, k1, k2, k3, k5, newId, hC, hbase, hbT⟩ := kts_cls X₅ q
  have hC₅ := F₅.keep _ _ hC
  refine wpAny_handleBy_cons (codeAny_handlers_test (name_K F₅ X₅ P₅ ex ?_ hk hx hd)) (by intro q; cases q)
  refine wpAny_excMatches_sub_self hC₅ hob hobc hbase (codeAny_handlers_suite_as ?_)
  refine wpAny_mono (Keeps.use (Keeps.setFlight _ _) (lands_againW (Q := fun _ s₃ => ∃ h₆, s₃ = { s' with heap := h₆ } ∧ Heap.FlyingW B (envOf name scope L a cd :: outer) e (.ref C) (.ref t) h₆ ∧ h₅.UpToSlots h₆) (E := fun _ _ => False)
    hheld fun h₆ c1 c2 => ⟨h₆, rfl, c1, c2⟩)) (fun _ s₃ z => ?_) fun _ _ z => z.1.elim
  obtain ⟨⟨h₆, rfl, hfl₆, hsm₆⟩, cd₆⟩ := z
  obtain ⟨g₆, T₆, F₆, K₆⟩ := kts_ground K F hBG hfl₆.1 ((hsm.trans hsm₅).trans hsm₆)
  obtain ⟨oe, ws, hoe, hoec, hoed, hoe0⟩ := hfl₆.first
  have hdict : oe.dict = some d := by
    obtain ⟨o4, e4, d4, _⟩ := cd₄ e _ hoe₀
    obtain ⟨o5, e5, d5, _⟩ := cd₅ e _ e4
    obtain ⟨o6, e6, d6, _⟩ := cd₆ e _ e5
    rw [hoe] at e6
    obtain rfl := Option.some.inj e6
    rw [d6, d5, d4, hoed₀]
  have hctx : ctx2 oe = .none := by
    obtain ⟨o4, e4, _, d4⟩ := cd₄ e _ hoe₀
    obtain ⟨o5, e5, _, d5⟩ := cd₅ e _ e4
    obtain ⟨o6, e6, _, d6⟩ := cd₆ e _ e5
    rw [hoe] at e6
    obtain rfl := Option.some.inj e6
    rw [d6, d5, d4, hctx₀]
  have ne₆ : g₆.get? e = none := T₆.none_ _ (kts_fresh F hBG hfl₆.2.1 fun o ho m => by
    obtain ⟨_, o', ho', hd⟩ := K.frames.mem m
    rw [ho] at ho'
    cases ho'
    obtain ⟨sl, hs⟩ := ((hsm.trans hsm₅).trans hsm₆) _ _ (F.keep _ _ ho) hd
    rw [hoe] at hs
    cases hs
    exact hd _ hoed)
  have N₆ := News.more F₆ News.nil hoe (fun es n q => by rw [hoed] at q; cases q) ne₆
  have Nl : News g₆ L h₆ news := fun q hq => ⟨hfl₆.1 _ _ (hl q hq).1, (fun z => by have := (hl q hq).1; rw [z, hL] at this; cases this), T₆.none_ _ (kts_none F.keep (hl q hq).2.1)⟩
  have X₆ : KF.In g₆ := XB.keeps K₆.stays
  have P₆ : Top p loose mean mg mb g₆ := TB.keeps K₆.stays
  have D₆ : KtsDicts (outer.filterMap (·.frame)) g₆ := D.turn T₆
  refine stN F₆ (news := (e, oe) :: news) (fun q hq => (List.mem_cons.mp hq).elim (fun z => N₆ q (z ▸ List.mem_cons_self)) (Nl q)) (fun h₇ F₇ N₇ => ?_) hk hlo
  exact k h₇ g₆ oe _ (T0.trans T₆) F₇ N₇ hoec hdict hctx (by unfold notCls; rw [hoed]) K₆ X₆ P₆ D₆
end
end Mine
end
-- E7
section
open PySem.Calls
namespace Mine
section
variable {prog : Program} {w : World} {A : Around} {E : Value → Shared → Prop} {h : Heap} {g : Array GenState} {d : Drawn} {t : Nat} {os : OsState}
variable {nm q : Str} {C N x : Addr} {bs bm : List Value} {sn : List Str} {sub : List Value} {ab : Bool} {col : Option Bool} {dd : Option Addr} {k0 k1 k2 k3 k5 : Option Value} {B newId : String}
  {mN mA : Str → Option Value} {name : Str} {v : Value}
theorem exc_entry {tk : Tok} {Q : Fin → Shared → Prop} (FB : ExcAttrBase B bm)
    (hC : h.get? C = some (excClassObj nm q C N bs bm true sn sub ab col dd k0 k1 k2 k3 k5 newId)) (hn : h.Ns N mN) (hna : mN name = none)
    (hB : typeLookup (.type B) name = pure none) (I : h.Inst x C mA) (hv : mA name = some v) (hh : handedOut v = pure v) (hq : Q (.done (.ret v)) ⟨h, g, d, t, os⟩) :
    wpAny (model prog w) A (Builtin.«object.__getattribute__» ⟨[.ref x, .str name tk], []⟩) Q E ⟨h, g, d, t, os⟩ := by
  obtain ⟨o, hx, hc, hnc, hd⟩ := I
  rcases hd with ⟨_, hmA⟩ | ⟨dx, hdx, hne, hns⟩
  · rw [hmA name] at hv; cases hv
  repeat (any_goals (first | assumption | (with_reducible refine wpAny_loadPart_at hx ?_; rw [hc]) | (with_reducible refine wpAny_typeLookup_exc hC hn FB.mro hB ?_; rw [hna]) | wp_step))
  split
  · rename_i c hcd
    exact absurd hcd (hnc c)
  unfold instanceDict Builtin.ObjectAttr.inDict
  repeat (first | (with_reducible refine wpAny_loadPart_at hx ?_; rw [hc]) | with_reducible refine wpAny_loadPart_at hC ?_ | wp_step)
  rw [hdx]
  repeat (first | (with_reducible refine wpAny_nsGet hns.ns ?_; rw [hv]) | wp_step)
  exact hq
theorem exc_call {tk : Tok} {R : Result → Shared → Prop} (FB : ExcAttrBase B bm)
    (hC : h.get? C = some (excClassObj nm q C N bs bm true sn sub ab col dd k0 k1 k2 k3 k5 newId)) (hn : h.Ns N mN) (hna : mN name = none)
    (hB : typeLookup (.type B) name = pure none) (I : h.Inst x C mA) (hv : mA name = some v) (hh : handedOut v = pure v) (hq : R (.ok (.ret v)) ⟨h, g, d, t, os⟩) :
    codeAny (model prog w) A (.call (.builtin "BaseException.__getattribute__") ⟨[.ref x, .str name tk], []⟩) R ⟨h, g, d, t, os⟩ := by
  obtain ⟨o, hx, hc, _⟩ := id I
  exact codeAny_call_builtin FB.ga.plain F.entry_bexc_ga (wpAny_check_ga_own FB hC .base hx hc (exc_entry FB hC hn hna hB I hv hh hq))
theorem exc_by {tk : Tok} {fill expr : Bool} {Q : Value → Shared → Prop} (FB : ExcAttrBase B bm)
    (hC : h.get? C = some (excClassObj nm q C N bs bm true sn sub ab col dd k0 k1 k2 k3 k5 newId)) (hn : h.Ns N mN) (hg : mN "__getattribute__" = none) (hga : mN "__getattr__" = none) (hna : mN name = none)
    (hB : typeLookup (.type B) name = pure none) (I : h.Inst x C mA) (hv : mA name = some v) (hh : handedOut v = pure v) (hq : Q v ⟨h, g, d, t, os⟩) :
    wpAny (model prog w) A (getAttrBy (.ref x) (.str name tk) fill expr) Q E ⟨h, g, d, t, os⟩ := by
  have f3 := FB.ga.bind (.ref x)
  have hx0 : (expr && onTheHeap (Value.builtin "BaseException.__getattribute__")) = false := by cases expr <;> rfl
  have hx2 : (Value.builtin "BaseException.__getattribute__" == Value.builtin "object.__getattribute__") = false := by decide +kernel
  have hx1 : (onTheHeap (Value.ref C) && Value.builtin "BaseException.__getattribute__" == Value.builtin "object.__getattribute__") = false := by rw [hx2]; rfl
  obtain ⟨o, hx, hc, _⟩ := id I
  repeat (any_goals (first | assumption | (with_reducible refine wpAny_loadPart_at hx ?_; rw [hc]) | (with_reducible refine wpAny_typeLookup_exc hC hn FB.mro FB.ga.lookup ?_; rw [hg]) | (with_reducible refine wpAny_typeLookup_exc hC hn FB.mro FB.noGetattr ?_; rw [hga]) | wp_step))
  refine exc_call FB hC hn hna hB I hv hh ?_
  repeat (any_goals (first | assumption | wp_step))
theorem exc_attr {expr : Bool} {Q : Value → Shared → Prop} (FB : ExcAttrBase B bm)
    (hC : h.get? C = some (excClassObj nm q C N bs bm true sn sub ab col dd k0 k1 k2 k3 k5 newId)) (hn : h.Ns N mN) (hg : mN "__getattribute__" = none) (hga : mN "__getattr__" = none) (hna : mN name = none)
    (hB : typeLookup (.type B) name = pure none) (I : h.Inst x C mA) (hv : mA name = some v) (hh : handedOut v = pure v) (hq : Q v ⟨h, g, d, t + 1, os⟩) :
    wpAny (model prog w) A (getAttr (.ref x) name expr) Q E ⟨h, g, d, t, os⟩ := by
  unfold getAttr
  repeat (any_goals (first | assumption | with_reducible apply exc_by FB hC hn hg hga hna hB I hv hh | wp_step))
end
section
variable {prog : Program} {w : World} {A : Around} {E : Value → Shared → Prop} {s : Shared} {K : Frag} {h₀ : Heap} {L : Addr} {m : Str → Option Value} {news : List (Addr × Obj)} {e C Nn fI d : Addr} {bm : List Value} {B newId : String} {name : Str} {v : Value}
theorem get_exc {expr : Bool} {oe od : Obj} {mA : Str → Option Value} {Q : Value → Shared → Prop} (FB : ExcAttrBase B bm) (F : Fr h₀ L s.heap m) (X₀ : K.In h₀) (N : News h₀ L s.heap news) (hx : excInI K C Nn bm newId fI = true) (he : (e, oe) ∈ news) (hd : (d, od) ∈ news) (hde : d ≠ e)
    (hc : oe.cls = .ref C) (hdi : oe.dict = some d) (hno : notCls oe = true) (hod : NsIs od mA) (hg : nsIn K Nn "__getattribute__" = some none) (hga : nsIn K Nn "__getattr__" = some none) (hna : nsIn K Nn name = some none) (hB : typeLookup (.type B) name = pure none)
    (hv : mA name = some v) (hh : handedOut v = pure v) (h : Q v { s with toks := s.toks + 1 }) : wpAny (model prog w) A (getAttr (.ref e) name expr) Q E s := by
  have X : K.In s.heap := X₀.keeps F.keep
  obtain ⟨nm, qn, bs, sn, sub, ab, col, dd, k0, k1, k2, k3, k5, mN, hC, hN, hi, hnn⟩ := exc_of_in X hx
  obtain ⟨hh', g, dr, t, os⟩ := s
  exact exc_attr FB hC hN (hnn _ hg) (hnn _ hga) (hnn _ hna) hB ⟨oe, (N _ he).1, hc, fun c z => (by unfold notCls at hno; rw [z] at hno; cases hno), .inr ⟨d, hdi, hde, hod.at (N _ hd).1⟩⟩ hv hh h
end
end Mine
end
-- E8
section
open PySem.Calls
namespace Mine
theorem entry_unchain : entryFor table "proto.unchain" = some Builtin.«proto.unchain» := entryFor_of_tree (by kernel_rfl)
theorem ctx_field {o : Obj} (h : ctx2 o = .none) : ∃ vs, o.data = .fields vs ∧ vs[2]? = some .none := by
  unfold ctx2 at h
  split at h
  · rename_i vs e
    refine ⟨vs, e, ?_⟩
    rw [Array.getD_eq_getD_getElem?] at h
    cases q : vs[2]? with
    | none => rw [q] at h; cases h
    | some v => rw [q] at h; exact congrArg some h
  · cases h
section
variable {prog : Program} {w : World} {A : Around} {E : Value → Shared → Prop} {s : Shared}
/-- the end of a list, while an exception without a context is handled -/
theorem list_end_H {it l x : Addr} {i : Nat} {items : Array Value} {oh : Obj} {Q : Option Value → Shared → Prop} (hh : A.handled = some (.ref x)) (hoh : s.heap.get? x = some oh) (hc : ctx2 oh = .none) (hne : x ≠ it)
    (hit : s.heap.IsListIter it l i) (hl : s.heap.IsList l items) (hx : items[i]? = none)
    (hQ : ∀ h', Heap.ExtBut it s.heap h' → Q none { s with heap := h' }) : wpAny (model prog w) A (pyNext (.ref it)) Q E s := by
  obtain ⟨vs, hvs, hv2⟩ := ctx_field hc
  obtain ⟨o, ho, hcl, hd⟩ := id hit
  obtain ⟨ol, hol, _, nl, hdl⟩ := hl
  have x0 : (s.heap.update it (Obj.mapFields (·.setIfInBounds 0 .none))).get? x = some oh := (Heap.get?_update_ne _ _ _ _ hne).trans hoh
  have hxs : x < s.heap.objs.size := Heap.lt_size hoh
  unfold pyNext
  refine wpAny_bind (wpAny_attempt (wpAny_callSpecial?_slot (name := Str.ofString "__next__") hit.typeIs slot_listiter_next
    (wpAny_call_entry slot_listiter_next hit.typeIs entry_listiter_next ?_ (args_listiter_next _))))
  show wpAny _ _ (field (.ref it) 0 >>= _) _ _ s
  refine wpAny_bind (wpAny_field ho hd (x := .ref l) rfl ?_)
  show wpAny _ _ (if (Value.ref l == Value.none) = true then _ else _) _ _ s
  rw [if_neg (show ¬ ((Value.ref l == Value.none) = true) from Bool.false_ne_true)]
  show wpAny _ _ (field (.ref it) 1 >>= _) _ _ s
  refine wpAny_bind (wpAny_field ho hd (x := .int i 0) rfl ?_)
  show wpAny _ _ (seqItems? (.ref l) >>= _) _ _ s
  refine wpAny_bind (wpAny_seqItems hol hdl ?_)
  simp only [Int.toNat_natCast, hx]
  refine wpAny_bind (wpAny_rule (wpAny_bind (wpAny_setField ho hd (by simp) ?_)))
  show wpAny _ _ (newExc (.type "StopIteration") [] >>= _) _ _ _
  refine wpAny_bind ?_
  simp only [newExc, newTuple]
  refine wpAny_bind (wpAny_newObj_type ?_ (by size_fits))
  refine wpAny_bind (m := firstArgMember _ _) (wpAny_of_eq (a := Value.none) (by first | rfl | (simp only [firstArgMember]; rfl)) ?_)
  refine wpAny_newObj_type ?_ (by size_fits)
  simp only [raiseNew]
  refine wpAny_bind (wpAny_handled ?_)
  rw [show A.in1.handled = some (.ref x) from hh]
  have lt1 : x < ((s.heap.update it (Obj.mapFields fun x => x.setIfInBounds 0 Value.none)).push { cls := Value.type "tuple", data := Data.seq #[] }).objs.size := Heap.lt_size (Heap.get?_push_of_some _ x0)
  have x1 := Heap.get?_push_of_some { cls := Value.type "tuple", data := Data.seq #[] } x0
  have e1 : Heap.ExtBut it s.heap ((s.heap.update it (Obj.mapFields fun x => x.setIfInBounds 0 Value.none)).push { cls := Value.type "tuple", data := Data.seq #[] }) := (Heap.SameBut.update ..).extBut.push _
  generalize (s.heap.update it (Obj.mapFields fun x => x.setIfInBounds 0 Value.none)).push { cls := Value.type "tuple", data := Data.seq #[] } = H1 at *
  have nx : (Value.ref x != Value.ref H1.objs.size) = true := by
    have : x ≠ H1.objs.size := Nat.ne_of_lt lt1
    simpa using this
  dsimp only
  rw [if_pos nx]
  refine wpAny_bind (wpAny_holding (wpAny_runValue (codeAny_builtin entry_unchain ?_)))
  show wpAny _ _ (field (.ref x) 2 >>= _) _ _ _
  refine wpAny_bind (wpAny_field (Heap.get?_push_of_some _ x1) hvs hv2 ?_)
  show wpAny _ _ (if (Value.none == Value.none) = true then _ else _) _ _ _
  rw [if_pos (show (Value.none == Value.none) = true from rfl)]
  refine wpAny_bind (wpAny_pure (wpAny_pure ?_))
  show wpAny _ _ (setField (.ref H1.objs.size) 2 (.ref x) >>= fun _ => throw _) _ _ _
  refine wpAny_bind (wpAny_setField (Heap.get?_push_size _ rfl) rfl (by simp [ownMembersOf]) (wpAny_throw ?_))
  refine wpAny_bind (wpAny_isInstance (T := "StopIteration") (b := true) ⟨_, Heap.get?_update_self _ (Heap.get?_push_size _ rfl) rfl, rfl⟩ isSubtype_stop ?_)
  refine wpAny_pure (hQ _ fun b o hb e => ?_)
  have z := e1 b o hb e
  exact (Heap.get?_update_ne _ _ _ _ (Nat.ne_of_lt (Heap.lt_size z))).trans (Heap.get?_push_of_some _ z)
theorem list_walks_H {I ax x : Addr} {oh : Obj} (hh : A.handled = some (.ref x)) (hc : ctx2 oh = .none) (hne : ax ≠ I) (hx : x ≠ I) (items : Array Value) :
    Walks prog w A I [I, ax, x] [I] items.size (fun i v => items[i]? = some v) (fun i h => (h.IsListIter I ax i ∧ h.IsList ax items) ∧ h.get? x = some oh) where
  sub := fun b hb => by simp at hb; simp [hb]
  frame := fun _ _ _ st hk => ⟨⟨st.1.1.at fun o e => hk I (by simp) o e, st.1.2.at fun o e => hk ax (by simp) o e⟩, hk x (by simp) _ st.2⟩
  item := fun i s Q E hi st hQ => by
    refine wpAny_pyNext_list_item st.1.1 st.1.2 (x := items[i]) (by simp [hi]) fun h' hit' hs' => ?_
    exact hQ _ h' s.toks (by simp [hi]) ⟨⟨hit', st.1.2.extBut hs'.extBut hne⟩, hs'.extBut _ _ hx st.2⟩ fun b o hb e => hs'.extBut b o (fun h => hb (by simp [h])) e
  done := fun s Q E st hQ => list_end_H hh st.2 hc hx st.1.1 st.1.2 (by simp) fun h' he' => hQ h' s.toks fun b o hb e => he' b o (fun h => hb (by simp [h])) e
  self := fun _ _ _ _ st hQ => wpAny_pyIter_listiter st.1.1 hQ
end
section
variable {prog : Program} {w : World} {A : Around} {E : Value → Shared → Prop} {s : Shared} {h₀ : Heap} {L : Addr} {m : Str → Option Value} {env : Env}
def SrcH (prog : Program) (w : World) (A : Around) (h₀ : Heap) (L : Addr) (m : Str → Option Value) (env : Env) (elt : PySem.Expr) (x : Str) (scope : Scope) (cl : List (Str × Addr)) (Q : Value → Shared → Prop) (xv : Value) (s₁ : Shared) : Prop :=
  ∃ ax its k e oh news, xv = .ref ax ∧ A.handled = some (.ref e) ∧ ctx2 oh = .none ∧ Fr h₀ L s₁.heap m ∧ News h₀ L s₁.heap news ∧ (ax, ({ cls := .type "list", data := .seq its k } : Obj)) ∈ news ∧ (e, oh) ∈ news ∧ its.size ≤ sizeLine ∧
      ∀ g, LCg.CompRest prog w A h₀ L m env elt x scope cl { s₁ with heap := g } (fun nw => (ax, ({ cls := .type "list", data := .seq its k } : Obj)) ∈ nw ∧ (e, oh) ∈ nw) (fun i v => its[i]? = some v) (LCg.FinE h₀ L m { s₁ with heap := g } Q) its.size 0 [] news
/-- a comprehension over a list of the ledger, while an exception without a context is handled -/
theorem comp_H {elt iter : PySem.Expr} {x : Str} {px : Pos} {scope : Scope} {cl : List (Str × Addr)} {pos : Pos} {Q : Value → Shared → Prop} (_F₀ : Fr h₀ L s.heap m)
    (hclos : closureFor scope env = pure cl) (hcell : ∀ y ∈ scope.names, y.2 ≠ .cell) (hkind : scope.kind = .function)
    (hnames : ∀ y ∈ scope.names, y.2 = .local → scope.names.lookup y.1 = some .local) (hx : scope.names.lookup x = some .local)
    (h : wpAny (model prog w) A (eval iter env) (SrcH prog w A h₀ L m env elt x scope cl Q) E s)
    (hs : ∀ x, foldedSetIterable iter env x = pure x := by intro _; rfl) :
    wpAny (model prog w) A (eval (.ListComp elt [⟨.Name x px, iter, [], 0⟩] scope pos) env) Q E s := by
  rw [eval_ListComp]
  refine wpAny_comprehension_free (use := none) rfl hs hclos hkind hnames (wpAny_mono h (fun xv s₁ h₁ => ?_) fun _ _ e => e)
  obtain ⟨ax, its, k, e, oh, news, rfl, hh, hc, F, N, ha, he, hsz, R⟩ := h₁
  have hl : s₁.heap.IsList ax its := ⟨_, (N _ ha).1, rfl, k, rfl⟩
  have la : ax < s₁.heap.objs.size := Heap.lt_size (N _ ha).1
  have le : e < s₁.heap.objs.size := Heap.lt_size (N _ he).1
  have up : ∀ b o, s₁.heap.get? b = some o → (s₁.heap.push { cls := .type "list_iterator", data := .fields #[.ref ax, .int 0 0] }).get? b = some o := fun b o e => Heap.get?_push_of_some _ e
  refine wpAny_pyIter_list hl ?_
  refine LCg.block_U (list_walks_H hh hc (Nat.ne_of_lt la) (Nat.ne_of_lt le) its) hsz (fun i h st => by obtain ⟨o, e, _⟩ := st.1.1; exact ⟨o, e⟩) ?_ hcell hkind hx ⟨⟨⟨_, Heap.get?_push_size _ rfl, rfl, rfl⟩, hl.push _⟩, up _ _ (N _ he).1⟩ (fun b hb => ?_)
      (F.keeps up) (N.grown up) (Nat.ne_of_lt F.ns.lt) (next_is_new F) (fun p hp => Nat.ne_of_lt (Heap.lt_size (N p hp).1)) ⟨ha, he⟩ (R _) ?_
  · intro i h h' o nw st e1 e2 _ N' S
    obtain ⟨o', q, r⟩ := st.1.1
    rw [e1] at q
    cases q
    exact ⟨⟨⟨o, e2, r⟩, ⟨_, (N' _ S.1).1, rfl, k, rfl⟩⟩, (N' _ S.2).1⟩
  · show b < (s₁.heap.push _).objs.size
    rw [Heap.size_push]
    simp only [List.mem_cons, List.not_mem_nil, or_false] at hb
    rcases hb with rfl | rfl | rfl
    · exact Nat.lt_succ_self _
    · exact Nat.lt_succ_of_lt la
    · exact Nat.lt_succ_of_lt le
  · intro D C h tk m' ys news' F' N' o1 hn hC₀ hD₀ hCL hDL hCD offC fin
    refine ⟨m', hn, fun h'' hs'' => fin D h'' tk (F'.change hs'' hCL hC₀) (fun p hp => ?_) o1⟩
    refine ⟨hs''.extBut _ _ ?_ (N' p hp).1, (N' p hp).2⟩
    rcases List.mem_cons.mp hp with rfl | hp
    · exact Ne.symm hCD
    · exact offC p hp
end
end Mine
end
-- HD
section
namespace Mine
def topRunT (tb : String → Option Builtin) (p : Program) (w : World) (n₀ : Nat) (ann : Option Value) : Nat → SharedT → Thread → Option SharedT
  | 0, _, _ => none
  | n + 1, s, t => match through t with
    | true => some s
    | false => match stepOk n₀ ann t with
      | false => none
      | true => match stepT (denote tb) p w s t with
        | some (s', t') => topRunT tb p w n₀ ann n s' t'
        | none => none
theorem topRunT_spec {tb : String → Option Builtin} {p : Program} {w : World} {n₀ : Nat} {ann : Option Value} : ∀ {n : Nat} {s s' : SharedT} {t : Thread}, topRunT tb p w n₀ ann n s t = some s' → topRun tb p w n₀ ann n s.abs t = some s'.abs
  | 0, _, _, _, h => by cases h
  | n + 1, s, s', t, h => by
    unfold topRunT at h
    unfold topRun
    cases he : through t with
    | true => rw [he] at h; cases h; rfl
    | false =>
      rw [he] at h
      cases hk : stepOk n₀ ann t with
      | false => rw [hk] at h; cases h
      | true =>
        rw [hk] at h
        cases hs : stepT (denote tb) p w s t with
        | none => rw [hs] at h; cases h
        | some r => obtain ⟨s₂, t₂⟩ := r; rw [hs] at h; dsimp only; rw [stepT_spec hs]; exact topRunT_spec h
def ofL : List Obj → Nat → BT → BT
  | [], _, t => t
  | o :: l, i, t => ofL l (i + 1) (t.ins i o)
noncomputable def st0 (w : World) (os : OsState) : SharedT := ⟨ofL (boot_heap w.params).objs.toList 0 .nil, 11, (boot_heap w.params).life, #[], boot_drawn, boot_toks, os⟩
theorem st0_abs : ∀ (w : World) (os : OsState), (st0 w os).abs = ⟨boot_heap w.params, #[], boot_drawn, boot_toks, os⟩ := fun w os => by kernel_rfl
theorem boot_main : ∀ w : World, ((boot_heap w.params).isNs mainGlobals && (#[] : Array GenState).size == 0) = true := fun w => by kernel_rfl
theorem boot_size : ∀ w : World, (boot_heap w.params).objs.size = 11 := fun w => by kernel_rfl
theorem boot_ann : ∀ w : World, (boot_heap w.params).nsMap mainGlobals "__annotations__" = some (.ref 6) := fun w => by kernel_rfl
/-- the program, its names as lists of numbers -/
noncomputable def pwT : Program := by
  refine (?f : (p : Program) → PySem.Challenge.pw_pq0183_01 = p → Program) ?p ?h
  case f => exact fun p _ => p
  case h =>
    unfold PySem.Challenge.pw_pq0183_01
    str_meet
    exact rfl
theorem pwT_eq : PySem.Challenge.pw_pq0183_01 = pwT := by kernel_rfl
noncomputable def rwT : OpenLaw := by
  refine (?f : (l : OpenLaw) → PySem.Challenge.rw_pq0183_01 = l → OpenLaw) ?p ?h
  case f => exact fun l _ => l
  case h =>
    unfold PySem.Challenge.rw_pq0183_01
    rewrite [pwT_eq]
    str_meet
    exact rfl
theorem rwT_eq : PySem.Challenge.rw_pq0183_01 = rwT := by
  unfold PySem.Challenge.rw_pq0183_01
  rewrite [pwT_eq]
  kernel_rfl
theorem said_T : rwT.wellSaid = true := by k_qdec
theorem said_ok : PySem.Challenge.rw_pq0183_01.wellSaid = true := by
  rewrite [rwT_eq]
  exact said_T
noncomputable def FinP (p : Program) (w : World) (os : OsState) : Option SharedT := topRunT treeTable p w 11 (some (.ref 6)) 3364 (st0 w os) (topStub p)
def q : Program := view PySem.Challenge.pw_pq0183_01 [82]
def loose : List PySem.Str := [.ofString "MOST_EXPONENT", .ofString "BasicError", .ofString "figures_of", .ofString "rounded_by", .ofString "made", .ofString "whole_near", .ofString "fits", .ofString "whole_of", .ofString "decimal_of", .ofString "is_nought", .ofString "is_true", .ofString "sign_of", .ofString "ONE", .ofString "MOST_POWER", .ofString "d_negated", .ofString "alike", .ofString "d_add", .ofString "d_sub", .ofString "d_mul", .ofString "with_rest", .ofString "d_div", .ofString "d_compare", .ofString "d_power", .ofString "square_or_end", .ofString "is_whole", .ofString "settled", .ofString "whole_reckoned", .ofString "cut_quotient", .ofString "cut_rest", .ofString "exponent_of", .ofString "whole_power", .ofString "raised", .ofString "reckoned", .ofString "order_of", .ofString "MOST_NUMBER", .ofString "Control", .ofString "put_upon", .ofString "floor_of", .ofString "found_at", .ofString "cut_to", .ofString "is_past", .ofString "for_begin", .ofString "for_name", .ofString "for_next", .ofString "while_begin", .ofString "while_end", .ofString "wend_place", .ofString "gosub", .ofString "return_place", .ofString "chosen", .ofString "Flat", .ofString "put_row_of", .ofString "put_if", .ofString "put_all", .ofString "gather", .ofString "join_rows", .ofString "end_loops", .ofString "flatten", .ofString "place_of", .ofString "line_of", .ofString "end_of_while", .ofString "next_of_for", .ofString "JUMPS", .ofString "do_flow", .ofString "do_jump", .ofString "do_loop", .ofString "do_for", .ofString "next_from", .ofString "FlowRun", .ofString "_law_ask", .ofString "_law_plan", .ofString "_law_told", .ofString "_law_lines", .ofString "_law_gone", .ofString "_law_noted"]
noncomputable def looseT : List PySem.Str := by
  refine (?f : (l : List PySem.Str) → loose = l → List PySem.Str) ?p ?h
  case f => exact fun l _ => l
  case h =>
    unfold loose
    str_meet
    exact rfl
theorem loose_eq : loose = looseT := by kernel_rfl
noncomputable def XtP (p : Program) (s : Shared) : Bool := xlAt (view p [82]) [] s && recOk [] s
noncomputable abbrev Xt : Shared → Bool := XtP PySem.Challenge.pw_pq0183_01
noncomputable def ZP (p : Program) (loose : List PySem.Str) (as : List Addr) (w : World) (os : OsState) := (FinP p w os).map fun s =>
  ((staticsOk (importedModules p.main.body) (boot_heap w.params) s.abs.heap && namesBound p s.abs.heap && gensDone s.abs && laidKept (boot_heap w.params) s.abs.heap && as.all fun a => Nat.blt a s.n),
   openSeen (view p [82]) loose (importedModules p.main.body) (XtP p) true s.abs,
   as.map fun a => (s.tree.get a).bind alive)
noncomputable def Z (as : List Addr) (w : World) (os : OsState) := ZP pwT looseT as w os
theorem as_get {t : BT} {n : Nat} {life : Life} : ∀ {as : List Addr} {L : List Obj}, (as.all fun a => Nat.blt a n) = true → (as.map fun a => (t.get a).bind alive) = L.map some → as.map (absHeap t n life).get? = L.map some
  | [], L, _, h => by simpa using h
  | a :: as, [], _, h => by simp at h
  | a :: as, o :: L, ha, h => by
    simp only [List.map_cons, List.cons.injEq] at h ⊢
    simp only [List.all_cons, Bool.and_eq_true] at ha
    refine ⟨?_, as_get ha.2 h.2⟩
    have lt : a < n := Nat.le_of_ble_eq_true ha.1
    obtain ⟨x, hx, hy⟩ := Option.bind_eq_some_iff.mp h.1
    rw [abs_get lt hx, hy]
theorem left_gen {p q : Program} {loose : List Str} {Xt : Shared → Bool} {K : Params → Frag} {as : List Addr} {N M k : Nat} {g0 : Bool} {H₀ : Params → Heap} {gs₀ : Array GenState} {d₀ : Drawn} {k₀ m₀ : Nat} {ann : Option Value} {T0 : World → OsState → SharedT} {ts : List Addr} (e : ∀ P, as = (K P).map (·.1))
    (open_ : ∀ w : World, (fencedOpening treeTable p w N).map (fun s => (s.heap, s.gens, s.drawn, s.toks)) = some (H₀ w.params, gs₀, d₀, k₀))
    (hm : ∀ w : World, ((H₀ w.params).isNs mainGlobals && gs₀.size == 0) = true) (hs : ∀ w : World, (H₀ w.params).objs.size = m₀) (ha : ∀ w : World, (H₀ w.params).nsMap mainGlobals "__annotations__" = ann)
    (ht : ∀ w os, (T0 w os).abs = ⟨H₀ w.params, gs₀, d₀, k₀, os⟩) (hN : N = M + k)
    (h : ∀ (w : World) (os : OsState), (topRunT treeTable p w m₀ ann M (T0 w os) (topStub p)).map (fun s =>
      ((staticsOk (importedModules p.main.body) (H₀ w.params) s.abs.heap && namesBound p s.abs.heap && gensDone s.abs && laidKept (H₀ w.params) s.abs.heap && (as ++ ts).all fun a => Nat.blt a s.n),
       openSeen q loose (importedModules p.main.body) Xt g0 s.abs,
       (as ++ ts).map fun a => (s.tree.get a).bind alive)) = some (true, openGood q loose, ((K w.params).map fun p => some p.2) ++ ts.map fun _ => some (tabObj #[]))) :
    LeftO p q loose Xt (Hook.obs (kmHook K as e ts)) (Hook.val (kmHook K as e ts)) N g0 := by
  intro w
  obtain ⟨s, hs', hv⟩ := Option.map_eq_some_iff.mp (open_ w)
  obtain ⟨h0, gs, d, kk, os⟩ := s
  obtain ⟨rfl, rfl, rfl, rfl⟩ : h0 = H₀ w.params ∧ gs = gs₀ ∧ d = d₀ ∧ kk = k₀ := by simpa using hv
  obtain ⟨sf, hf, hz⟩ := Option.map_eq_some_iff.mp (h w os)
  have r := topRun_mono k _ _ _ _ (topRunT_spec hf)
  rw [ht] at r
  simp only [Prod.mk.injEq] at hz
  obtain ⟨z1, z2, z3⟩ := hz
  rw [Bool.and_eq_true] at z1
  have t : topFrom treeTable p w N ⟨H₀ w.params, gs, d, kk, os⟩ = some sf.abs := by
    unfold topFrom
    dsimp only
    rw [hm, hs, ha]
    dsimp only
    rw [hN, r]
    show (match staticsOk (importedModules p.main.body) (H₀ w.params) sf.abs.heap && namesBound p sf.abs.heap && gensDone sf.abs && laidKept (H₀ w.params) sf.abs.heap with | true => _ | false => _) = _
    rw [z1.1]
  unfold openEnds
  rw [hs']
  show (topFrom treeTable p w N _).map _ = _
  rw [t]
  refine congrArg some (Prod.ext z2 ?_)
  have z3' : ((as ++ ts).map fun a => (sf.tree.get a).bind alive) = ((K w.params).map (·.2) ++ ts.map fun _ => (tabObj #[] : Obj)).map some := by rw [z3, List.map_append, List.map_map, List.map_map]; rfl
  have z4 := as_get z1.2 z3' (life := sf.life)
  rw [List.map_append, List.map_append] at z4
  have z5 := List.append_inj z4 (by rw [e w.params]; simp)
  show (as.map (absHeap sf.tree sf.n sf.life).get?, ts.map (absHeap sf.tree sf.n sf.life).get?) = ((K w.params).map fun p => some p.2, ts.map fun _ => some (tabObj #[]))
  rw [z5.1, z5.2, List.map_map, List.map_map]; rfl
theorem open_ok : ∀ w : World, (fencedOpening treeTable PySem.Challenge.pw_pq0183_01 w 6826).map (fun s => (s.heap, s.gens, s.drawn, s.toks)) = some (boot_heap w.params, Array.mk [], boot_drawn, boot_toks) :=
  have ho : opening PySem.Challenge.pw_pq0183_01 = plainProg PySem.Challenge.pw_pq0183_01.main.scope.names := by kernel_rfl
  boot_open (p := PySem.Challenge.pw_pq0183_01) (N := 6826) ho (by decide) (fun s => by kernel_rfl)
theorem left_of (K : Params → Frag) (as : List Addr) (e : ∀ P, as = (K P).map (·.1)) (ts : List Addr) (h : ∀ w os, Z (as ++ ts) w os = some (true, openGood q loose, ((K w.params).map fun p => some p.2) ++ ts.map fun _ => some (tabObj #[]))) : LeftO PySem.Challenge.pw_pq0183_01 q loose Xt (Hook.obs (kmHook K as e ts)) (Hook.val (kmHook K as e ts)) 6826 :=
  have h2 : ∀ w os, ZP PySem.Challenge.pw_pq0183_01 loose (as ++ ts) w os = some (true, openGood q loose, ((K w.params).map fun p => some p.2) ++ ts.map fun _ => some (tabObj #[])) := fun w os => by
    rewrite [pwT_eq, loose_eq]
    rewrite [loose_eq] at h
    exact h w os
  left_gen (k := 3462) e open_ok boot_main boot_size boot_ann st0_abs rfl h2
theorem zprime : (fun (_ : List Addr → World → OsState → Option (Bool × _ × List (Option Obj))) => true) Z = true := by k_qdec
abbrev row : OpenRow := OpenLaw.row PySem.Challenge.rw_pq0183_01
theorem ok_row : (chainsOk q && opensWell row.prog && (frees row.toRowW && row.within.isEmpty)) = true := by decide +kernel
theorem bare_row : row.prog.bare := ⟨rfl, rfl, rfl, rfl, rfl, by decide +kernel⟩
def LeftH (H : Hook) : Prop := LeftO PySem.Challenge.pw_pq0183_01 q loose Xt (Hook.obs H) (Hook.val H) 6826
theorem leftH (K : Params → Frag) (as : List Addr) (e : ∀ P, as = (K P).map (·.1)) (ts : List Addr) (h : ∀ w os, Z (as ++ ts) w os = some (true, openGood q loose, ((K w.params).map fun p => some p.2) ++ ts.map fun _ => some (tabObj #[]))) : LeftH (kmHook K as e ts) := left_of K as e ts h
theorem hd_open {d : DefRec} {kwd : List (PySem.Str × PySem.Expr)} (k1 : row.wellSaid = true) (H : Hook) (hl : LeftH H)
    (hdef : defOf q row.name = some (d, kwd)) (hp : row.prog.theDef row.name = some (d.params, d.body, d.scope)) (hk : kwWritten? d.params.kwonlyargs d.params.kw_defaults = some kwd) (hw : row.toRowW.promised)
    (call : WalkO q loose (XL q []) (Hook.says H) row.toRowW d kwd fun f vs => PySem.call f vs) : row.Holds :=
  holds_open (N := 6826) hl (Hook.of H) (Hook.keeps H) (fun _ e => xl_of _ (Bool.and_eq_true_iff.mp e).1) XL.keeps hdef hp hk (fun _ e => recFacts_of (Bool.and_eq_true_iff.mp e).2) rfl k1 ok_row bare_row hw call
local macro_rules | `(tactic| o_law) => `(tactic| refine holds_law Mine.said_ok fun said => ?_)
local macro_rules
  | `(tactic| o_head $H:term) => `(tactic| (
      refine' hd_open ?k1 $H ?hl ?hdef ?hp ?hk ?hw ?hc
      (case k1 => assumption)
      (case hdef => rfl)
      (case hp => rfl)
      (case hk => rfl)
      (case hl =>
        refine leftH _ _ _ _ ?_
        intro w os
        rewrite [PySem.W.Fast.te3877076413022425093]
        kernel_rfl)))
open_top hd for PySem.Challenge.rw_pq0183_01
end Mine
end
-- MB
section
theorem Mine.offMB : True := by
  w_top off
  k_with_none
  trivial
namespace Mine
theorem fill : PySem.Challenge.rw_pq0183_01 = PySem.Challenge.rw_pq0183_01 ∧ hd.heap_1 = hd.heap_1 := by
  k_fill
  exact ⟨rfl, rfl⟩
abbrev ent (w : World) (n : String) (t : Tok) (v : Value) : DictEntry := { hash := PyData.keyHash w.params (Str.ofString n), key := .str (Str.ofString n) t, val := v }
def word : Stm → Str
  | .rem _ => Str.ofString "REM"
  | .gosub _ => Str.ofString "GOSUB"
  | .ret _ => Str.ofString "RETURN"
def lineNo (i : Nat) : Int := 10 * (1 + (i : Int))
def numText (k : Nat) : Str := Str.ofString (toString k)
def argDat : Stm → Dat
  | .rem k => .str (numText k)
  | .gosub l => .int (lineNo l)
  | .ret none => .none
  | .ret (some g) => .int (lineNo g)
def stmDat (st : Stm) : Dat := .tuple [.str (word st), argDat st]
theorem stm_inv {rest : List (Addr × Obj)} {v : Value} {st : Stm} (h : DatIn rest v (stmDat st)) : ∃ a tk n arg, v = .ref a ∧ (a, ({ cls := .type "tuple", data := .seq [Value.str (word st) tk, arg].toArray n } : Obj)) ∈ rest ∧ DatIn rest arg (argDat st) := by
  obtain ⟨a, v1, v2, n, e, hm, h1, h2⟩ := dat_two h
  obtain ⟨tk, rfl⟩ := dat_str h1
  exact ⟨a, tk, n, v2, e, hm, h2⟩
theorem word_ne (st : Stm) : (word st == Str.ofString "IF") = false := by cases st <;> rfl
def rowDat (r : Int × Stm) : Dat := .tuple [.int r.1, stmDat r.2]
theorem row_inv {rest : List (Addr × Obj)} {v : Value} {r : Int × Stm} (h : DatIn rest v (rowDat r)) : ∃ a tk n va vt vn arg, v = .ref a ∧ (a, ({ cls := .type "tuple", data := .seq [Value.int r.1 tk, Value.ref va].toArray n } : Obj)) ∈ rest ∧ (va, ({ cls := .type "tuple", data := .seq [Value.str (word r.2) vt, arg].toArray vn } : Obj)) ∈ rest ∧ DatIn rest arg (argDat r.2) := by
  obtain ⟨a, v1, v2, n, e, hm, h1, h2⟩ := dat_two h
  obtain ⟨tk, rfl⟩ := dat_int h1
  obtain ⟨va, vt, vn, arg, rfl, h3, h4⟩ := stm_inv h2
  exact ⟨a, tk, n, va, vt, vn, arg, e, hm, h3, h4⟩
/-- the dict of a Flat -/
abbrev flatD (w : World) (t1 t2 t3 t4 t5 t6 : Tok) (R P D2 P2 L2 F2 : Addr) : Obj := dictOf [ent w "rows" t1 (.ref R), ent w "places" t2 (.ref P), ent w "data" t3 (.ref D2), ent w "pairs" t4 (.ref P2), ent w "loops" t5 (.ref L2), ent w "fns" t6 (.ref F2)] 6
end Mine
end
section
local macro_rules | `(tactic| k_room) => `(tactic| ktr_room)
local macro_rules | `(tactic| k_units) => `(tactic| ktr_units)
local macro_rules | `(tactic| k_all) => `(tactic| assumption)
local macro_rules | `(tactic| k_mem) => `(tactic| first | exact List.mem_cons_self | (refine List.mem_cons_of_mem _ ?_; k_mem))
local macro_rules | `(tactic| walk_at $s:str) => `(tactic| k_extra $s)
-- E4
section
theorem Mine.offE4 : True := by
  w_top off
  k_with_none
  trivial
local macro_rules | `(tactic| walk_at "none") => `(tactic| skip)
namespace Mine
section
local macro_rules | `(tactic| k_inst) => `(tactic| first | (refine' inst_exc ?N ?h; (case N => k_asm); (case h => k_mem)) | (refine' inst_excD ?N ?h ?d; (case N => k_asm); (case h => k_mem); (case d => k_mem)))
theorem hx34 (P : Params) : excInI (hd.heap_1 P) 34 33 [.type "Exception", .type "BaseException", .type "object"] "Exception.__new__" 31 = true := by kernel_rfl
theorem lk_code : typeLookup (.type "Exception") "code" = pure none := by rw [typeLookup_type, builtinLookup_eq_fast]; kernel_rfl
theorem lk_told : typeLookup (.type "Exception") "told" = pure none := by rw [typeLookup_type, builtinLookup_eq_fast]; kernel_rfl
theorem mk_err {w : World} {p : Program} {loose : List Str} {mean : ExcName → Option Value} {mg mb : Str → Option Value}
    {dp un : Nat} {gd : Option (List Code)} {cn : Str} {cs : Scope} {a : Addr} {ccd : Value} {cl : List (Str × Addr)} {outer : List Env} {A₀ : Around} {base h₀ : Heap} {L : Addr} {m : Str → Option Value} {s : Shared} {Q E : Value → Shared → Prop}
    (B : Below A₀ base outer h₀) (F : Fr h₀ L s.heap m) (X : (hd.heap_1 w.params).In h₀) (T : Top p loose mean mg mb h₀) (hk : cs.kind = .function)
    {x : Str} {t1 : Tok} {rest : List (Addr × Obj)}
    (N : News h₀ L s.heap rest)
    (hd : dp + 3 < recursionLimit) (hu : un + 40 < cLine)
    (ret : ∀ e t d od h' tk' tk, Fr h₀ L h' m → News h₀ L h' ((e, excObj 34 t (some d)) :: (d, od) :: (t, tupObj [.str x t1]) :: rest) → NsIs od (fun y => if y = "told" then some (.str "" tk) else if y = "code" then some (.str x t1) else none) →
      (∀ p ∈ rest, p.1 ≠ e) → (∀ p ∈ rest, p.1 ≠ t) → (∀ p ∈ rest, p.1 ≠ d) → e ≠ t → d ≠ e → d ≠ t → Q (.ref e) { s with heap := h', toks := tk' }) :
    wpAny (model PySem.Challenge.pw_pq0183_01 w) (ktrTop dp un gd cn cs L a ccd cl outer) (call (.ref 34) [.str x t1]) Q E s := by
  k_dflt (refine' mk_own (fI := 31) PySem.F.excBase_Exception ?k1 ?k2 ?k3 ?k4 ?k5 ?k6 ?_)
  case k1 => k_asm
  case k2 => k_asm
  case k3 => k_asm
  case k4 => exact hx34 _
  case k5 => k_is
  case k6 => size_fits
  intro e t h' F' N' n1 n2 n3
  k_dflt (refine wpAny_call ?_)
  k_dflt (refine' ks_code_super ?k1 ?k2 ?k3 ?k4 ?k5 ?kA ?kF ?kK ?k6 ?k7 ?k8 ?k9 ?kB ?_ ?c1 ?c2 ?c3 ?c4)
  case kA => exact rfl
  case kF => exact rfl
  case kK => first | exact rfl | assumption
  case k1 => k_asm
  case k2 => k_asm
  case k3 => k_asm
  case k4 => k_asm
  case k5 => k_asm
  case k6 => k_is
  case k7 => k_is
  case k8 => k_room
  case k9 => exact binds_K (by k_in) rfl (by k_is) rfl rfl rfl
  case kB => exact locs rfl
  case c1 => decide
  case c2 => exact rfl
  case c3 => exact rfl
  case c4 => exact rfl
  intro g' L' h' FG' F' N' B' X' T' l1
  (try k_lt l1)
  (try dsimp only)
  (try k_lift B')
  k_steps
  k_dflt (refine' gmK ?a1 ?a2 ?a3 ?a4 ?a5 ?a6 ?a7 ?a8 ?_)
  case a1 => k_asm
  case a2 => k_asm
  case a3 => k_asm
  case a4 => k_mem
  case a5 => k_inst
  case a6 => k_is
  case a7 => ks_is
  case a8 => k_is
  intro q h' F' N' l2
  k_lt l2
  k_steps
  k_dflt (refine callWith_wrap1 (e := e) ?_)
  k_steps
  all_goals try exact (N' _ List.mem_cons_self).1
  have hb := (N' _ List.mem_cons_self).1
  have Ne : News g' L' h' ((e, excObj 34 t none) :: rest) := newsSub N' (fun p hp => List.mem_cons_of_mem _ (List.mem_cons_of_mem _ ((List.mem_cons.mp hp).elim (fun z => z ▸ List.mem_cons_self) fun z => List.mem_cons_of_mem _ (List.mem_cons_of_mem _ z))))
  clear N' l2
  k_dflt (refine call_wrap PySem.F.excBase_Exception F' X' (hx34 _) hb Ne n1 (by size_fits) ?_)
  clear Ne hb
  intro t2 h' F' N' l2 l3
  k_steps
  have n1' : ∀ p ∈ (t2, tupObj [Value.str x t1]) :: rest, p.1 ≠ e := List.forall_mem_cons.mpr ⟨Nat.ne_of_gt l3, n1⟩
  k_dflt (refine set1 PySem.F.store_Exception F' X' N' n1' (hx34 _) (by k_is) (by k_is) lk_code ?_)
  clear N'
  intro d od h' F' N' hod n4 n5
  k_steps
  k_dflt (refine set2 (ns := [("code" : Str)]) PySem.F.store_Exception F' X' N' n1' n4 n5 hod (hx34 _) (by k_is) (by k_is) lk_told (Within.cons _ _ Within.nil) (by size_fits) ?_)
  clear N' hod
  intro od h' tk' F' N' hod
  k_steps
  exact ret e t2 d od h' tk' _ (by k_asm) (by k_asm) hod n1 (fun p hp => Nat.ne_of_lt (l2 p hp)) (fun p hp => n4 p (List.mem_cons_of_mem _ hp)) (Nat.ne_of_lt l3) n5 (Ne.symm (n4 _ List.mem_cons_self))
end
end Mine
end
-- R1
section
theorem Mine.offR1 : True := by
  w_top off
  k_with_none
  trivial
namespace Mine
section
/-- the dict of a Control -/
abbrev ctlD (w : World) (t1 t2 t3 t4 t5 : Tok) (P : Addr) : Obj := dictOf [ent w "pile" t1 (.ref P), ent w "most" t2 (.int 20 t3), ent w "failed_at" t4 (.int (-1) t5)] 3
theorem kwR1_1 : True := by
  k_with "exec Raise some none" => ((k_here; k_dflt (refine raise_own 34 rfl ?_)))
  trivial
theorem kwR1_2 : True := by
  k_with "call ref" => ((k_here; k_dflt (refine wpAny_call ?_; (refine' code_def (by k_asm) (by k_asm) (by k_asm) (by k_asm) (by k_asm) (by exact rfl) (by exact rfl) (by first | exact rfl | assumption) (by k_is) (by k_is) (by ktr_room) (by exact BindsTo.of_eq rfl) (by exact locs rfl) ?_ (by exact rfl) (by exact rfl) (by exact rfl) (by decide); k_whole; intro zzg' zzL' zzh' zzFG' zzF' zzN' zzB' zzX' zzT'; (try dsimp only); (try k_fold)))))
  trivial
theorem kt34 {P : Params} : ktsIn (hd.heap_1 P) 34 "BaseException" = true := by kernel_rfl
theorem ret_raise {w : World} {p : Program} {loose : List Str} {mean : ExcName → Option Value} {mg mb : Str → Option Value}
    {dp un : Nat} {gd : Option (List Code)} {cn : Str} {cs : Scope} {a : Addr} {ccd : Value} {cl : List (Str × Addr)} {outer : List Env} {A₀ : Around} {base h₀ : Heap} {L : Addr} {m : Str → Option Value} {s : Shared} {Q E : Value → Shared → Prop}
    (B : Below A₀ base outer h₀) (F : Fr h₀ L s.heap m) (X : (hd.heap_1 w.params).In h₀) (T : Top p loose mean mg mb h₀) (hk : cs.kind = .function)
    {ct cd P : Addr} {t1 t2 t3 t4 t5 : Tok} {n : Nat} {rest : List (Addr × Obj)}
    (N : News h₀ L s.heap rest) (h1 : (ct, instObj 265 cd) ∈ rest) (h2 : (cd, ctlD w t1 t2 t3 t4 t5 P) ∈ rest) (h3 : (P, listOf #[] n) ∈ rest)
    (hd : dp + 6 < recursionLimit) (hu : un + 60 < cLine)
    (err : ∀ g' e t d od h' tk' tk tk2, Fr h₀ L g' m → RaisedD base g' (envX cn cs L a ccd cl :: outer) e 34 t d [.str "RG" tk] ((d, od) :: rest) h' → g'.UpToSlots h' → NsIs od (fun y => if y = "told" then some (.str "" tk2) else if y = "code" then some (.str "RG" tk) else none) → d ≠ e →
      (∀ p ∈ rest, p.1 ≠ d) → (∀ p ∈ rest, p.1 ≠ e) → E (.ref e) { s with heap := h', toks := tk' }) :
    wpAny (model PySem.Challenge.pw_pq0183_01 w) (ktrTop dp un gd cn cs L a ccd cl outer) (call (.ref 356) [.ref ct]) Q E s := by
  refine wpAny_call ?_
  k_dflt ktr_enter
  k_steps
  k_dflt (refine' mk_err ?B ?F ?X ?T ?hk ?N ?hd ?hu ?_)
  case B => k_asm
  case F => k_asm
  case X => k_asm
  case T => k_asm
  case hk => first | exact rfl | assumption
  case N => k_asm
  case hd => ktr_room
  case hu => ktr_units
  intro e t d od h' tk' tk2 F' N' hod ne nt nd het hde hdt
  have hc : ExcC h' 34 := by
    obtain ⟨nm, qn, N, bs, bm, hdct, sn, sub, ab, col, dd, k0, k1, k2, k3, k5, newId, hC, hb, _⟩ := kts_cls (T := "BaseException") (Frag.In.keeps (by assumption : (Mine.hd.heap_1 w.params).In _) F'.keep) (C := 34) kt34
    exact ⟨nm, qn, N, bs, bm, hdct, sn, sub, ab, col, dd, k0, k1, k2, k3, k5, newId, hC, hb⟩
  refine ⟨e, _, _, rfl, (N' _ List.mem_cons_self).1, rfl, rfl, rfl, hc, ?_⟩
  have N2 : News _ _ _ ((e, excObj 34 t (some d)) :: (t, tupObj [Value.str (Str.ofString "RG") tk]) :: (d, od) :: rest) := newsSub N' (fun p hp => by simp only [List.mem_cons] at hp ⊢; rcases hp with z | z | z | z <;> simp [z])
  with_unfolding_all refine leave_firstD (by k_asm) F' N2 (List.forall_mem_cons.mpr ⟨hde, ne⟩) (List.forall_mem_cons.mpr ⟨hdt, nt⟩) ?_
  intro h9 R9 U9
  refine err _ e t d od h9 _ tk tk2 (by k_asm) R9 U9 hod hde nd ne
end
end Mine
end
-- R2
section
theorem Mine.offR2 : True := by
  w_top off
  k_with_none
  trivial
namespace Mine
section
theorem tupK {K : Frag} {h₀ h : Heap} {L t n : Nat} {m : Str → Option Value} {items : Array Value} {d : Option Addr} {sl : Array (Option Value)} (X₀ : K.In h₀) (F : Fr h₀ L h m) (e : K.lookup t = some ⟨.type "tuple", d, .seq items n, sl⟩) : IsTup h t items := ⟨_, F.keep _ _ (X₀ _ _ e), rfl, n, rfl⟩
theorem kwR2_1 : True := by
  k_with "compareOp In str ref" => ((k_here; (with_reducible show wpAny _ _ (compareOp CmpOp.In (Value.str _ _) (Value.ref 462)) _ _ _); k_dflt (refine' in_tuple_strs (by (refine' tupK (by k_asm) (by k_asm) (by k_is))) (by kde_strs) ?_)))
  trivial
local macro_rules | `(tactic| walk_at "leaving ref") => `(tactic| (k_here; with_unfolding_all (refine' leave_onD ?K ?F ?R ?U ?_; (case R => assumption); (case F => assumption); (case K => assumption); (case U => assumption)); intro h' R' U'))
/-- the dict of a FlowRun -/
abbrev runD (w : World) (t1 t2 t3 t4 t5 t6 t7 t8 t9 : Tok) (fl vd ct nt : Addr) (lam : Value) : Obj := dictOf [ent w "flat" t1 (.ref fl), ent w "values" t2 (.ref vd), ent w "worth_of" t3 lam, ent w "bits" t4 (.int 16 t5), ent w "digits" t6 (.int 9 t7), ent w "control" t8 (.ref ct), ent w "notes" t9 (.ref nt)] 7
theorem kwR2_2 : True := by
  k_with "call ref" => ((k_here; (with_reducible show wpAny _ _ (call (Value.ref 356) _) _ _ _); k_dflt (refine' ret_raise (by k_asm) (by k_asm) (by k_asm) (by k_asm) (by first | exact rfl | assumption) (by k_asm) (by k_mem) (by k_mem) (by k_mem) (by ktr_room) (by ktr_units) ?_)))
  trivial
theorem flow_raise {w : World} {p : Program} {loose : List Str} {mean : ExcName → Option Value} {mg mb : Str → Option Value}
    {dp un : Nat} {gd : Option (List Code)} {cn : Str} {cs : Scope} {a : Addr} {ccd : Value} {cl : List (Str × Addr)} {outer : List Env} {A₀ : Around} {base h₀ : Heap} {L : Addr} {m : Str → Option Value} {s : Shared} {Q E : Value → Shared → Prop}
    (B : Below A₀ base outer h₀) (F : Fr h₀ L s.heap m) (X : (hd.heap_1 w.params).In h₀) (T : Top p loose mean mg mb h₀) (hk : cs.kind = .function)
    {rn rd fl vd ct cd nt P va : Addr} {lam arg : Value} {t1 t2 t3 t4 t5 t6 t7 t8 t9 c1 c2 c3 c4 c5 vt ta : Tok} {n vn : Nat} {at_ : Int} {rest : List (Addr × Obj)}
    (N : News h₀ L s.heap rest) (r1 : (rn, instObj 556 rd) ∈ rest) (r2 : (rd, runD w t1 t2 t3 t4 t5 t6 t7 t8 t9 fl vd ct nt lam) ∈ rest) (h1 : (ct, instObj 265 cd) ∈ rest) (h2 : (cd, ctlD w c1 c2 c3 c4 c5 P) ∈ rest) (h3 : (P, listOf #[] n) ∈ rest)
    (hv : (va, ({ cls := .type "tuple", data := .seq [Value.str (Str.ofString "RETURN") vt, arg].toArray vn } : Obj)) ∈ rest)
    (hd : dp + 9 < recursionLimit) (hu : un + 84 < cLine)
    (err : ∀ g' e t d od h' tk' tk tk2, Fr h₀ L g' m → RaisedD base g' (envX cn cs L a ccd cl :: outer) e 34 t d [.str "RG" tk] ((d, od) :: rest) h' → g'.UpToSlots h' → NsIs od (fun y => if y = "told" then some (.str "" tk2) else if y = "code" then some (.str "RG" tk) else none) → d ≠ e →
      (∀ p ∈ rest, p.1 ≠ d) → (∀ p ∈ rest, p.1 ≠ e) → E (.ref e) { s with heap := h', toks := tk' }) :
    wpAny (model PySem.Challenge.pw_pq0183_01 w) (ktrTop dp un gd cn cs L a ccd cl outer) (call (.ref 469) [.ref rn, .int at_ ta, .ref va]) Q E s := by
  refine wpAny_call ?_
  k_dflt ktr_enter
  k_steps
  refine' err _ _ _ _ _ _ _ _ _ ?f1 ?f2 ?f3 ?f4 ?f5 ?f6 ?f7
  case f2 => assumption
  all_goals assumption
end
end Mine
end
-- W2
section
theorem Mine.offW2 : True := by
  w_top off
  k_with_none
  trivial
local macro_rules | `(tactic| walk_at "none") => `(tactic| skip)
namespace Mine
theorem last_is (vs : List Value) (y : Value) : kl_last (vs ++ [y]).toArray.toList = some (vs, y) := by
  have e := kpa_last y vs
  simpa using e
local macro_rules | `(tactic| walk_at "call builtin:list.pop") => `(tactic| (k_here; (with_reducible show wpAny _ _ (call (Value.builtin _) [Value.ref _]) _ _ _); k_dflt (refine' kl_pop ?F ?N ?e ?U ?z ?_; (case F => k_asm); (case N => k_asm); (case U => k_upd); (case e => exact last_is _ _); (case z => (rw [PySem.sizeLine_eq]; simp; omega))); (intro h' F' N'; (try dsimp only [List.nil_append, List.cons_append] at N'))))
theorem kwW2_2 : True := by
  k_with "call builtin:len" => ((k_here; (with_reducible show wpAny _ _ (call (Value.builtin "len") [Value.ref _]) _ _ _); k_dflt (refine' len_list (by exact News.isList (by k_asm) (by k_mem)) (by (simp; omega)) ?_)))
  trivial
theorem fm (a b : Int) (h : 1 ≤ b) : 0 ≤ a.fmod b ∧ a.fmod b < b := ⟨Int.fmod_nonneg_of_pos _ (by omega), Int.fmod_lt_of_pos _ (by omega)⟩
theorem ints_snoc {vs : List Value} {ns : List Int} (h : IntsAre vs ns) (k : Int) (t : Tok) : IntsAre (vs ++ [Value.int k t]) (ns ++ [k]) := by
  induction h with
  | nil => exact .cons _ _ .nil
  | cons k' t' _ ih => exact .cons _ _ ih
theorem kwW2_3 : True := by
  k_with "subscriptTail Name Name ref int" => ((k_here; (with_reducible show wpAny _ _ (subscriptTail _ _ (Value.ref _) (Value.int _ _)) _ _ _); k_dflt (refine' ksa_sub (by k_asm) (by k_mem) (ints_snoc (by assumption) _ _) (by omega) (by ((have hl9 := IntsAre.length (by assumption : IntsAre _ _)); simp at *; omega)) (by omega) ?_); intro _))
  trivial
theorem ask {w : World} {p : Program} {loose : List Str} {mean : ExcName → Option Value} {mg mb : Str → Option Value}
    {dp un : Nat} {gd : Option (List Code)} {cn : Str} {cs : Scope} {a : Addr} {ccd : Value} {cl : List (Str × Addr)} {outer : List Env} {A₀ : Around} {base h₀ : Heap} {L : Addr} {m : Str → Option Value} {s : Shared}
    {t : Addr} {vs : List Value} {ns : List Int} {spot : Int} {tk tm : Tok} {many : Int} {n : Nat} {rest : List (Addr × Obj)} {Q E : Value → Shared → Prop}
    (B : Below A₀ base outer h₀) (F : Fr h₀ L s.heap m) (X : (hd.heap_1 w.params).In h₀) (N : News h₀ L s.heap ((t, listOf (vs ++ [Value.int spot tk]).toArray n) :: rest)) (T : Top p loose mean mg mb h₀) (hk : cs.kind = .function)
    (hI : IntsAre vs ns) (hm : 1 ≤ many) (hs0 : 0 ≤ spot) (hs1 : spot ≤ 1000) (hlen : vs.length ≤ 40)
    (hd : dp + 1 < recursionLimit) (hu : un + 8 < cLine) (hr : ∀ p ∈ rest, p.1 ≠ t)
    (ret : ∀ v tv h' tk' n' tk'', 0 ≤ v → v < many → Fr h₀ L h' m → News h₀ L h' ((t, listOf (vs ++ [Value.int (spot + 1) tk'']).toArray n') :: rest) → Q (.int v tv) { s with heap := h', toks := tk' }) :
    wpAny (model PySem.Challenge.pw_pq0183_01 w) (ktrTop dp un gd cn cs L a ccd cl outer) (call (.ref 567) [.ref t, .int many tm]) Q E s := by
  refine wpAny_call ?_
  k_dflt ktr_enter
  k_steps
  all_goals first
    | exact ret _ _ _ _ _ _ (fm _ _ hm).1 (fm _ _ hm).2 (by k_asm) (by k_asm)
    | exact ret _ _ _ _ _ _ (fm _ _ hm).1 (fm _ _ hm).2 (by k_asm) (by simpa using (by k_asm : News h₀ L _ ((t, listOf (vs.toArray.push _) _) :: rest)))
    | trace_state
end Mine
end
-- W3
section
theorem Mine.offW3 : True := by
  w_top off
  k_with_none
  trivial
namespace Mine
def goalDat : Option Nat → Dat
  | none => .none
  | some g => .int g
def lnDat (l : Ln) : Dat := .tuple [.list (l.calls.map fun (c : Nat) => Dat.int (c : Int)), goalDat l.goal]
def planDat (p : Plan) : Dat := .list (p.map lnDat)
def GoalIs (r : Value) : Option Nat → Prop
  | none => r = .none
  | some g => ∃ t, r = .int (g : Int) t
/-- a while's rest by a measure; the state is a datum, the frame's names and the ledger -/
theorem rest_ind {σ : Type} (μ : σ → Nat) (S : σ → (Str → Option Value) → List (Addr × Obj) → Prop) {prog : Program} {w : World} {A : Around} {E : Value → Shared → Prop} {env : Env} {t : PySem.Expr} {b o : List Stmt} {Q : Flow → Shared → Prop} {s : Shared} {h₀ : Heap} {L : Addr}
    (step : ∀ c, (∀ c', μ c' < μ c → ∀ h tk m nx, S c' m nx → Fr h₀ L h m → News h₀ L h nx → WhlRest prog w A E env t b o Q 100 { s with heap := h, toks := tk }) → ∀ h tk m nx, S c m nx → Fr h₀ L h m → News h₀ L h nx → WhlRest prog w A E env t b o Q 101 { s with heap := h, toks := tk }) :
    ∀ c h tk m nx, S c m nx → Fr h₀ L h m → News h₀ L h nx → WhlRest prog w A E env t b o Q 101 { s with heap := h, toks := tk } := by
  have all : ∀ n c, μ c < n → ∀ h tk m nx, S c m nx → Fr h₀ L h m → News h₀ L h nx → WhlRest prog w A E env t b o Q 101 { s with heap := h, toks := tk } := by
    intro n
    induction n with
    | zero => intro c h; exact absurd h (Nat.not_lt_zero _)
    | succ n ih => exact fun c h => step c fun c' h' => ih c' (Nat.lt_of_lt_of_le h' (Nat.le_of_lt_succ h))
  exact fun c => all _ c (Nat.lt_succ_self _)
theorem ln_inv {rest : List (Addr × Obj)} {v : Value} {l : Ln} (h : DatIn rest v (lnDat l)) : ∃ tp tn ca cvs cn gv, v = .ref tp ∧ (tp, ({ cls := .type "tuple", data := .seq [Value.ref ca, gv].toArray tn } : Obj)) ∈ rest ∧ (ca, listOf (List.toArray cvs) cn) ∈ rest ∧ DatAll rest cvs (l.calls.map fun (c : Nat) => Dat.int (c : Int)) ∧ GoalIs gv l.goal := by
  obtain ⟨a, v1, v2, n, e, hm, h1, h2⟩ := dat_two h
  obtain ⟨S, svs, sn, rfl, hm2, hd2⟩ := dat_lst h1
  refine ⟨a, n, S, svs, sn, v2, e, hm, hm2, hd2, ?_⟩
  cases hg : l.goal with
  | none => rw [hg] at h2; exact dat_none h2
  | some g => rw [hg] at h2; exact dat_int h2
theorem plan_at {rest : List (Addr × Obj)} {pl : Addr} {p : Plan} {i : Nat} {l : Ln} (hP : DatIn rest (.ref pl) (planDat p)) (h : p[i]? = some l) :
    ∃ pvs pn tp tn ca cvs cn gv, (pl, listOf (List.toArray pvs) pn) ∈ rest ∧ pvs.length = p.length ∧ pvs[i]? = some (Value.ref tp) ∧ (tp, ({ cls := .type "tuple", data := .seq [Value.ref ca, gv].toArray tn } : Obj)) ∈ rest ∧
      (ca, listOf (List.toArray cvs) cn) ∈ rest ∧ IntsAre cvs (l.calls.map fun (c : Nat) => (c : Int)) ∧ GoalIs gv l.goal := by
  obtain ⟨a, pvs, pn, e, hm, ha⟩ := dat_lst hP
  cases e
  have hi : i < (p.map lnDat).length := by rw [List.length_map]; exact (List.getElem?_eq_some_iff.mp h).1
  obtain ⟨v, hv, hd⟩ := ha.get hi
  have e : (p.map lnDat)[i] = lnDat l := by
    rw [List.getElem_map]; congr 1; exact (List.getElem?_eq_some_iff.mp h).2
  rw [e] at hd
  obtain ⟨tp, tn, ca, cvs, cn, gv, rfl, tm, cm, hc, hg⟩ := ln_inv hd
  exact ⟨pvs, pn, tp, tn, ca, cvs, cn, gv, hm, by rw [ha.length, List.length_map], hv, tm, cm, dat_ints hc, hg⟩
end Mine
end
-- W4
section
theorem Mine.offW4 : True := by
  w_top off
  k_with_none
  trivial
local macro_rules | `(tactic| walk_at "none") => `(tactic| skip)
namespace Mine
section
theorem kwW4_1 : True := by
  k_with "exec For Name Name cons nil" => ((k_here; (rename Fr _ _ _ _ => zzlF'); (with_unfolding_all refine' For_invVF zzlF' (by exact rfl) (by exact rfl) ?_; k_whole)))
  trivial
theorem kwW4_2 : True := by
  k_with "pyIter ref" => ((k_here; (rename Fr _ _ _ _ => zzlF'); (rename News _ _ _ _ => zzlN'); (with_unfolding_all refine' iter_listUnr (by exact rfl) zzlF' zzlN' (by k_mem) (by exact rfl) (by exact rfl) ?_); clear zzlF' zzlN'; intro zzi' zzl1; (try k_lt zzl1)))
  trivial
theorem kwW4_3 : True := by
  k_with "call builtin:len" => ((k_here; (with_reducible show wpAny _ _ (call (Value.builtin "len") [Value.ref _]) _ _ _); k_dflt (refine' len_list (by exact News.isList (by k_asm) (by k_mem)) (by (simp; omega)) ?_)))
  trivial
theorem put_all {w : World} {p : Program} {loose : List Str} {mean : ExcName → Option Value} {mg mb : Str → Option Value}
    {dp un : Nat} {gd : Option (List Code)} {cn : Str} {cs : Scope} {a : Addr} {ccd : Value} {cl : List (Str × Addr)} {outer : List Env} {A₀ : Around} {base h₀ : Heap} {L : Addr} {m : Str → Option Value} {s : Shared}
    {fl fd R P D2 P2 L2 F2 S : Addr} {t1 t2 t3 t4 t5 t6 : Tok} {rvs svs : List Value} {n sn : Nat} {sts : List Stm} {line : Int} {tl : Tok} {fix rest : List (Addr × Obj)} {Q E : Value → Shared → Prop}
    (B : Below A₀ base outer h₀) (F : Fr h₀ L s.heap m) (X : (hd.heap_1 w.params).In h₀) (N : News h₀ L s.heap ((R, listOf rvs.toArray n) :: (fix ++ rest))) (T : Top p loose mean mg mb h₀) (hk : cs.kind = .function)
    (hi : (fl, instObj 380 fd) ∈ fix) (hd' : (fd, flatD w t1 t2 t3 t4 t5 t6 R P D2 P2 L2 F2) ∈ fix) (hS : (S, listOf svs.toArray sn) ∈ rest) (hsv : DatAll rest svs (sts.map stmDat))
    (hlen : rvs.length + svs.length ≤ 100)
    (hd : dp + 2 < recursionLimit) (hu : un + 16 < cLine) (hf : ∀ p ∈ fix, p.1 ≠ R) (hr : ∀ p ∈ rest, p.1 ≠ R)
    (ret : ∀ pvs rest' h' tk' n', Fr h₀ L h' m → News h₀ L h' ((R, listOf (rvs ++ pvs).toArray n') :: (fix ++ rest')) → (∀ p ∈ rest, p ∈ rest') → (∀ p ∈ rest', p.1 ≠ R) → (∀ p ∈ rest', p ∈ rest ∨ ∀ q ∈ fix ++ rest, q.1 ≠ p.1) → DatAll rest' pvs (sts.map fun st => rowDat (line, st)) → Q .none { s with heap := h', toks := tk' }) :
    wpAny (model PySem.Challenge.pw_pq0183_01 w) (ktrTop dp un gd cn cs L a ccd cl outer) (call (.ref 405) [.ref fl, .int line tl, .ref S]) Q E s := by
  refine wpAny_call ?_
  k_dflt ktr_enter
  k_steps
  rename Addr => I
  rename _ ∧ AllLt _ _ => l1
  have lI := ktn_ltOf l1.2
  have hRI : R ≠ I := Nat.ne_of_lt l1.1
  let mF : Str → Option Value := fun y => ([(Str.ofString "flat", Value.ref fl), (Str.ofString "line", .int line tl), (Str.ofString "statements", .ref S)] : List (Str × Value)).reverse.lookup y
  refine list_ind (fun r m' nx => ∃ (pvs : List Value) (n' : Nat) (rest' : List (Addr × Obj)) (sts1 sts2 : List Stm), sts = sts1 ++ sts2 ∧ nx = (R, listOf (rvs ++ pvs).toArray n') :: (fix ++ rest') ∧ (∀ p ∈ rest, p ∈ rest') ∧ (∀ p ∈ rest', p.1 ≠ R) ∧ (∀ p ∈ rest', p.1 ≠ I) ∧ (∀ p ∈ rest', p ∈ rest ∨ ∀ q ∈ fix ++ rest, q.1 ≠ p.1) ∧ DatAll rest r (sts2.map stmDat) ∧ DatAll rest' pvs (sts1.map fun st => rowDat (line, st)) ∧ rvs.length + pvs.length + r.length ≤ 100 ∧ (∀ y, y ≠ Str.ofString "statement" → m' y = mF y)) ?_ ?_ _ _ _ ?_
  case refine_3 => exact ⟨[], n, rest, [], sts, rfl, by rw [List.append_nil], fun _ h => h, hr, fun p hp => Nat.ne_of_lt (lI p (List.mem_append.mpr (.inr hp))), fun _ h => .inl h, hsv, .nil, by simpa using hlen, fun _ _ => rfl⟩
  · rintro m' nx ⟨pvs, n', rest', sts1, sts2, rfl, rfl, hsub, hoff, hoffI, hnew, hd2, hd1, hl, hm⟩ h tk F' N'
    cases sts2 with
    | cons => cases hd2
    | nil =>
      rw [List.append_nil] at ret
      k_steps
      exact ret pvs rest' h tk n' (by k_asm) (by k_asm) hsub hoff hnew (by simpa using hd1)
  · rintro v r m' nx ⟨pvs, n', rest', sts1, sts2, rfl, rfl, hsub, hoff, hoffI, hnew, hd2, hd1, hl, hm⟩ it h tk hit F' N'
    cases sts2 with
    | nil => cases hd2
    | cons st sts2 =>
      cases hd2 with
      | cons hv hd2 =>
        have hl' : rvs.length + pvs.length + (r.length + 1) ≤ 100 := hl
        obtain ⟨va, vt, vn, arg, rfl, hvm, harg⟩ := stm_inv hv
        have hvm' := hsub _ hvm
        have F'' := fr_same F' hm
        clear F'
        have hw := word_ne st
        have hfo : ∀ p ∈ fix ++ rest', p.1 ≠ R := List.forall_mem_append.mpr ⟨hf, hoff⟩
        k_steps
        rename _ ∧ _ ∧ AllLt _ (fix ++ rest') => l2
        rename News _ _ _ _ => kN
        rename Fr _ _ _ _ => kF
        obtain ⟨d, l2, kN⟩ : ∃ d, (I < d ∧ R < d ∧ AllLt d (fix ++ rest')) ∧ News _ _ _ ((d, { cls := .type "tuple", data := .seq #[Value.int line tl, Value.ref va] }) :: (I, it) :: (R, listOf ((rvs ++ pvs).toArray.push (.ref d)) (n' + 1)) :: (fix ++ rest')) := ⟨_, l2, kN⟩
        refine unr_end kF kN ((R, listOf (rvs ++ (pvs ++ [Value.ref d])).toArray (n' + 1)) :: (fix ++ ((d, { cls := .type "tuple", data := .seq #[Value.int line tl, Value.ref va] }) :: rest'))) (by k_mem) ?_ ?_ ⟨?_, pvs ++ [Value.ref d], n' + 1, _, sts1 ++ [st], sts2, by simp, rfl, fun p hp => List.mem_cons_of_mem _ (hsub p hp), ?_, ?_, List.forall_mem_cons.mpr ⟨.inr fun q hq => Nat.ne_of_lt (ktn_ltOf l2.2.2 q ((List.mem_append.mp hq).elim (fun z => List.mem_append.mpr (.inl z)) fun z => List.mem_append.mpr (.inr (hsub q z)))), hnew⟩, hd2, ?_, ?_, ?_⟩
        · simp only [List.mem_cons, List.mem_append, List.forall_mem_cons, ← List.append_assoc, List.push_toArray]
          intro p hp
          rcases hp with h | h | h | h <;> simp [h]
        · intro p hp
          simp only [List.mem_cons, List.mem_append] at hp
          rcases hp with rfl | h | rfl | h
          · exact hRI
          · exact Nat.ne_of_lt (lI p (List.mem_append.mpr (.inl h)))
          · exact Nat.ne_of_gt l2.1
          · exact hoffI p h
        · exact List.mem_cons_of_mem _ (List.mem_append.mpr (.inr (List.mem_cons_of_mem _ (hsub _ hS))))
        · exact List.forall_mem_cons.mpr ⟨Nat.ne_of_gt l2.2.1, hoff⟩
        · exact List.forall_mem_cons.mpr ⟨Nat.ne_of_gt l2.1, hoffI⟩
        · rw [List.map_append]
          exact DatAll.append (DatAll.mono (fun p hp => List.mem_cons_of_mem _ hp) hd1) (DatAll.one (.tuple (vs := [Value.int line tl, Value.ref va]) List.mem_cons_self (.cons (.int _ _) (.cons (DatIn.mono (fun p hp => List.mem_cons_of_mem _ (hsub p hp)) hv) .nil))))
        · simp only [List.length_append, List.length_cons, List.length_nil]; omega
        · intro y hy
          simp [hy]
end
end Mine
end
-- W5
section
theorem Mine.offW5 : True := by
  w_top off
  k_with_none
  trivial
namespace Mine
section
theorem kwW5_1 : True := by
  k_with "exec For Tuple Call cons nil" => ((k_here; (rename Fr _ _ _ _ => zzlF'); (with_unfolding_all refine' For_turns zzlF' ?_; k_whole)))
  trivial
theorem kwW5_2 : True := by
  k_with "call type:enumerate" => ((k_here; (rename Fr _ _ _ _ => zzlF'); (rename News _ _ _ _ => zzlN'); (with_unfolding_all refine' ktu_enum (by exact rfl) zzlF' zzlN' (by k_mem) (by exact rfl) (by exact rfl) (Eq.refl _) ?_); clear zzlF' zzlN'; intro zzi' zzl1; (try k_lt zzl1)))
  trivial
theorem gather {w : World} {p : Program} {loose : List Str} {mean : ExcName → Option Value} {mg mb : Str → Option Value}
    {dp un : Nat} {gd : Option (List Code)} {cn : Str} {cs : Scope} {a : Addr} {ccd : Value} {cl : List (Str × Addr)} {outer : List Env} {A₀ : Around} {base h₀ : Heap} {L : Addr} {m : Str → Option Value} {s : Shared} {Q E : Value → Shared → Prop}
    (B : Below A₀ base outer h₀) (F : Fr h₀ L s.heap m) (X : (hd.heap_1 w.params).In h₀) (T : Top p loose mean mg mb h₀) (hk : cs.kind = .function)
    {fl fd R P D2 P2 L2 F2 : Addr} {t1 t2 t3 t4 t5 t6 : Tok} {rvs : List Value} {n : Nat} {rows : List (Int × Stm)} {rest : List (Addr × Obj)}
    (N : News h₀ L s.heap rest)
    (hi : (fl, instObj 380 fd) ∈ rest) (hd' : (fd, flatD w t1 t2 t3 t4 t5 t6 R P D2 P2 L2 F2) ∈ rest) (hR : (R, listOf rvs.toArray n) ∈ rest) (hsv : DatAll rest rvs (rows.map rowDat))
    (hd : dp + 1 < recursionLimit) (hu : un + 8 < cLine)
    (ret : ∀ h' tk', Fr h₀ L h' m → News h₀ L h' rest → Q .none { s with heap := h', toks := tk' }) :
    wpAny (model PySem.Challenge.pw_pq0183_01 w) (ktrTop dp un gd cn cs L a ccd cl outer) (call (.ref 412) [.ref fl]) Q E s := by
  refine wpAny_call ?_
  k_dflt ktr_enter
  k_steps
  rename _ ∧ _ ∧ _ ∧ _ ∧ AllLt _ rest => l1
  have lI := ktn_ltOf l1.2.2.2.2
  refine items_ind (fun r m' nx => ∃ (j : Nat) (vs' : List Value) (rows' : List (Int × Stm)), r = enumItems j vs' ∧ DatAll rest vs' (rows'.map rowDat) ∧ (∀ p ∈ rest, p ∈ nx)) ?_ ?_ _ _ _ ⟨0, rvs, rows, rfl, hsv, fun p hp => by simp [hp]⟩
  · rintro m' nx ⟨j, vs', rows', hr, hd2, hsub⟩ h tk F' N'
    have N' := newsSub N' hsub
    k_steps
    exact ret _ _ (by k_asm) (by k_asm)
  · rintro a r m' nx ⟨j, vs', rows', hr, hd2, hsub⟩ v h tk its ha hits F' N'
    cases vs' with
    | nil => cases hr
    | cons v' vs' =>
      cases rows' with
      | nil => cases hd2
      | cons row rows' =>
        cases hd2 with
        | cons hv hd2 =>
          obtain ⟨o1, o2, rfl, c1, c2⟩ := objs2 hits
          injection hr with hr1 hr2
          subst hr1 hr2
          obtain ⟨T', t', rfl, hT'⟩ := ha
          have N'' := newsRest N' hsub
          simp only [List.cons_append, List.nil_append] at N''
          clear N'
          obtain ⟨ra, rt, rn, va, vt, vn, arg, rfl, hm1, hm2, _⟩ := row_inv hv
          obtain ⟨rl, st⟩ := row
          cases st <;> (simp only [word] at hm2; k_steps)
          all_goals
            rename News _ _ _ _ => kN
            rename Fr _ _ _ _ => kF
            refine unrw_end kF kN rest (fun p hp => ?_) (fun p hp => List.mem_cons_of_mem _ (List.mem_cons_of_mem _ hp)) (fun p hp q hq => ?_) ⟨⟨hR, trivial⟩, j + 1, vs', rows', rfl, hd2, fun p hp => hp⟩
            · simp only [List.mem_cons, List.not_mem_nil, or_false] at hp
              rcases hp with rfl | rfl <;> simp
            · simp only [List.mem_cons, List.not_mem_nil, or_false] at hq
              have := lI p hp
              rcases hq with rfl | rfl
              · exact Nat.ne_of_lt (Nat.lt_succ_of_lt this)
              · exact Nat.ne_of_lt this
end
end Mine
end
-- W6
section
theorem Mine.offW6 : True := by
  w_top off
  k_with_none
  trivial
local macro_rules | `(tactic| walk_at "none") => `(tactic| skip)
namespace Mine
section
theorem kwW6_1 : True := by
  k_with "compareOp In str ref" => ((k_here; (with_reducible show wpAny _ _ (compareOp CmpOp.In (Value.str _ _) (Value.ref 462)) _ _ _); k_dflt (refine' in_tuple_strs (by (refine' tupK (by k_asm) (by k_asm) (by k_is))) (by kde_strs) ?_)))
  trivial
theorem kwW6_2 : True := by
  k_with "call builtin:len" => ((k_here; (with_reducible show wpAny _ _ (call (Value.builtin "len") [Value.ref _]) _ _ _); k_dflt (refine' len_list (by exact News.isList (by k_asm) (by k_mem)) (by (simp; omega)) ?_)))
  trivial
theorem kwW6_3 : True := by
  k_with "compareOp NotIn int ref" => ((k_here; (with_reducible show wpAny _ _ (compareOp CmpOp.NotIn (Value.int _ _) (Value.ref _)) _ _ _); k_dflt (refine' kdg_notin (knd := PySem.intKind _ _) (by k_asm) (by k_mem) (by assumption) (by assumption) (intKind_is _ _ _ _) true (by (rename valueAt _ _ = some _ => zzhV; rw [zzhV]; rfl)) ?_)))
  trivial
theorem kwW6_4 : True := by
  k_with "subscriptTail" => ((k_here; (with_reducible show wpAny _ _ (subscriptTail _ _ (Value.ref _) (Value.int _ _)) _ _ _); k_dflt (refine' kda_item (knd := PySem.intKind _ _) (by k_asm) (by k_mem) (by assumption) (intKind_is _ _ _ _) (by assumption) ?_ (by with_unfolding_all rfl) (by (intro _; with_unfolding_all rfl)))))
  trivial
/-- the places of a plan -/
def PlacesAre (w : World) (o : Obj) (p : Plan) : Prop := ∃ kvs, o.IsDictOf (PySem.intKind PySem.Challenge.pw_pq0183_01 w) kvs ∧ ∀ i, i < p.length → ∃ t, valueAt kvs (lineNo i) = some (.int (start p i : Int) t)
theorem flow_gosub {w : World} {p : Program} {loose : List Str} {mean : ExcName → Option Value} {mg mb : Str → Option Value}
    {dp un : Nat} {gd : Option (List Code)} {cn : Str} {cs : Scope} {a : Addr} {ccd : Value} {cl : List (Str × Addr)} {outer : List Env} {A₀ : Around} {base h₀ : Heap} {L : Addr} {m : Str → Option Value} {s : Shared} {Q E : Value → Shared → Prop}
    (B : Below A₀ base outer h₀) (F : Fr h₀ L s.heap m) (X : (hd.heap_1 w.params).In h₀) (T : Top p loose mean mg mb h₀) (hk : cs.kind = .function)
    {rn rd fl fd vd ct cd nt P R oP D2 P2 L2 F2 va : Addr} {po : Obj} {lam : Value} {t1 t2 t3 t4 t5 t6 t7 t8 t9 c1 c2 c3 c4 c5 f1 f2 f3 f4 f5 f6 vt ta tl : Tok} {n vn : Nat} {at_ : Int} {l : Nat} {pl : Plan} {pvs : List Value} {rest : List (Addr × Obj)}
    (N : News h₀ L s.heap ((P, listOf pvs.toArray n) :: rest)) (r1 : (rn, instObj 556 rd) ∈ rest) (r2 : (rd, runD w t1 t2 t3 t4 t5 t6 t7 t8 t9 fl vd ct nt lam) ∈ rest) (h1 : (ct, instObj 265 cd) ∈ rest) (h2 : (cd, ctlD w c1 c2 c3 c4 c5 P) ∈ rest)
    (g1 : (fl, instObj 380 fd) ∈ rest) (g2 : (fd, flatD w f1 f2 f3 f4 f5 f6 R oP D2 P2 L2 F2) ∈ rest) (g3 : (oP, po) ∈ rest) (gp : PlacesAre w po pl) (gs : (oP == sysModules) = false) (hl : l < pl.length)
    (hv : (va, ({ cls := .type "tuple", data := .seq [Value.str (Str.ofString "GOSUB") vt, Value.int (lineNo l) tl].toArray vn } : Obj)) ∈ rest) (hr : ∀ p ∈ rest, p.1 ≠ P) (hlen : pvs.length < 20) (ha : 0 ≤ at_) (ha2 : at_ ≤ 1000)
    (hd : dp + 9 < recursionLimit) (hu : un + 84 < cLine)
    (ret : ∀ d n' tg h' tk' tk ts, Fr h₀ L h' m → News h₀ L h' ((P, listOf (pvs ++ [Value.ref d]).toArray n') :: (d, ({ cls := .type "tuple", data := .seq #[Value.str (Str.ofString "GOSUB") tk, Value.int (at_ + 1) tg] } : Obj)) :: rest) → d ≠ P → (∀ p ∈ rest, p.1 < d) → Q (.int (start pl l : Int) tk') { s with heap := h', toks := ts }) :
    wpAny (model PySem.Challenge.pw_pq0183_01 w) (ktrTop dp un gd cn cs L a ccd cl outer) (call (.ref 469) [.ref rn, .int at_ ta, .ref va]) Q E s := by
  obtain ⟨kvs, gk, gv⟩ := gp
  obtain ⟨tp, gv⟩ := gv l hl
  refine wpAny_call ?_
  k_dflt ktr_enter
  k_steps
  rename News _ _ _ _ => kN
  rename Fr _ _ _ _ => kF
  rename _ ∧ AllLt _ rest => l2
  obtain ⟨d, tk, tg, l2, kN⟩ : ∃ (d : Addr) (tk tg : Tok), (P < d ∧ AllLt d rest) ∧ News _ _ _ ((d, { cls := .type "tuple", data := .seq #[Value.str (Str.ofString "GOSUB") tk, Value.int (at_ + 1) tg] }) :: (P, listOf (pvs.toArray.push (.ref d)) (n + 1)) :: rest) := ⟨_, _, _, l2, kN⟩
  refine ret d (n + 1) tg _ _ tk _ kF (newsSub kN fun p hp => ?_) (Nat.ne_of_gt l2.1) (ktn_ltOf l2.2)
  simp only [List.mem_cons, List.push_toArray] at hp ⊢
  rcases hp with z | z | z <;> simp [z]
end
end Mine
end
-- W7
section
theorem Mine.offW7 : True := by
  w_top off
  k_with_none
  trivial
namespace Mine
section
theorem kwW7_1 : True := by
  k_with "compareOp In str ref" => ((k_here; (with_reducible show wpAny _ _ (compareOp CmpOp.In (Value.str _ _) (Value.ref 462)) _ _ _); k_dflt (refine' in_tuple_strs (by (refine' tupK (by k_asm) (by k_asm) (by k_is))) (by kde_strs) ?_)))
  trivial
theorem kwW7_2 : True := by
  k_with "call builtin:len" => ((k_here; (with_reducible show wpAny _ _ (call (Value.builtin "len") [Value.ref _]) _ _ _); k_dflt (refine' len_list (by exact News.isList (by k_asm) (by k_mem)) (by (simp; omega)) ?_)))
  trivial
theorem kwW7_3 : True := by
  k_with "compareOp NotIn int ref" => ((k_here; (with_reducible show wpAny _ _ (compareOp CmpOp.NotIn (Value.int _ _) (Value.ref _)) _ _ _); k_dflt (refine' kdg_notin (knd := PySem.intKind _ _) (by k_asm) (by k_mem) (by assumption) (by assumption) (intKind_is _ _ _ _) true (by (rename valueAt _ _ = some _ => zzhV; rw [zzhV]; rfl)) ?_)))
  trivial
theorem kwW7_4 : True := by
  k_with "subscriptTail" => ((k_here; (with_reducible show wpAny _ _ (subscriptTail _ _ (Value.ref _) (Value.int _ _)) _ _ _); k_dflt (refine' kda_item (knd := PySem.intKind _ _) (by k_asm) (by k_mem) (by assumption) (intKind_is _ _ _ _) (by assumption) ?_ (by with_unfolding_all rfl) (by (intro _; with_unfolding_all rfl)))))
  trivial
theorem item_last {prog : Program} {w : World} {A : Around} {E : Value → Shared → Prop} {s : Shared} {h₀ : Heap} {L l : Addr} {news : List (Addr × Obj)} {value slice : PySem.Expr} {vs : List Value} {v : Value} {n : Nat} {k : Int} {u : Tok} {Q : Value → Shared → Prop} (N : News h₀ L s.heap news) (hm : (l, listOf (vs ++ [v]).toArray n) ∈ news)
    (hk : k = (vs.length : Int)) (hl : vs.length ≤ 1000) (h : Q v s) (hs : subscripted slice false (.ref l) (.int k u) = operate [.ref l, .int k u] (getItem (.ref l) (.int k u))) :
    wpAny (model prog w) A (subscriptTail value slice (.ref l) (.int k u)) Q E s := by
  have hi := News.isList N hm
  exact tail_any hi.typeIs slot_list_getitem.lookup (wpAny_getItem_list hi (by omega) (by omega) (by subst hk; simp) h) hs
theorem kwW7_5 : True := by
  k_with "subscriptTail" => ((k_here; (with_reducible show wpAny _ _ (subscriptTail _ _ (Value.ref _) (Value.int _ _)) _ _ _); k_dflt (refine' item_last (by k_asm) (by k_mem) (by first | (simp; done) | (simp; omega)) (by omega) ?_ (by with_unfolding_all rfl))))
  trivial
theorem kwW7_6 : True := by
  k_with "pyIter ref" => ((k_here; (rename Fr _ _ _ _ => zzlF'); (rename News _ _ _ _ => zzlN'); (rename IsRange _ _ _ _ _ _ _ _ => zzrgX); (with_unfolding_all refine' down_first (by rfl) zzrgX (by exact small_down (by first | (simp; done) | (simp; omega)) (by first | (simp; done) | (simp; omega)) (by simp) (by simp)) (rangeSize_downNat _ _) (by first | (simp; done) | (simp; omega)) zzlF' zzlN' (fun t' h' tk' F' N' => ?_)); (try clear zzlF' zzlN')))
  trivial
theorem kwW7_7 : True := by
  k_with "OutPost" => ((dsimp only [OutPost]))
  trivial
theorem pick_init {vs : List Value} {v : Value} {k : Int} (hk : k = (vs.length : Int)) : kms_pick (vs ++ [v]).toArray.toList none (some k) = vs := by
  subst hk
  have h0 : ¬ ((vs.length : Int) < 0) := by omega
  simp [kms_pick, kms_lo, kms_hi, h0]
theorem kwW7_8 : True := by
  k_with "subscriptTail Name Slice ref ref" => ((k_here; (with_reducible show wpAny _ _ (subscriptTail _ (PySem.Expr.Slice _ _ none _) (Value.ref _) (Value.ref _)) _ _ _); k_dflt (refine' kms_slice_lit (by k_asm) (by k_asm) (by exact News.isList (by k_asm) (by k_mem)) (by kmk_part) (by kmk_part) (by (refine pick_init ?_; first | (simp; done) | (simp; omega))) ?_ (by with_unfolding_all rfl) (by (intro _; with_unfolding_all rfl)) (by (rw [PySem.sizeLine_eq]; simp; omega))); intro zzD' zzh' zzF' zzN' zzl1; (try k_lt zzl1)))
  trivial
theorem flow_ret {w : World} {p : Program} {loose : List Str} {mean : ExcName → Option Value} {mg mb : Str → Option Value}
    {dp un : Nat} {gd : Option (List Code)} {cn : Str} {cs : Scope} {a : Addr} {ccd : Value} {cl : List (Str × Addr)} {outer : List Env} {A₀ : Around} {base h₀ : Heap} {L : Addr} {m : Str → Option Value} {s : Shared} {Q E : Value → Shared → Prop}
    (B : Below A₀ base outer h₀) (F : Fr h₀ L s.heap m) (X : (hd.heap_1 w.params).In h₀) (T : Top p loose mean mg mb h₀) (hk : cs.kind = .function)
    {rn rd fl fd vd ct cd nt P R oP D2 P2 L2 F2 va top : Addr} {po : Obj} {lam : Value} {t1 t2 t3 t4 t5 t6 t7 t8 t9 c1 c2 c3 c4 c5 f1 f2 f3 f4 f5 f6 vt ta tp tg : Tok} {n vn tn : Nat} {at_ : Int} {back : Nat} {g : Option Nat} {arg : Value} {pl : Plan} {pvs : List Value} {rest : List (Addr × Obj)}
    (N : News h₀ L s.heap ((cd, ctlD w c1 c2 c3 c4 c5 P) :: rest)) (r1 : (rn, instObj 556 rd) ∈ rest) (r2 : (rd, runD w t1 t2 t3 t4 t5 t6 t7 t8 t9 fl vd ct nt lam) ∈ rest) (h1 : (ct, instObj 265 cd) ∈ rest) (h2 : (P, listOf (pvs ++ [Value.ref top]).toArray n) ∈ rest)
    (h3 : (top, ({ cls := .type "tuple", data := .seq [Value.str (Str.ofString "GOSUB") tp, Value.int (back : Int) tg].toArray tn } : Obj)) ∈ rest)
    (g1 : (fl, instObj 380 fd) ∈ rest) (g2 : (fd, flatD w f1 f2 f3 f4 f5 f6 R oP D2 P2 L2 F2) ∈ rest) (g3 : (oP, po) ∈ rest) (gp : PlacesAre w po pl) (gs : (oP == sysModules) = false) (hl : ∀ l, g = some l → l < pl.length)
    (hv : (va, ({ cls := .type "tuple", data := .seq [Value.str (Str.ofString "RETURN") vt, arg].toArray vn } : Obj)) ∈ rest) (ha : DatIn rest arg (argDat (.ret g))) (hr : ∀ p ∈ rest, p.1 ≠ cd) (hlen : pvs.length < 20)
    (hd : dp + 9 < recursionLimit) (hu : un + 84 < cLine)
    (ret : ∀ P' n' h' tk' ts, Fr h₀ L h' m → News h₀ L h' ((cd, ctlD w c1 c2 c3 c4 c5 P') :: (P', listOf pvs.toArray n') :: rest) → P' ≠ cd → (∀ p ∈ rest, p.1 < P') → Q (.int ((g.elim back (start pl) : Nat) : Int) tk') { s with heap := h', toks := ts }) :
    wpAny (model PySem.Challenge.pw_pq0183_01 w) (ktrTop dp un gd cn cs L a ccd cl outer) (call (.ref 469) [.ref rn, .int at_ ta, .ref va]) Q E s := by
  obtain ⟨kvs, gk, gv⟩ := gp
  have close : ∀ {d : Addr} {h' : Heap} {tk' ts : Tok}, cd < d ∧ AllLt d rest → Fr h₀ L h' m → News h₀ L h' ((d, listOf pvs.toArray 0) :: (cd, ctlD w c1 c2 c3 c4 c5 d) :: rest) → Q (.int ((g.elim back (start pl) : Nat) : Int) tk') { s with heap := h', toks := ts } := fun l2 kF kN => by
    refine ret _ 0 _ _ _ kF (newsSub kN fun p hp => ?_) (Nat.ne_of_gt l2.1) (ktn_ltOf l2.2)
    simp only [List.mem_cons] at hp ⊢
    rcases hp with z | z | z <;> simp [z]
  clear ret
  refine wpAny_call ?_
  k_dflt ktr_enter
  k_steps
  · exfalso
    rename ((pvs ++ [Value.ref top]).toArray.size : Int) = 0 => z
    simp at z
    omega
  · rename _ ∧ AllLt _ rest => l2
    cases g with
    | none =>
      obtain rfl := dat_none ha
      k_steps
      rename Fr _ _ _ _ => kF
      rename News _ _ _ _ => kN
      exact close l2 kF kN
    | some l =>
      obtain ⟨tl, rfl⟩ := dat_int ha
      obtain ⟨tpl, gv⟩ := gv l (hl l rfl)
      k_steps
      rename Fr _ _ _ _ => kF
      rename News _ _ _ _ => kN
      exact close l2 kF kN
end
end Mine
end
-- W8a
section
namespace Mine
/-- what stands of a run, its mutable parts aside -/
structure RunIs (w : World) (p : Plan) (rest : List (Addr × Obj)) (rn rd fl fd vd ct cd nt R oP D2 P2 L2 F2 : Addr) (vo po : Obj) (lam : Value) (t1 t2 t3 t4 t5 t6 t7 t8 t9 c1 c2 c3 c4 c5 f1 f2 f3 f4 f5 f6 : Tok) (rvs : List Value) (rk : Nat) (rows : List (Int × Stm)) : Prop where
  r1 : (rn, instObj 556 rd) ∈ rest
  r2 : (rd, runD w t1 t2 t3 t4 t5 t6 t7 t8 t9 fl vd ct nt lam) ∈ rest
  h1 : (ct, instObj 265 cd) ∈ rest
  g1 : (fl, instObj 380 fd) ∈ rest
  g2 : (fd, flatD w f1 f2 f3 f4 f5 f6 R oP D2 P2 L2 F2) ∈ rest
  g3 : (oP, po) ∈ rest
  gp : PlacesAre w po p
  gs : (oP == sysModules) = false
  v1 : (vd, vo) ∈ rest
  v2 : vo.IsDictOf (PySem.strKind PySem.Challenge.pw_pq0183_01 w) []
  v3 : (vd == sysModules) = false
  R1 : (R, listOf rvs.toArray rk) ∈ rest
  R2 : DatAll rest rvs (rows.map rowDat)
  R3 : rows.map (·.2) = rowsOf p
  len : rows.length ≤ 100
theorem RunIs.mono {w : World} {p : Plan} {rest rest' : List (Addr × Obj)} {rn rd fl fd vd ct cd nt R oP D2 P2 L2 F2 : Addr} {vo po : Obj} {lam : Value} {t1 t2 t3 t4 t5 t6 t7 t8 t9 c1 c2 c3 c4 c5 f1 f2 f3 f4 f5 f6 : Tok} {rvs : List Value} {rk : Nat} {rows : List (Int × Stm)} (h : ∀ x ∈ rest, x ∈ rest') (x : RunIs w p rest rn rd fl fd vd ct cd nt R oP D2 P2 L2 F2 vo po lam t1 t2 t3 t4 t5 t6 t7 t8 t9 c1 c2 c3 c4 c5 f1 f2 f3 f4 f5 f6 rvs rk rows) : RunIs w p rest' rn rd fl fd vd ct cd nt R oP D2 P2 L2 F2 vo po lam t1 t2 t3 t4 t5 t6 t7 t8 t9 c1 c2 c3 c4 c5 f1 f2 f3 f4 f5 f6 rvs rk rows :=
  ⟨h _ x.r1, h _ x.r2, h _ x.h1, h _ x.g1, h _ x.g2, h _ x.g3, x.gp, x.gs, h _ x.v1, x.v2, x.v3, h _ x.R1, DatAll.mono h x.R2, x.R3, x.len⟩
theorem fr_same3 {h₀ h : Heap} {L : Addr} {x a b : Str} {v va : Value} {m' mF : Str → Option Value} (F : Fr h₀ L h (fun y => if y = x then some v else m' y)) (ha : m' a = some va) (hm : ∀ y, y ≠ x → y ≠ a → y ≠ b → m' y = mF y) : Fr h₀ L h (fun y => if y = x then some v else if y = a then some va else if y = b then m' b else mF y) := by
  have e : (fun y => if y = x then some v else m' y) = (fun y => if y = x then some v else if y = a then some va else if y = b then m' b else mF y) := by
    funext y
    by_cases h1 : y = x
    · simp [h1]
    · by_cases h2 : y = a
      · simp only [if_neg h1, if_pos h2]; rw [h2, ha]
      · by_cases h3 : y = b
        · simp only [if_neg h1, if_neg h2, if_pos h3]; rw [h3]
        · simp only [if_neg h1, if_neg h2, if_neg h3]; exact hm y h1 h2 h3
  rw [← e]; exact F
theorem row_get {p : Plan} {rest : List (Addr × Obj)} {rvs : List Value} {rows : List (Int × Stm)} (R2 : DatAll rest rvs (rows.map rowDat)) (R3 : rows.map (·.2) = rowsOf p) {a : Nat} {r : Stm} (h : (rowsOf p)[a]? = some r) :
    ∃ ln ra rt rn va vt vn arg, rvs[a]? = some (.ref ra) ∧ (ra, ({ cls := .type "tuple", data := .seq [Value.int ln rt, Value.ref va].toArray rn } : Obj)) ∈ rest ∧ (va, ({ cls := .type "tuple", data := .seq [Value.str (word r) vt, arg].toArray vn } : Obj)) ∈ rest ∧ DatIn rest arg (argDat r) ∧ a < rvs.length := by
  rw [← R3, List.getElem?_map] at h
  obtain ⟨row, hr, rfl⟩ := Option.map_eq_some_iff.mp h
  have hl : a < rows.length := (List.getElem?_eq_some_iff.mp hr).1
  obtain ⟨v, hv, hD⟩ := R2.get (k := a) (by rw [List.length_map]; exact hl)
  rw [List.getElem_map, show rows[a] = row from (List.getElem?_eq_some_iff.mp hr).2] at hD
  obtain ⟨ra, rt, rn, va, vt, vn, arg, rfl, h1, h2, h3⟩ := row_inv hD
  exact ⟨row.1, ra, rt, rn, va, vt, vn, arg, hv, h1, h2, h3, by rw [R2.length, List.length_map]; exact hl⟩
theorem stp_notes {p : Plan} {s s' : MS} (h : stp p s = some s') : s'.notes.length ≤ s.notes.length + 1 := by
  unfold stp at h
  split at h
  · cases h; simp
  · split at h
    · cases h; simp
    · cases h
  · split at h
    · cases h
    · cases h; simp
  · cases h
theorem iter_notes {p : Plan} : ∀ {i : Nat} {s t : MS}, iter p i s = some t → t.notes.length ≤ s.notes.length + i
  | 0, s, t, h => by cases h; exact Nat.le_refl _
  | i + 1, s, t, h => by
    have h' : (match stp p s with | some s' => iter p i s' | none => none) = some t := h
    cases e : stp p s with
    | none => rw [e] at h'; cases h'
    | some s' =>
      rw [e] at h'
      have := iter_notes h'
      have := stp_notes e
      omega
theorem stp_pile {p : Plan} {s s' : MS} (h : stp p s = some s') (hs : s.pile.length ≤ 20) : s'.pile.length ≤ 20 := by
  unfold stp at h
  split at h
  · cases h; exact hs
  · split at h
    · cases h; simp; omega
    · cases h
  · split at h
    · cases h
    · rename_i e
      cases h
      rw [e, List.length_cons] at hs
      dsimp only
      omega
  · cases h
theorem iter_pile' {p : Plan} : ∀ {i : Nat} {s t : MS}, iter p i s = some t → s.pile.length ≤ 20 → t.pile.length ≤ 20
  | 0, s, t, h, hs => by cases h; exact hs
  | i + 1, s, t, h, hs => by
    have h' : (match stp p s with | some s' => iter p i s' | none => none) = some t := h
    cases e : stp p s with
    | none => rw [e] at h'; cases h'
    | some s' =>
      rw [e] at h'
      exact iter_pile' h' (stp_pile e hs)
theorem iter_pile {p : Plan} {i : Nat} {t : MS} (h : iter p i ⟨0, [], []⟩ = some t) : t.pile.length ≤ 20 := iter_pile' h (by simp)
/-- where the walk is to wait -/
def Hold (P : Prop) : Prop := P
theorem hold_mk {P : Prop} (h : Hold P) : P := h
/-- the invariant of go's loop is laid below; placeDat first -/
def placeDat (a : Nat) : Dat := .tuple [.str (Str.ofString "GOSUB"), .int (a : Int)]
def noteDat (k : Nat) : Dat := .tuple [.str (numText k), .int 0]
theorem place_inv {rest : List (Addr × Obj)} {v : Value} {a : Nat} (h : DatIn rest v (placeDat a)) : ∃ d tp tg n, v = .ref d ∧ (d, ({ cls := .type "tuple", data := .seq [Value.str (Str.ofString "GOSUB") tp, Value.int (a : Int) tg].toArray n } : Obj)) ∈ rest := by
  obtain ⟨a, v1, v2, n, e, hm, h1, h2⟩ := dat_two h
  obtain ⟨t1, rfl⟩ := dat_str h1
  obtain ⟨t2, rfl⟩ := dat_int h2
  exact ⟨a, t1, t2, n, e, hm⟩
/-- the mutable parts of a run at a state of the machine -/
structure StIs (rest : List (Addr × Obj)) (s : MS) (pvs nvs : List Value) : Prop where
  pile : DatAll rest pvs (s.pile.reverse.map placeDat)
  notes : DatAll rest nvs (s.notes.map noteDat)
theorem iter_succ {p : Plan} {s0 s : MS} {i k : Nat} {t : MS} (h1 : iter p i s0 = some s) (h2 : iter p k s0 = some t) (hik : i < k) : ∃ s', stp p s = some s' ∧ iter p (i + 1) s0 = some s' := by
  obtain ⟨j, rfl⟩ : ∃ j, k = i + (j + 1) := ⟨k - i - 1, by omega⟩
  rw [iter_add h1] at h2
  have h3 : (match stp p s with | some s' => iter p j s' | none => none) = some t := h2
  cases e : stp p s with
  | none => rw [e] at h3; cases h3
  | some s' =>
    refine ⟨s', rfl, ?_⟩
    rw [iter_add h1]
    show (match stp p s with | some s' => iter p 0 s' | none => none) = _
    rw [e]; rfl
theorem iter_same {p : Plan} {s0 s t : MS} {k : Nat} (h1 : iter p k s0 = some s) (h2 : iter p k s0 = some t) : s = t := by rw [h1] at h2; exact Option.some.inj h2
theorem stp_none_row {p : Plan} {s s' : MS} (h : stp p s = some s') : ∃ r, (rowsOf p)[s.at_]? = some r := by
  unfold stp at h
  split at h <;> first | exact ⟨_, by assumption⟩ | cases h
abbrev goF (rn : Addr) (tm : Tok) : Str → Option Value := fun y => ([(Str.ofString "self", Value.ref rn), (Str.ofString "most", .int 3000 tm)] : List (Str × Value)).reverse.lookup y
/-- the invariant of go's loop -/
def GoJ (w : World) (p : Plan) (k : Nat) (rest : List (Addr × Obj)) (rn cd nt I : Addr) (c1 c2 c3 c4 c5 tm : Tok) (kk i : Nat) (m' : Str → Option Value) (nx : List (Addr × Obj)) : Prop :=
  ∃ (st : MS) (P' : Addr) (pvs nvs : List Value) (n' n2 : Nat) (rest' : List (Addr × Obj)) (tat : Tok), kk + i = 3000 ∧ i ≤ k ∧ iter p i ⟨0, [], []⟩ = some st ∧ nx = (cd, ctlD w c1 c2 c3 c4 c5 P') :: (P', listOf pvs.toArray n') :: (nt, listOf nvs.toArray n2) :: rest' ∧ (∀ x ∈ rest, x ∈ rest') ∧ StIs rest' st pvs nvs ∧
    (∀ x ∈ rest', x.1 ≠ cd) ∧ (∀ x ∈ rest', x.1 ≠ P') ∧ (∀ x ∈ rest', x.1 ≠ nt) ∧ (∀ x ∈ rest', x.1 ≠ I) ∧ cd ≠ P' ∧ cd ≠ nt ∧ P' ≠ nt ∧ P' ≠ I ∧ m' (Str.ofString "at") = some (.int (st.at_ : Int) tat) ∧ (∀ y, y ≠ Str.ofString "turn" → y ≠ Str.ofString "at" → y ≠ Str.ofString "statement" → m' y = goF rn tm y)
theorem go_end {w : World} {p : Plan} {k : Nat} {rest rest' all : List (Addr × Obj)} {rn cd nt I P' L : Addr} {c1 c2 c3 c4 c5 tm tat : Tok} {kk i : Nat} {m' : Str → Option Value} {st : MS} {pvs nvs : List Value} {n' n2 : Nat} {h₀ h' : Heap} {it : Obj} {s₁ : Shared} {tk : Nat}
    (F : Fr h₀ L h' m') (N : News h₀ L h' all) (hs : iter p (i + 1) ⟨0, [], []⟩ = some st) (hkk : kk + 1 + i = 3000) (hik : i < k) (hsub : ∀ x ∈ rest, x ∈ rest') (hst : StIs rest' st pvs nvs)
    (q1 : ∀ x ∈ rest', x.1 ≠ cd) (q2 : ∀ x ∈ rest', x.1 ≠ P') (q3 : ∀ x ∈ rest', x.1 ≠ nt) (q4 : ∀ x ∈ rest', x.1 ≠ I) (q5 : cd ≠ P') (q6 : cd ≠ nt) (q7 : P' ≠ nt) (q8 : P' ≠ I) (qa : cd ≠ I) (qb : nt ≠ I)
    (hat : m' (Str.ofString "at") = some (.int (st.at_ : Int) tat)) (hm : ∀ y, y ≠ Str.ofString "turn" → y ≠ Str.ofString "at" → y ≠ Str.ofString "statement" → m' y = goF rn tm y)
    (hI : (I, it) ∈ all) (sub : ∀ x ∈ (cd, ctlD w c1 c2 c3 c4 c5 P') :: (P', listOf pvs.toArray n') :: (nt, listOf nvs.toArray n2) :: rest', x ∈ all) :
    UnrEnd h₀ L s₁ I it (GoJ w p k rest rn cd nt I c1 c2 c3 c4 c5 tm kk (i + 1)) { s₁ with heap := h', toks := tk } := by
  refine unr_end F N _ hI sub (fun x hx => ?_) ⟨st, P', pvs, nvs, n', n2, rest', tat, by omega, hik, hs, rfl, hsub, hst, q1, q2, q3, q4, q5, q6, q7, q8, hat, hm⟩
  rcases List.mem_cons.mp hx with rfl | hx
  · exact qa
  rcases List.mem_cons.mp hx with rfl | hx
  · exact q8
  rcases List.mem_cons.mp hx with rfl | hx
  · exact qb
  exact q4 x hx
theorem rows_mem : ∀ (p : Plan) (i : Nat) (r : Stm), r ∈ rowsFrom i p → ∃ (j : Nat) (l : Ln), p[j]? = some l ∧ r ∈ lineRows (i + j) l
  | [], _, _, h => by simp [rowsFrom] at h
  | x :: p, i, r, h => by
    rcases List.mem_append.mp (show r ∈ lineRows i x ++ rowsFrom (i + 1) p from h) with h | h
    · exact ⟨0, x, rfl, h⟩
    · obtain ⟨j, l, h1, h2⟩ := rows_mem p (i + 1) r h
      exact ⟨j + 1, l, by simpa using h1, by rw [show i + (j + 1) = i + 1 + j by omega]; exact h2⟩
theorem row_gosub {p : Plan} (W : Well p) {a l : Nat} (h : (rowsOf p)[a]? = some (.gosub l)) : l < p.length := by
  obtain ⟨j, x, h1, h2⟩ := rows_mem p 0 _ (List.mem_of_getElem? h)
  simp only [lineRows, List.mem_cons, List.mem_append, List.mem_map, List.not_mem_nil, or_false, reduceCtorEq, false_or] at h2
  obtain ⟨c, hc, e⟩ := h2
  cases e
  exact (W.calls j x h1 _ hc).2
theorem row_ret {p : Plan} (W : Well p) {a g : Nat} (h : (rowsOf p)[a]? = some (.ret (some g))) : g < p.length := by
  obtain ⟨j, x, h1, h2⟩ := rows_mem p 0 _ (List.mem_of_getElem? h)
  simp only [lineRows, List.mem_cons, List.mem_append, List.mem_map, List.not_mem_nil, or_false, reduceCtorEq, and_false, exists_false, false_or, Stm.ret.injEq] at h2
  exact (W.goal j x h1 g h2.symm).2
theorem dat_snoc {rest : List (Addr × Obj)} : ∀ {ds : List Dat} {vs : List Value} {d : Dat}, DatAll rest vs (ds ++ [d]) → ∃ vs0 v, vs = vs0 ++ [v] ∧ DatAll rest vs0 ds ∧ DatIn rest v d
  | [], vs, d, h => by
    obtain ⟨v, ws, rfl, h1, h2⟩ := dat_cons h
    cases dat_nil h2
    exact ⟨[], _, rfl, .nil, h1⟩
  | x :: ds, vs, d, h => by
    obtain ⟨v, ws, rfl, h1, h2⟩ := dat_cons h
    obtain ⟨vs0, v', rfl, h3, h4⟩ := dat_snoc h2
    exact ⟨_ :: vs0, v', rfl, .cons h1 h3, h4⟩
end Mine
end
-- W8
section
theorem Mine.offW8 : True := by
  w_top off
  k_with_none
  trivial
namespace Mine
section
theorem kwW8_1 : True := by
  k_with "call builtin:len" => ((k_here; (with_reducible show wpAny _ _ (call (Value.builtin "len") [Value.ref _]) _ _ _); k_dflt (refine' len_list (by exact News.isList (by k_asm) (by k_mem)) (by first | (simp; done) | (simp; omega)) ?_)))
  trivial
theorem stp_ret {p : Plan} {s s' : MS} {g : Option Nat} (hr : (rowsOf p)[s.at_]? = some (.ret g)) (h : stp p s = some s') : ∃ a9 q9, s.pile = a9 :: q9 ∧ s' = ⟨g.elim a9 (start p), q9, s.notes⟩ := by
  unfold stp at h
  rw [hr] at h
  dsimp only at h
  cases e : s.pile with
  | nil => rw [e] at h; cases h
  | cons a9 q9 =>
    rw [e] at h
    refine ⟨a9, q9, rfl, (Option.some.inj h).symm.trans ?_⟩
    cases g <;> rfl
local macro_rules | `(tactic| walk_at "leaving ref") => `(tactic| (k_here; with_unfolding_all (refine' leave_onD ?K ?F ?R ?U ?_; (case R => assumption); (case F => assumption); (case K => assumption); (case U => assumption)); intro h' R' U'))
theorem raised_sub {base G h : Heap} {l : List Env} {e C t d : Addr} {vs : List Value} {news news' : List (Addr × Obj)} (R : RaisedD base G l e C t d vs news h) (hs : ∀ x ∈ news', x ∈ news) : RaisedD base G l e C t d vs news' h := by
  obtain ⟨⟨⟨H, r1, r2, r3, r4⟩, r5⟩, r6⟩ := R
  exact ⟨⟨⟨H, r1, r2, fun q hq => r3 q (hs q hq), r4⟩, r5⟩, r6⟩
theorem item_nat {prog : Program} {w : World} {A : Around} {E : Value → Shared → Prop} {s : Shared} {h₀ : Heap} {L l : Addr} {news : List (Addr × Obj)} {value slice : PySem.Expr} {vs : List Value} {v : Value} {n : Nat} {k : Nat} {u : Tok} {Q : Value → Shared → Prop} (N : News h₀ L s.heap news) (hm : (l, listOf vs.toArray n) ∈ news)
    (hx : vs[k]? = some v) (hl : k ≤ 1000) (h : Q v s) (hs : subscripted slice false (.ref l) (.int (k : Int) u) = operate [.ref l, .int (k : Int) u] (getItem (.ref l) (.int (k : Int) u))) :
    wpAny (model prog w) A (subscriptTail value slice (.ref l) (.int (k : Int) u)) Q E s := by
  have hi := News.isList N hm
  exact tail_any hi.typeIs slot_list_getitem.lookup (wpAny_getItem_list hi (by omega) (by omega) (by simpa using hx) h) hs
theorem kwW8_2 : True := by
  k_with "subscriptTail" => ((k_here; (with_reducible show wpAny _ _ (subscriptTail _ _ (Value.ref _) (Value.int _ _)) _ _ _); k_dflt (refine' item_nat (by k_asm) (by k_mem) (by assumption) (by omega) ?_ (by with_unfolding_all rfl))))
  trivial
theorem kwW8_3 : True := by
  k_with "exec For Name Call cons nil" => ((k_here; (rename Fr _ _ _ _ => zzlF'); (with_unfolding_all refine' For_invVF zzlF' (by exact rfl) (by exact rfl) ?_; k_whole)))
  trivial
theorem kwW8_4 : True := by
  k_with "pyIter ref" => ((k_here; (rename Fr _ _ _ _ => zzlF'); (rename News _ _ _ _ => zzlN'); (rename IsRange _ _ _ _ _ _ _ _ => zzrgX); (with_unfolding_all refine' iter_rangeUnr (n := 3000) (by rfl) zzrgX (by first | decide | rfl) (by first | decide | rfl) zzlF' zzlN' ?_); clear zzlF' zzlN'; intro zzi' zzl1; (try k_lt zzl1); refine hold_mk ?_))
  trivial
theorem kwW8_5 : True := by
  k_with "getMethod ref" => ((k_here; k_dflt (refine' kdg_method (knd := PySem.strKind _ _) (by k_asm) (by k_mem) (by assumption) ?_)))
  trivial
theorem kwW8_6 : True := by
  k_with "call builtin:dict.get" => ((k_here; k_dflt (refine' kdg_get2 (knd := PySem.strKind _ _) (kvs := []) (by k_asm) (by k_mem) (by assumption) (by assumption) (strKind_is _ _ _ _) none rfl ?_)))
  trivial
theorem kwW8_7 : True := by
  k_with "call ref" => ((k_here; (with_reducible show wpAny _ _ (call (Value.ref 469) _) _ _ _); refine hold_mk ?_))
  trivial
theorem go_raises {w : World} {p : Program} {loose : List Str} {mean : ExcName → Option Value} {mg mb : Str → Option Value}
    {dp un : Nat} {gd : Option (List Code)} {cn : Str} {cs : Scope} {a : Addr} {ccd : Value} {cl : List (Str × Addr)} {outer : List Env} {A₀ : Around} {base h₀ : Heap} {L : Addr} {m : Str → Option Value} {s : Shared} {Q E : Value → Shared → Prop}
    (B : Below A₀ base outer h₀) (F : Fr h₀ L s.heap m) (X : (hd.heap_1 w.params).In h₀) (T : Top p loose mean mg mb h₀) (hk : cs.kind = .function)
    {rn rd fl fd vd ct cd nt R oP D2 P2 L2 F2 : Addr} {vo po : Obj} {lam : Value} {t1 t2 t3 t4 t5 t6 t7 t8 t9 c1 c2 c3 c4 c5 f1 f2 f3 f4 f5 f6 : Tok} {rvs : List Value} {rk : Nat} {rows : List (Int × Stm)} {p : Plan} {notes : List Nat} {g0 : Option Nat} {P : Addr} {pn nn : Nat} {rest : List (Addr × Obj)} {ta tm : Tok}
    (N : News h₀ L s.heap ((cd, ctlD w c1 c2 c3 c4 c5 P) :: (P, listOf ([] : List Value).toArray pn) :: (nt, listOf ([] : List Value).toArray nn) :: rest)) (RI : RunIs w p rest rn rd fl fd vd ct cd nt R oP D2 P2 L2 F2 vo po lam t1 t2 t3 t4 t5 t6 t7 t8 t9 c1 c2 c3 c4 c5 f1 f2 f3 f4 f5 f6 rvs rk rows) (W : Well p) (hC : Comes p ⟨0, [], []⟩ 848 [] notes g0)
    (o1 : ∀ x ∈ rest, x.1 ≠ cd) (o2 : ∀ x ∈ rest, x.1 ≠ P) (o3 : ∀ x ∈ rest, x.1 ≠ nt) (o4 : cd ≠ P) (o5 : cd ≠ nt) (o6 : P ≠ nt)
    (hd : dp + 12 < recursionLimit) (hu : un + 110 < cLine)
    (err : ∀ g' e t d od h' tk' tk tk2 rest' P' n' n2 nvs, Fr h₀ L g' m → RaisedD base g' (envX cn cs L a ccd cl :: outer) e 34 t d [.str "RG" tk] ((d, od) :: (cd, ctlD w c1 c2 c3 c4 c5 P') :: (P', listOf #[] n') :: (nt, listOf (List.toArray nvs) n2) :: rest') h' → g'.UpToSlots h' → NsIs od (fun y => if y = "told" then some (.str "" tk2) else if y = "code" then some (.str "RG" tk) else none) → d ≠ e →
      (∀ x ∈ (cd, ctlD w c1 c2 c3 c4 c5 P') :: (P', listOf #[] n') :: (nt, listOf nvs.toArray n2) :: rest', x.1 ≠ d) → (∀ x ∈ (cd, ctlD w c1 c2 c3 c4 c5 P') :: (P', listOf #[] n') :: (nt, listOf nvs.toArray n2) :: rest', x.1 ≠ e) →
      (∀ x ∈ rest, x ∈ rest') → DatAll rest' nvs (notes.map noteDat) → E (.ref e) { s with heap := h', toks := tk' }) :
    wpAny (model PySem.Challenge.pw_pq0183_01 w) (ktrTop dp un gd cn cs L a ccd cl outer) (call (.ref 553) [.ref rn, .int 0 ta, .int 3000 tm]) Q E s := by
  refine wpAny_call ?_
  k_dflt ktr_enter
  k_steps
  rename Addr => I
  rename _ ∧ _ ∧ _ ∧ AllLt _ rest => l1
  obtain ⟨k, a0, hk848, hk, hrow⟩ := hC
  unfold Hold
  have qa : cd ≠ I := Nat.ne_of_lt l1.1
  have qb : nt ≠ I := Nat.ne_of_lt l1.2.2.1
  refine range_ind (GoJ w p k rest rn cd nt I c1 c2 c3 c4 c5 tm) ?_ ?_ _ _ _ _ ?_
  case refine_3 =>
    refine ⟨⟨0, [], []⟩, P, [], [], pn, nn, rest, ta, rfl, Nat.zero_le _, rfl, rfl, fun _ h => h, ⟨.nil, .nil⟩, o1, o2, o3, fun x hx => Nat.ne_of_lt (ktn_ltOf l1.2.2.2 x hx), o4, o5, o6, Nat.ne_of_lt l1.2.1, rfl, fun y h1 h2 h3 => ?_⟩
    show List.lookup y [(Str.ofString "most", Value.int 3000 tm), (Str.ofString "at", Value.int 0 ta), (Str.ofString "self", Value.ref rn)] = List.lookup y [(Str.ofString "most", Value.int 3000 tm), (Str.ofString "self", Value.ref rn)]
    have e : (y == Str.ofString "at") = false := beq_false_of_ne h2
    simp only [List.lookup_cons, e]
  · rintro i m' nx ⟨st, P', pvs, nvs, n', n2, rest', tat, hi, hik, -⟩ h tk F' N'
    omega
  · rintro kk i m' nx ⟨st, P', pvs, nvs, n', n2, rest', tat, hi, hik, hit, rfl, hsub, hst, q1, q2, q3, q4, q5, q6, q7, q8, hat, hm⟩ t h tk F' N'
    have F'' := fr_same3 (a := Str.ofString "at") (b := Str.ofString "statement") F' hat hm
    clear F'
    have RI' := RI.mono hsub
    obtain ⟨u1, u2, u3, u4, u5, u6, u7, u8, u9, v2, v3, R1, R2, R3, len⟩ := RI'
    have hrl : rvs.length ≤ 100 := by rw [R2.length, List.length_map]; exact len
    have hnl : nvs.length ≤ 848 := by
      rw [hst.notes.length, List.length_map]
      have := iter_notes hit
      simp at this
      omega
    rcases Nat.lt_or_eq_of_le hik with hlt | rfl
    · obtain ⟨st', hs', hit'⟩ := iter_succ hit hk hlt
      obtain ⟨r, hr⟩ := stp_none_row hs'
      obtain ⟨ln, ra, rt, rn', va, vt, vn, arg, hx, m1, m2, harg, hal⟩ := row_get R2 R3 hr
      cases r with
      | rem kk' =>
        simp only [word] at m2
        k_steps
        rename News _ _ _ _ => kN
        rename Fr _ _ _ _ => kF
        rename _ ∧ _ ∧ _ ∧ _ ∧ AllLt _ rest' => l2
        obtain ⟨tx, rfl⟩ : ∃ tx, arg = .str (numText kk') tx := by cases harg; exact ⟨_, rfl⟩
        obtain ⟨d, tv, l2, kN⟩ : ∃ (d : Addr) (tv : Tok), (I < d ∧ cd < d ∧ P' < d ∧ nt < d ∧ AllLt d rest') ∧ News _ _ _ ((d, { cls := .type "tuple", data := .seq #[Value.str (numText kk') tx, Value.int 0 tv] }) :: (I, _) :: (cd, ctlD w c1 c2 c3 c4 c5 P') :: (P', listOf pvs.toArray n') :: (nt, listOf (nvs.toArray.push (.ref d)) (n2 + 1)) :: rest') := ⟨_, _, l2, kN⟩
        have l2' := ktn_ltOf l2.2.2.2.2
        have es : st' = ⟨st.at_ + 1, st.pile, st.notes ++ [kk']⟩ := by unfold stp at hs'; rw [hr] at hs'; exact (Option.some.inj hs').symm
        subst es
        refine' go_end kF kN hit' hi hlt (n' := n') (rest' := (d, { cls := .type "tuple", data := .seq #[Value.str (numText kk') tx, Value.int 0 tv] }) :: rest') (nvs := nvs ++ [.ref d]) (n2 := n2 + 1) (fun x hx => List.mem_cons_of_mem _ (hsub x hx)) ⟨DatAll.mono (fun x hx => List.mem_cons_of_mem _ hx) hst.pile, ?gn⟩ (List.forall_mem_cons.mpr ⟨Nat.ne_of_gt l2.2.1, q1⟩) (List.forall_mem_cons.mpr ⟨Nat.ne_of_gt l2.2.2.1, q2⟩) (List.forall_mem_cons.mpr ⟨Nat.ne_of_gt l2.2.2.2.1, q3⟩) (List.forall_mem_cons.mpr ⟨Nat.ne_of_gt l2.1, q4⟩) q5 q6 q7 q8 qa qb ?ga ?gm (by k_mem) ?gs
        case gn =>
          rw [List.map_append]
          exact DatAll.append (DatAll.mono (fun x hx => List.mem_cons_of_mem _ hx) hst.notes) (DatAll.one (.tuple (vs := [Value.str (numText kk') tx, Value.int 0 tv]) List.mem_cons_self (.cons (.str _ _) (.cons (.int _ _) .nil))))
        case ga => exact rfl
        case gm =>
          intro y h1 h2 h3
          simp [h1, h2, h3]
        case gs =>
          intro x hx
          simp only [List.mem_cons, List.push_toArray] at hx ⊢
          rcases hx with z | z | z | z | z <;> simp [z]
      | gosub l =>
        simp only [word] at m2
        obtain ⟨tx, rfl⟩ : ∃ tx, arg = .int (lineNo l) tx := by cases harg; exact ⟨_, rfl⟩
        k_steps
        unfold Hold
        obtain ⟨es, hp20⟩ : st' = ⟨start p l, (st.at_ + 1) :: st.pile, st.notes⟩ ∧ st.pile.length < 20 := by
          unfold stp at hs'
          rw [hr] at hs'
          dsimp only at hs'
          split at hs'
          · exact ⟨(Option.some.inj hs').symm, by assumption⟩
          · cases hs'
        subst es
        have hpl : pvs.length < 20 := by rw [hst.pile.length, List.length_map, List.length_reverse]; exact hp20
        have hl : l < p.length := row_gosub W hr
        have hat1000 : st.at_ ≤ 1000 := by omega
        rename News _ _ _ _ => kN
        have kN2 : News _ _ _ ((P', listOf pvs.toArray n') :: (I, itR (0 + ((i + 1 : Nat) : Int)) (((3000 : Nat) : Int) - ((i + 1 : Nat) : Int))) :: (cd, ctlD w c1 c2 c3 c4 c5 P') :: (nt, listOf nvs.toArray n2) :: rest') := newsSub kN (fun x hx => by
          simp only [List.mem_cons] at hx ⊢
          rcases hx with z | z | z | z | z <;> simp [z])
        k_dflt (refine' flow_gosub (pl := p) (l := l) (R := R) (oP := oP) (fl := fl) ?B ?F ?X ?T ?hk kN2 ?r1 ?r2 ?h1 ?h2 ?g1 ?g2 ?g3 u7 u8 hl ?hv ?hr hpl ?ha ?ha2 ?hd ?hu ?_)
        case B => k_asm
        case F => k_asm
        case X => k_asm
        case T => k_asm
        case hk => exact rfl
        case r1 => k_mem
        case r2 => k_mem
        case h1 => k_mem
        case h2 => k_mem
        case g1 => k_mem
        case g2 => k_mem
        case g3 => k_mem
        case hv => k_mem
        case hr => exact List.forall_mem_cons.mpr ⟨Ne.symm q8, List.forall_mem_cons.mpr ⟨q5, List.forall_mem_cons.mpr ⟨Ne.symm q7, q2⟩⟩⟩
        case ha => omega
        case ha2 => omega
        case hd => ktr_room
        case hu => ktr_units
        clear kN kN2
        intro d n3 tg h3 tk3 tk4 ts F3 N3 hdP hlt3
        k_steps
        rename News _ _ _ _ => kN
        rename Fr _ _ _ _ => kF
        refine' go_end kF kN hit' hi hlt (P' := P') (n' := n3) (n2 := n2) (pvs := pvs ++ [.ref d]) (nvs := nvs) (rest' := (d, { cls := .type "tuple", data := .seq #[Value.str (Str.ofString "GOSUB") tk4, Value.int ((st.at_ : Int) + 1) tg] }) :: rest') (fun x hx => List.mem_cons_of_mem _ (hsub x hx)) ⟨?gn, DatAll.mono (fun x hx => List.mem_cons_of_mem _ hx) hst.notes⟩
          (List.forall_mem_cons.mpr ⟨Ne.symm (Nat.ne_of_lt (hlt3 _ (by k_mem : (cd, ctlD w c1 c2 c3 c4 c5 P') ∈ _))), q1⟩) (List.forall_mem_cons.mpr ⟨hdP, q2⟩) (List.forall_mem_cons.mpr ⟨Ne.symm (Nat.ne_of_lt (hlt3 _ (by k_mem : (nt, listOf nvs.toArray n2) ∈ _))), q3⟩) (List.forall_mem_cons.mpr ⟨Ne.symm (Nat.ne_of_lt (hlt3 _ List.mem_cons_self)), q4⟩) q5 q6 q7 q8 qa qb ?ga ?gm (by k_mem) ?gs
        case gn =>
          show DatAll _ (pvs ++ [Value.ref d]) (List.map placeDat (((st.at_ + 1) :: st.pile).reverse))
          rw [List.reverse_cons, List.map_append]
          exact DatAll.append (DatAll.mono (fun x hx => List.mem_cons_of_mem _ hx) hst.pile) (DatAll.one (.tuple (vs := [Value.str (Str.ofString "GOSUB") tk4, Value.int ((st.at_ : Int) + 1) tg]) List.mem_cons_self (.cons (.str _ _) (.cons (.int _ _) .nil))))
        case ga => exact rfl
        case gm =>
          intro y h1 h2 h3
          simp [h1, h2, h3]
        case gs =>
          intro x hx
          simp only [List.mem_cons] at hx ⊢
          rcases hx with z | z | z | z | z <;> simp [z]
      | ret g =>
        simp only [word] at m2
        obtain ⟨a9, q9, hpl9, es⟩ := stp_ret hr hs'
        subst es
        have hpv := hst.pile
        rw [hpl9, List.reverse_cons, List.map_append] at hpv
        obtain ⟨pvs0, v9, rfl, hp0, hv9⟩ := dat_snoc hpv
        obtain ⟨top, tp, tg, tn, rfl, htop⟩ := place_inv hv9
        have hp20 : st.pile.length ≤ 20 := iter_pile hit
        have hpl : pvs0.length < 20 := by
          rw [hp0.length, List.length_map, List.length_reverse]
          rw [hpl9, List.length_cons] at hp20; omega
        k_steps
        unfold Hold
        rename News _ _ _ _ => kN
        have kN2 : News _ _ _ ((cd, ctlD w c1 c2 c3 c4 c5 P') :: (P', listOf (pvs0 ++ [Value.ref top]).toArray n') :: (I, itR (0 + ((i + 1 : Nat) : Int)) (((3000 : Nat) : Int) - ((i + 1 : Nat) : Int))) :: (nt, listOf nvs.toArray n2) :: rest') := newsSub kN (fun x hx => by
          simp only [List.mem_cons] at hx ⊢
          rcases hx with z | z | z | z | z <;> simp [z])
        k_dflt (refine' flow_ret (pl := p) (g := g) (R := R) (oP := oP) (fl := fl) ?B ?F ?X ?T ?hk kN2 ?r1 ?r2 ?h1 ?h2 ?h3 ?g1 ?g2 ?g3 u7 u8 (fun gg hgg => row_ret W (hgg ▸ hr)) ?hv ?ha ?hr hpl ?hd ?hu ?_)
        case B => k_asm
        case F => k_asm
        case X => k_asm
        case T => k_asm
        case hk => exact rfl
        case r1 => k_mem
        case r2 => k_mem
        case h1 => k_mem
        case h2 => k_mem
        case h3 => k_mem
        case g1 => k_mem
        case g2 => k_mem
        case g3 => k_mem
        case hv => k_mem
        case ha => exact DatIn.mono (fun x hx => List.mem_cons_of_mem _ (List.mem_cons_of_mem _ (List.mem_cons_of_mem _ hx))) harg
        case hr => exact List.forall_mem_cons.mpr ⟨Ne.symm q5, List.forall_mem_cons.mpr ⟨Ne.symm qa, List.forall_mem_cons.mpr ⟨Ne.symm q6, q1⟩⟩⟩
        case hd => ktr_room
        case hu => ktr_units
        clear kN kN2
        intro P3 n3 h3 tk3 ts F3 N3 hP3 hlt3
        k_steps
        rename News _ _ _ _ => kN
        rename Fr _ _ _ _ => kF
        refine' go_end kF kN hit' hi hlt (P' := P3) (n' := n3) (n2 := n2) (pvs := pvs0) (nvs := nvs) (rest' := (P', listOf (pvs0 ++ [Value.ref top]).toArray n') :: rest') (fun x hx => List.mem_cons_of_mem _ (hsub x hx)) ⟨DatAll.mono (fun x hx => List.mem_cons_of_mem _ hx) hp0, DatAll.mono (fun x hx => List.mem_cons_of_mem _ hx) hst.notes⟩
          (List.forall_mem_cons.mpr ⟨Ne.symm q5, q1⟩) (List.forall_mem_cons.mpr ⟨Nat.ne_of_lt (hlt3 _ List.mem_cons_self), fun x hx => Nat.ne_of_lt (hlt3 _ (List.mem_cons_of_mem _ (List.mem_cons_of_mem _ (List.mem_cons_of_mem _ hx))))⟩) (List.forall_mem_cons.mpr ⟨q7, q3⟩) (List.forall_mem_cons.mpr ⟨q8, q4⟩) (Ne.symm hP3) q6 (Ne.symm (Nat.ne_of_lt (hlt3 _ (by k_mem : (nt, listOf nvs.toArray n2) ∈ _)))) (Ne.symm (Nat.ne_of_lt (hlt3 _ (List.mem_cons_of_mem _ List.mem_cons_self)))) qa qb ?ga ?gm (by k_mem) ?gs
        case ga => exact rfl
        case gm =>
          intro y h1 h2 h3
          simp [h1, h2, h3]
        case gs =>
          intro x hx
          simp only [List.mem_cons] at hx ⊢
          rcases hx with z | z | z | z | z <;> simp [z]
    · have hst0 : st = ⟨a0, [], notes⟩ := iter_same hit hk
      subst hst0
      obtain rfl : pvs = [] := by cases hst.pile; rfl
      obtain ⟨ln, ra, rt, rn', va, vt, vn, arg, hx, m1, m2, harg, hal⟩ := row_get R2 R3 hrow
      simp only [word] at m2
      k_steps
      unfold Hold
      rename News _ _ _ _ => kN
      k_dflt (refine' flow_raise ?B ?F ?X ?T ?hk kN ?r1 ?r2 ?h1 ?h2 ?h3 ?hv ?hd ?hu ?_)
      case B => k_asm
      case F => k_asm
      case X => k_asm
      case T => k_asm
      case hk => exact rfl
      case r1 => k_mem
      case r2 => k_mem
      case h1 => k_mem
      case h2 => k_mem
      case h3 => k_mem
      case hv => k_mem
      case hd => ktr_room
      case hu => ktr_units
      intro g' e t d od h3 tk3 tk4 tk5 F3 RD U3 NS hde hd1 he1
      clear kN
      k_steps
      rename RaisedD base _ (envX cn cs L a ccd cl :: outer) e 34 _ d _ _ _ => kR
      rename Fr h₀ L _ m => kG
      have sb : ∀ x ∈ (cd, ctlD w c1 c2 c3 c4 c5 P') :: (P', listOf #[] n') :: (nt, listOf nvs.toArray n2) :: rest', x ∈ (I, itR (0 + ((i + 1 : Nat) : Int)) (((3000 : Nat) : Int) - ((i + 1 : Nat) : Int))) :: (cd, ctlD w c1 c2 c3 c4 c5 P') :: (P', listOf #[] n') :: (nt, listOf nvs.toArray n2) :: rest' := fun x hx => List.mem_cons_of_mem _ hx
      refine' err _ e _ d od _ _ tk4 tk5 rest' P' n' n2 nvs kG (raised_sub kR fun x hx => ?sb) (by assumption) NS hde (fun x hx => hd1 x (sb x hx)) (fun x hx => he1 x (sb x hx)) hsub hst.notes
      case sb =>
        rcases List.mem_cons.mp hx with z | z
        · exact z ▸ List.mem_cons_self
        · exact List.mem_cons_of_mem _ (sb x z)
end
end Mine
end
-- W9
section
theorem Mine.offW9 : True := by
  w_top off
  k_with_none
  trivial
namespace Mine
section
theorem rowsFrom_append : ∀ (i : Nat) (p q : Plan), rowsFrom i (p ++ q) = rowsFrom i p ++ rowsFrom (i + p.length) q
  | i, [], q => by simp [rowsFrom]
  | i, l :: p, q => by
    rw [List.cons_append, rowsFrom, rowsFrom, rowsFrom_append (i + 1) p q, List.append_assoc, List.length_cons, show i + 1 + p.length = i + (p.length + 1) by omega]
/-- the lines as flatten reads them -/
def parsedFrom : Nat → Plan → List Dat
  | _, [] => []
  | i, l :: p => .tuple [.int (lineNo i), .list ((lineRows i l).map stmDat)] :: parsedFrom (i + 1) p
theorem val_stored_same (kvs : List (Int × Value)) (k : Int) (v : Value) : valueAt (stored kvs k v) k = some v := by
  unfold stored valueAt
  split
  · rename_i h
    induction kvs with
    | nil => simp at h
    | cons e r ih =>
      by_cases he : e.1 = k
      · simp [he]
      · simp only [List.any_cons, he, decide_false, Bool.false_or] at h
        simp only [List.map_cons, he, if_false]
        rw [List.find?_cons_of_neg (by simp [he])]
        exact ih h
  · rename_i h
    rw [List.find?_append]
    have : kvs.find? (fun kv => decide (kv.1 = k)) = none := by
      rw [List.find?_eq_none]
      intro x hx hk
      exact h (List.any_eq_true.mpr ⟨x, hx, hk⟩)
    rw [this]
    simp
theorem val_stored_other (kvs : List (Int × Value)) (k k' : Int) (v : Value) (hk : k' ≠ k) : valueAt (stored kvs k v) k' = valueAt kvs k' := by
  unfold stored valueAt
  split
  · rename_i h0; clear h0
    induction kvs with
    | nil => rfl
    | cons e r ih =>
      by_cases he : e.1 = k
      · have hk2 : ¬ k = k' := fun z => hk z.symm
        rw [List.map_cons, if_pos he, List.find?_cons_of_neg (by simpa [he] using hk2), List.find?_cons_of_neg (by simpa [he] using hk2)]
        exact ih
      · rw [List.map_cons, if_neg he]
        by_cases he2 : e.1 = k'
        · rw [List.find?_cons_of_pos (by simp [he2]), List.find?_cons_of_pos (by simp [he2])]
        · rw [List.find?_cons_of_neg (by simp [he2]), List.find?_cons_of_neg (by simp [he2])]
          exact ih
  · rw [List.find?_append]
    have : List.find? (fun kv => decide (kv.1 = k')) [(k, v)] = none := by
      have hk2 : ¬ k = k' := fun z => hk z.symm
      simp [hk2]
    rw [this, Option.or_none]
theorem fr_out2 {h₀ h : Heap} {L : Addr} {x z : Str} {m' mF : Str → Option Value} (F : Fr h₀ L h m') (hm : ∀ y, y ≠ x → y ≠ z → m' y = mF y) : Fr h₀ L h (fun y => if y = x then m' x else if y = z then m' z else mF y) := by
  have e : m' = (fun y => if y = x then m' x else if y = z then m' z else mF y) := by
    funext y
    by_cases h1 : y = x
    · simp [h1]
    · by_cases h2 : y = z
      · simp only [if_neg h1, if_pos h2]; rw [h2]
      · simp [h1, h2, hm y h1 h2]
  rw [← e]; exact F
theorem kwW9_1 : True := by
  k_with "exec For Tuple Name cons nil" => ((k_here; (rename Fr _ _ _ _ => zzlF'); (with_unfolding_all refine' For_turns zzlF' ?_; k_whole)))
  trivial
theorem kwW9_2 : True := by
  k_with "pyIter ref" => ((k_here; (rename Fr _ _ _ _ => zzlF'); (rename News _ _ _ _ => zzlN'); (with_unfolding_all refine' iter_listTurns (by exact rfl) zzlF' zzlN' (by k_mem) (by exact rfl) (by exact rfl) ?_); clear zzlF' zzlN'; intro zzi' zzl1; (try k_lt zzl1); refine hold_mk ?_))
  trivial
theorem kwW9_3 : True := by
  k_with "call ref" => ((k_here; (first | (with_reducible show wpAny _ _ (call (Value.ref 405) _) _ _ _) | (with_reducible show wpAny _ _ (call (Value.ref 412) _) _ _ _)); refine hold_mk ?_))
  trivial
theorem kwW9_4 : True := by
  k_with "call builtin:len" => ((k_here; (with_reducible show wpAny _ _ (call (Value.builtin "len") [Value.ref _]) _ _ _); k_dflt (refine' len_list (by exact News.isList (by k_asm) (by k_mem)) (by first | (simp; done) | (simp; omega)) ?_)))
  trivial
theorem kwW9_5 : True := by
  k_with "setItem ref int" => ((k_here; k_dflt (refine' kda_set (knd := PySem.intKind _ _) (by k_asm) (by k_asm) (by k_updF) (by assumption) (intKind_is _ _ _ _) (by (rw [sizeLine_eq]; omega)) ?_); intro zzh' zzo' zzF' zzN' zzhd'; (try dsimp only at zzN')))
  trivial
theorem kwW9_6 : True := by
  k_with "subscriptTail" => ((k_here; (with_reducible show wpAny _ _ (subscriptTail _ _ (Value.ref _) (Value.int _ _)) _ _ _); k_dflt (refine kba_turn (value' := PySem.Expr.Name (PySem.Str.ofString "_") ⟨0, 0, 0, 0⟩) (fun _ => rfl) ?_); (refine' kda_item (knd := PySem.intKind _ _) (by k_asm) (by k_mem) (by assumption) (intKind_is _ _ _ _) (by exact val_stored_same _ _ _) ?_ (by with_unfolding_all rfl) (by (intro _; with_unfolding_all rfl)))))
  trivial
/-- a line as flatten reads it -/
theorem line_inv {rest : List (Addr × Obj)} {v : Value} {i : Nat} {sts : List Stm} (h : DatIn rest v (.tuple [.int (lineNo i), .list (sts.map stmDat)])) : ∃ T tk n S svs sn, v = .ref T ∧ (T, ({ cls := .type "tuple", data := .seq [Value.int (lineNo i) tk, Value.ref S].toArray n } : Obj)) ∈ rest ∧ (S, listOf (List.toArray svs) sn) ∈ rest ∧ DatAll rest svs (sts.map stmDat) := by
  obtain ⟨a, v1, v2, n, e, hm, h1, h2⟩ := dat_two h
  obtain ⟨t1, rfl⟩ := dat_int h1
  obtain ⟨S, svs, sn, rfl, hm2, hd2⟩ := dat_lst h2
  exact ⟨a, t1, n, S, svs, sn, e, hm, hm2, hd2⟩
def flG (fl PA : Addr) : Str → Option Value := fun y => if y = Str.ofString "flat" then some (.ref fl) else List.lookup y [(Str.ofString "parsed", Value.ref PA)]
/-- the invariant of flatten's loop -/
def FlJ (w : World) (pl : Plan) (PA I : Addr) (rest : List (Addr × Obj)) (r : List Itm) (m' : Str → Option Value) (nx : List (Addr × Obj)) : Prop :=
  ∃ (fl fd R oP D2 P2 L2 F2 : Addr) (po : Obj) (f1 f2 f3 f4 f5 f6 : Tok) (rvs : List Value) (rk : Nat) (rows : List (Int × Stm)) (rest' : List (Addr × Obj)) (p1 p2 : Plan) (lv2 : List Value) (kvs : List (Int × Value)),
    pl = p1 ++ p2 ∧ r = lv2.map .val ∧ DatAll rest lv2 (parsedFrom p1.length p2) ∧
    (∀ x ∈ (R, listOf rvs.toArray rk) :: (oP, po) :: (fl, instObj 380 fd) :: (fd, flatD w f1 f2 f3 f4 f5 f6 R oP D2 P2 L2 F2) :: rest', x ∈ nx) ∧ (∀ x ∈ rest, x ∈ rest') ∧
    R ≠ I ∧ oP ≠ I ∧ fl ≠ I ∧ fd ≠ I ∧ (∀ x ∈ rest', x.1 ≠ I) ∧ R ≠ oP ∧ (∀ x ∈ (fl, instObj 380 fd) :: (fd, flatD w f1 f2 f3 f4 f5 f6 R oP D2 P2 L2 F2) :: rest', x.1 ≠ R) ∧ (∀ x ∈ (fl, instObj 380 fd) :: (fd, flatD w f1 f2 f3 f4 f5 f6 R oP D2 P2 L2 F2) :: rest', x.1 ≠ oP) ∧
    (oP == sysModules) = false ∧ po.IsDictOf (PySem.intKind PySem.Challenge.pw_pq0183_01 w) kvs ∧ kvs.length ≤ p1.length ∧ (∀ i, i < p1.length → ∃ t, valueAt kvs (lineNo i) = some (.int (start pl i : Int) t)) ∧
    DatAll rest' rvs (rows.map rowDat) ∧ rows.map (·.2) = rowsFrom 0 p1 ∧ rows.length ≤ 4 * p1.length ∧ (∀ y, y ≠ Str.ofString "line" → y ≠ Str.ofString "statements" → m' y = flG fl PA y)
theorem flat_init {w : World} {pl : Plan} {PA I F2 L2 P2 D2 oP R fl fd : Addr} {o1 o2 o3 po : Obj} {f1 f2 f3 f4 f5 f6 : Tok} {lvs : List Value} {m0 : Str → Option Value} {rest : List (Addr × Obj)} (hD : DatAll rest lvs (parsedFrom 0 pl))
    (hs : (oP == sysModules) = false) (hp : po.IsDictOf (PySem.intKind PySem.Challenge.pw_pq0183_01 w) [])
    (hI : F2 < I ∧ L2 < I ∧ P2 < I ∧ D2 < I ∧ oP < I ∧ R < I ∧ fl < I ∧ fd < I ∧ AllLt I rest) (hR : fl < R ∧ fd < R ∧ AllLt R rest) (ho : R < oP ∧ fl < oP ∧ fd < oP ∧ AllLt oP rest)
    (h1 : oP < D2 ∧ R < D2 ∧ fl < D2 ∧ fd < D2 ∧ AllLt D2 rest) (h2 : D2 < P2 ∧ oP < P2 ∧ R < P2 ∧ fl < P2 ∧ fd < P2 ∧ AllLt P2 rest) (h3 : P2 < L2 ∧ D2 < L2 ∧ oP < L2 ∧ R < L2 ∧ fl < L2 ∧ fd < L2 ∧ AllLt L2 rest)
    (h4 : L2 < F2 ∧ P2 < F2 ∧ D2 < F2 ∧ oP < F2 ∧ R < F2 ∧ fl < F2 ∧ fd < F2 ∧ AllLt F2 rest) (hm : ∀ y, m0 y = flG fl PA y) :
    FlJ w pl PA I rest (lvs.map .val) m0 ((F2, o1) :: (L2, o2) :: (P2, o3) :: (D2, listOf #[] 0) :: (oP, po) :: (R, listOf #[] 0) :: (fl, instObj 380 fd) :: (fd, flatD w f1 f2 f3 f4 f5 f6 R oP D2 P2 L2 F2) :: rest) := by
  have a0 := ktn_ltOf hI.2.2.2.2.2.2.2.2
  have a1 := ktn_ltOf hR.2.2
  have a2 := ktn_ltOf ho.2.2.2
  refine ⟨fl, fd, R, oP, D2, P2, L2, F2, po, f1, f2, f3, f4, f5, f6, [], 0, [], (F2, o1) :: (L2, o2) :: (P2, o3) :: (D2, listOf #[] 0) :: rest, [], pl, lvs, [], rfl, rfl, hD, ?_, ?_, Nat.ne_of_lt hI.2.2.2.2.2.1, Nat.ne_of_lt hI.2.2.2.2.1, Nat.ne_of_lt hI.2.2.2.2.2.2.1, Nat.ne_of_lt hI.2.2.2.2.2.2.2.1, ?_, Nat.ne_of_lt ho.1, ?_, ?_, hs, hp, Nat.le_refl _, ?_, .nil, rfl, Nat.le_refl _, fun y _ _ => hm y⟩
  · intro x hx
    simp only [List.mem_cons] at hx ⊢
    rcases hx with z | z | z | z | z | z | z | z | z <;> simp [z]
  · intro x hx
    simp [hx]
  · refine List.forall_mem_cons.mpr ⟨Nat.ne_of_lt hI.1, List.forall_mem_cons.mpr ⟨Nat.ne_of_lt hI.2.1, List.forall_mem_cons.mpr ⟨Nat.ne_of_lt hI.2.2.1, List.forall_mem_cons.mpr ⟨Nat.ne_of_lt hI.2.2.2.1, fun x hx => Nat.ne_of_lt (a0 x hx)⟩⟩⟩⟩
  · exact List.forall_mem_cons.mpr ⟨Nat.ne_of_lt hR.1, List.forall_mem_cons.mpr ⟨Nat.ne_of_lt hR.2.1, List.forall_mem_cons.mpr ⟨Nat.ne_of_gt h4.2.2.2.2.1, List.forall_mem_cons.mpr ⟨Nat.ne_of_gt h3.2.2.2.1, List.forall_mem_cons.mpr ⟨Nat.ne_of_gt h2.2.2.1, List.forall_mem_cons.mpr ⟨Nat.ne_of_gt h1.2.1, fun x hx => Nat.ne_of_lt (a1 x hx)⟩⟩⟩⟩⟩⟩
  · exact List.forall_mem_cons.mpr ⟨Nat.ne_of_lt ho.2.1, List.forall_mem_cons.mpr ⟨Nat.ne_of_lt ho.2.2.1, List.forall_mem_cons.mpr ⟨Nat.ne_of_gt h4.2.2.2.1, List.forall_mem_cons.mpr ⟨Nat.ne_of_gt h3.2.2.1, List.forall_mem_cons.mpr ⟨Nat.ne_of_gt h2.2.1, List.forall_mem_cons.mpr ⟨Nat.ne_of_gt h1.1, fun x hx => Nat.ne_of_lt (a2 x hx)⟩⟩⟩⟩⟩⟩
  · intro i hi
    exact absurd hi (Nat.not_lt_zero _)
theorem start_here (p1 p2 : Plan) : start (p1 ++ p2) p1.length = (rowsFrom 0 p1).length := by
  unfold start
  rw [List.take_left]
theorem start_next (p1 p2 : Plan) (l : Ln) : (rowsFrom 0 (p1 ++ [l])).length = (rowsFrom 0 p1).length + (lineRows p1.length l).length := by
  rw [rowsFrom_append, List.length_append, rowsFrom, rowsFrom, List.append_nil, Nat.zero_add]
theorem rows_few {i : Nat} {l : Ln} (h : l.calls.length ≤ 2) : (lineRows i l).length ≤ 4 ∧ 1 ≤ (lineRows i l).length := by
  simp [lineRows]; omega
theorem flatten_ok {w : World} {p : Program} {loose : List Str} {mean : ExcName → Option Value} {mg mb : Str → Option Value}
    {dp un : Nat} {gd : Option (List Code)} {cn : Str} {cs : Scope} {a : Addr} {ccd : Value} {cl : List (Str × Addr)} {outer : List Env} {A₀ : Around} {base h₀ : Heap} {L : Addr} {m : Str → Option Value} {s : Shared} {Q E : Value → Shared → Prop}
    (B : Below A₀ base outer h₀) (F : Fr h₀ L s.heap m) (X : (hd.heap_1 w.params).In h₀) (T : Top p loose mean mg mb h₀) (hk : cs.kind = .function)
    {PA : Addr} {pn : Nat} {lvs : List Value} {pl : Plan} {rest : List (Addr × Obj)}
    (N : News h₀ L s.heap rest) (hP : (PA, listOf lvs.toArray pn) ∈ rest) (hD : DatAll rest lvs (parsedFrom 0 pl)) (W : Well pl) (hd : dp + 8 < recursionLimit) (hu : un + 60 < cLine)
    (ret : ∀ fl fd R oP D2 P2 L2 F2 po f1 f2 f3 f4 f5 f6 (rvs : List Value) (rk : Nat) (rows : List (Int × Stm)) rest' h' tk', Fr h₀ L h' m → News h₀ L h' ((R, listOf (List.toArray rvs) rk) :: (oP, po) :: (fl, instObj 380 fd) :: (fd, flatD w f1 f2 f3 f4 f5 f6 R oP D2 P2 L2 F2) :: rest') → (∀ x ∈ rest, x ∈ rest') → PlacesAre w po pl → (oP == sysModules) = false → DatAll rest' rvs (rows.map rowDat) → rows.map (·.2) = rowsOf pl → rows.length ≤ 100 → Q (.ref fl) { s with heap := h', toks := tk' }) :
    wpAny (model PySem.Challenge.pw_pq0183_01 w) (ktrTop dp un gd cn cs L a ccd cl outer) (call (.ref 433) [.ref PA]) Q E s := by
  refine wpAny_call ?_
  k_dflt ktr_enter
  k_steps
  rename Addr => I
  unfold Hold
  refine items_ind (FlJ w pl PA I rest) ?_ ?_ _ _ _ (flat_init hD (by assumption) (by assumption) (by assumption) (by assumption) (by assumption) (by assumption) (by assumption) (by assumption) (by assumption) (fun _ => rfl))
  · rintro m' nx ⟨fl, fd, R, oP, D2, P2, L2, F2, po, f1, f2, f3, f4, f5, f6, rvs, rk, rows, rest', p1, p2, lv2, kvs, rfl, hr, hd2, hsub, hsr, -, -, -, -, -, -, -, -, hs, hp, -, hv, hdr, hrr, hrl, hm⟩ h tk F' N'
    obtain rfl : lv2 = [] := by cases lv2; rfl; cases hr
    cases p2 with
    | cons => cases hd2
    | nil =>
      have N'' := newsSub N' hsub
      have F'' := fr_out2 F' hm
      clear F' N'
      have h24 : rows.length ≤ 100 := by
        have := W.many
        rw [List.append_nil] at this
        omega
      k_steps
      unfold Hold
      rename Fr _ _ _ _ => kF
      k_dflt (refine' gather (R := R) (P := oP) (fd := fd) (rvs := rvs) (n := rk) (rows := rows) ?B ?F ?X ?T ?hk N'' ?hi ?hd' ?hR ?hsv ?hd ?hu ?_)
      case B => k_asm
      case F => k_asm
      case X => k_asm
      case T => k_asm
      case hk => exact rfl
      case hi => k_mem
      case hd' => k_mem
      case hR => k_mem
      case hsv => exact DatAll.mono (fun x hx => by simp [hx]) hdr
      case hd => ktr_room
      case hu => ktr_units
      clear N''
      intro h3 tk3 F3 N3
      k_steps
      rename News _ _ _ _ => kN
      rename Fr _ _ _ _ => kF'
      refine ret fl fd R oP D2 P2 L2 F2 po f1 f2 f3 f4 f5 f6 rvs rk rows rest' _ _ (by assumption) kN hsr ⟨kvs, hp, fun i hi => hv i (by simpa using hi)⟩ hs hdr (by simpa [rowsOf] using hrr) h24
  · rintro a r m' nx ⟨fl, fd, R, oP, D2, P2, L2, F2, po, f1, f2, f3, f4, f5, f6, rvs, rk, rows, rest', p1, p2, lv2, kvs, rfl, hr, hd2, hsub, hsr, i1, i2, i3, i4, i5, i6, i7, i8, hs, hp, hkl, hv, hdr, hrr, hrl, hm⟩ v h tk its ha hits F' N'
    cases p2 with
    | nil => cases hd2; cases hr
    | cons l p2 =>
      cases hd2 with
      | cons hv1 hd2 =>
        obtain ⟨o1, rfl, c1⟩ := objs1 hits
        injection hr with hr1 hr2
        subst hr1 hr2
        obtain rfl := ha
        have N'' := newsRest N' hsub
        simp only [List.cons_append, List.nil_append] at N''
        have F'' := fr_out2 F' hm
        clear N' F'
        obtain ⟨T', tk', tn, S, svs, sn, rfl, e1, e2, e3⟩ := line_inv hv1
        have e1 := hsr _ e1
        have e2' := hsr _ e2
        have few := rows_few (i := p1.length) (W.few p1.length l (by simp))
        have p6 : p1.length < 6 := by have := W.many; simp at this; omega
        have rl2 : rvs.length = (rowsFrom 0 p1).length := by rw [hdr.length, List.length_map, ← hrr, List.length_map]
        have rl3 : rows.length = (rowsFrom 0 p1).length := by rw [← hrr, List.length_map]
        have sl : svs.length = (lineRows p1.length l).length := by rw [e3.length, List.length_map]
        have i2' : I ≠ oP := Ne.symm i2
        k_steps
        unfold Hold
        rename News _ _ _ _ => kN
        rename Obj.IsDictOf _ _ (stored _ _ _) => hO
        obtain ⟨o', tO, kN, hO⟩ : ∃ (o' : Obj) (tO : Tok), News _ _ _ ((I, o1) :: (R, listOf rvs.toArray rk) :: (oP, o') :: (fl, instObj 380 fd) :: (fd, flatD w f1 f2 f3 f4 f5 f6 R oP D2 P2 L2 F2) :: rest') ∧ o'.IsDictOf (PySem.intKind PySem.Challenge.pw_pq0183_01 w) (stored kvs (lineNo p1.length) (.int (rvs.toArray.size : Int) tO)) := ⟨_, _, kN, hO⟩
        have kN2 : News _ _ _ ((R, listOf rvs.toArray rk) :: ([(fl, instObj 380 fd), (fd, flatD w f1 f2 f3 f4 f5 f6 R oP D2 P2 L2 F2), (I, o1), (oP, o')] ++ rest')) := newsSub kN (fun x hx => by
          simp only [List.mem_cons, List.cons_append, List.nil_append] at hx ⊢
          rcases hx with z | z | z | z | z | z <;> simp [z])
        k_dflt (refine' put_all (R := R) (P := oP) (fd := fd) (S := S) (rvs := rvs) (svs := svs) (sts := lineRows p1.length l) ?B ?F ?X kN2 ?T ?hk ?hi ?hd' ?hS ?hsv ?hlen ?hd ?hu ?hf ?hr ?_)
        case B => k_asm
        case F => k_asm
        case X => k_asm
        case T => k_asm
        case hk => exact rfl
        case hi => k_mem
        case hd' => k_mem
        case hS => exact e2'
        case hsv => exact DatAll.mono hsr e3
        case hlen => omega
        case hd => ktr_room
        case hu => ktr_units
        case hf => exact List.forall_mem_cons.mpr ⟨i7 _ List.mem_cons_self, List.forall_mem_cons.mpr ⟨i7 _ (List.mem_cons_of_mem _ List.mem_cons_self), List.forall_mem_cons.mpr ⟨Ne.symm i1, List.forall_mem_cons.mpr ⟨Ne.symm i6, fun _ h => nomatch h⟩⟩⟩⟩
        case hr => exact fun x hx => i7 x (List.mem_cons_of_mem _ (List.mem_cons_of_mem _ hx))
        clear kN kN2
        intro pvs rest3 h3 tk3 n3 F3 N3 hsub3 hoff3 hnew3 hd3
        simp only [List.cons_append, List.nil_append] at N3
        have pl3 : pvs.length = (lineRows p1.length l).length := by rw [hd3.length, List.length_map]
        have qlt : ∀ x ∈ rest3, x.1 ≠ I ∧ x.1 ≠ oP := fun x hx => (hnew3 x hx).elim (fun z => ⟨i5 x z, i8 x (List.mem_cons_of_mem _ (List.mem_cons_of_mem _ z))⟩) fun z => ⟨Ne.symm (z _ (by simp : (I, o1) ∈ _)), Ne.symm (z _ (by simp : (oP, o') ∈ _))⟩
        k_steps
        · exfalso
          rename (rvs.toArray.size : Int) = ((rvs ++ pvs).toArray.size : Int) => z
          simp only [List.size_toArray, List.length_append, Int.natCast_add] at z
          omega
        · rename Fr _ _ _ _ => kF
          have hst : stored kvs (lineNo p1.length) (.int (rvs.toArray.size : Int) tO) = stored kvs (lineNo p1.length) (.int (rvs.toArray.size : Int) tO) := rfl
          refine unrw_end kF N3 ((R, listOf (rvs ++ pvs).toArray n3) :: (oP, o') :: (fl, instObj 380 fd) :: (fd, flatD w f1 f2 f3 f4 f5 f6 R oP D2 P2 L2 F2) :: rest3) (fun x hx => by obtain rfl := List.mem_singleton.mp hx; k_mem) ?ha ?hb ⟨⟨?hc, trivial⟩, fl, fd, R, oP, D2, P2, L2, F2, o', f1, f2, f3, f4, f5, f6, rvs ++ pvs, n3, rows ++ (lineRows p1.length l).map (fun st => (lineNo p1.length, st)), rest3, p1 ++ [l], p2, _, _, by simp, rfl, ?h1, fun x hx => hx, fun x hx => hsub3 x (hsr x hx), i1, i2, i3, i4, fun x hx => (qlt x hx).1, i6, ?h2, ?h3, hs, hO, ?h4, ?h5, ?h6, ?h7, ?h8, ?h9⟩
          case ha =>
            intro x hx
            simp only [List.mem_cons] at hx ⊢
            rcases hx with z | z | z | z | z <;> simp [z]
          case hb =>
            intro x hx q hq
            obtain rfl := List.mem_singleton.mp hq
            exact (List.forall_mem_cons.mpr ⟨i1, List.forall_mem_cons.mpr ⟨i2, List.forall_mem_cons.mpr ⟨i3, List.forall_mem_cons.mpr ⟨i4, fun x hx => (qlt x hx).1⟩⟩⟩⟩ : ∀ x ∈ _, x.1 ≠ I) x hx
          case hc => exact List.mem_cons_of_mem _ (List.mem_cons_of_mem _ (List.mem_cons_of_mem _ (List.mem_cons_of_mem _ (hsub3 _ (hsr _ hP)))))
          case h1 =>
            rw [List.length_append]
            exact hd2
          case h2 => exact List.forall_mem_cons.mpr ⟨i7 _ List.mem_cons_self, List.forall_mem_cons.mpr ⟨i7 _ (List.mem_cons_of_mem _ List.mem_cons_self), hoff3⟩⟩
          case h3 => exact List.forall_mem_cons.mpr ⟨i8 _ List.mem_cons_self, List.forall_mem_cons.mpr ⟨i8 _ (List.mem_cons_of_mem _ List.mem_cons_self), fun x hx => (qlt x hx).2⟩⟩
          case h4 =>
            have := stored_length_le kvs (lineNo p1.length) (.int (rvs.toArray.size : Int) tO)
            rw [List.length_append, List.length_singleton]
            omega
          case h5 =>
            intro i hi
            rw [List.length_append, List.length_singleton] at hi
            rcases Nat.lt_or_eq_of_le (Nat.le_of_lt_succ hi) with h | rfl
            · obtain ⟨t9, h9⟩ := hv i h
              exact ⟨t9, by rw [val_stored_other _ _ _ _ (by unfold lineNo; omega)]; exact h9⟩
            · exact ⟨tO, by rw [val_stored_same, start_here, ← rl2]; simp⟩
          case h6 =>
            rw [List.map_append, List.map_map]
            exact DatAll.append (DatAll.mono hsub3 hdr) hd3
          case h7 =>
            rw [List.map_append, hrr, List.map_map, rowsFrom_append, rowsFrom, rowsFrom, List.append_nil, Nat.zero_add]
            congr 1
            exact List.map_id _
          case h8 =>
            simp only [List.length_append, List.length_map, List.length_cons, List.length_nil]
            omega
          case h9 =>
            intro y h1 h2
            simp [h1, h2]
end
end Mine
end
-- W10
section
theorem Mine.offW10 : True := by
  w_top off
  k_with_none
  trivial
namespace Mine
section
theorem parsed_append : ∀ (i : Nat) (p q : Plan), parsedFrom i (p ++ q) = parsedFrom i p ++ parsedFrom (i + p.length) q
  | i, [], q => by simp [parsedFrom]
  | i, l :: p, q => by
    rw [List.cons_append, parsedFrom, parsedFrom, parsed_append (i + 1) p q, List.cons_append, List.length_cons, show i + 1 + p.length = i + (p.length + 1) by omega]
/-- a line of the plan -/
def lnG (F PL : Addr) : Str → Option Value := fun y => if y = Str.ofString "found" then some (.ref F) else List.lookup y [(Str.ofString "plan", Value.ref PL)]
def LnJ (p : Plan) (F PL I : Addr) (rest : List (Addr × Obj)) (r : List Itm) (m' : Str → Option Value) (nx : List (Addr × Obj)) : Prop :=
  ∃ (fvs : List Value) (fk : Nat) (rest' : List (Addr × Obj)) (p1 p2 : Plan) (pv2 : List Value),
    p = p1 ++ p2 ∧ r = enumItems p1.length pv2 ∧ DatAll rest pv2 (p2.map lnDat) ∧ (∀ x ∈ (F, listOf fvs.toArray fk) :: rest', x ∈ nx) ∧ (∀ x ∈ rest, x ∈ rest') ∧
    (∀ x ∈ rest', x.1 ≠ F ∧ x.1 ≠ I ∧ x.1 ≠ I + 1) ∧ DatAll rest' fvs (parsedFrom 0 p1) ∧ fvs.length = p1.length ∧
    (∀ y, y ≠ Str.ofString "line" → y ≠ Str.ofString "calls" → y ≠ Str.ofString "goal" → y ≠ Str.ofString "rows" → m' y = lnG F PL y)
theorem ln_init {p : Plan} {F PL I : Addr} {rest : List (Addr × Obj)} {pvs : List Value} {m0 : Str → Option Value} (hD : DatAll rest pvs (p.map lnDat)) (h1 : F < I ∧ AllLt I rest) (h2 : ∀ x ∈ rest, x.1 < F) (hm : ∀ y, m0 y = lnG F PL y) : LnJ p F PL I rest (enumItems 0 pvs) m0 ((F, listOf #[] 0) :: rest) :=
  ⟨[], 0, rest, [], p, pvs, rfl, rfl, hD, fun x hx => hx, fun x hx => hx, fun x hx => ⟨Nat.ne_of_lt (h2 x hx), Nat.ne_of_lt (ktn_ltOf h1.2 x hx), Nat.ne_of_lt (Nat.lt_succ_of_lt (ktn_ltOf h1.2 x hx))⟩, .nil, rfl, fun y _ _ _ _ => hm y⟩
theorem fr_out4 {h₀ h : Heap} {L : Addr} {x z u v : Str} {m' mF : Str → Option Value} (F : Fr h₀ L h m') (hm : ∀ y, y ≠ x → y ≠ z → y ≠ u → y ≠ v → m' y = mF y) : Fr h₀ L h (fun y => if y = x then m' x else if y = z then m' z else if y = u then m' u else if y = v then m' v else mF y) := by
  have e : m' = (fun y => if y = x then m' x else if y = z then m' z else if y = u then m' u else if y = v then m' v else mF y) := by
    funext y
    by_cases h1 : y = x
    · simp [h1]
    · by_cases h2 : y = z
      · simp only [if_neg h1, if_pos h2]; rw [h2]
      · by_cases h3 : y = u
        · simp only [if_neg h1, if_neg h2, if_pos h3]; rw [h3]
        · by_cases h4 : y = v
          · simp only [if_neg h1, if_neg h2, if_neg h3, if_pos h4]; rw [h4]
          · simp only [if_neg h1, if_neg h2, if_neg h3, if_neg h4]; exact hm y h1 h2 h3 h4
  rw [← e]; exact F
local macro_rules | `(tactic| walk_at "exec For Tuple Call cons nil") => `(tactic| (k_here; (rename Fr _ _ _ _ => lF'); (with_unfolding_all refine' For_turns lF' ?_; k_whole)))
local macro_rules | `(tactic| walk_at "call type:enumerate") => `(tactic| (k_here; (rename Fr _ _ _ _ => lF'); (rename News _ _ _ _ => lN'); (with_unfolding_all refine' ktu_enum ?hh lF' lN' ?hm ?hc ?hd (Eq.refl _) ?_; (case hh => exact rfl); (case hm => k_mem); (case hc => exact rfl); (case hd => exact rfl)); clear lF' lN'; intro i' l1; (try k_lt l1); refine hold_mk ?_))
theorem kwW10_1 : True := by
  k_with "eval ListComp" => ((k_here; k_dflt (refine LCg.ListComp_U (F₀ := by k_asm) (by rfl) (by decide) (by rfl) (by decide) (by rfl) ?_)))
  trivial
theorem kwW10_2 : True := by
  k_with "CompSrc" => ((k_here; refine hold_mk ?_))
  trivial
theorem add2 {prog : Program} {w : World} {A : Around} {E : Value → Shared → Prop} {s : Shared} {h₀ : Heap} {L a b : Addr} {m : Str → Option Value} {news : List (Addr × Obj)} {vs ws : List Value} {n k : Nat} {Q : Value → Shared → Prop} (F : Fr h₀ L s.heap m) (N : News h₀ L s.heap news) (ha : (a, listOf vs.toArray n) ∈ news) (hb : (b, listOf ws.toArray k) ∈ news) (hz : vs.length + ws.length ≤ 1000)
    (h : ∀ D h', Fr h₀ L h' m → News h₀ L h' ((D, listOf (vs ++ ws).toArray 0) :: news) → (∀ p ∈ news, p.1 < D) → Q (.ref D) { s with heap := h' }) :
    wpAny (model prog w) A (binaryOp .Add (.ref a) (.ref b)) Q E s :=
  add_lists F N (News.isList N ha) (News.isList N hb) (fun h' F' N' => h _ h' F' N' fun p hp => Heap.lt_size (N p hp).1) (by rw [sizeLine_eq]; omega)
local macro_rules | `(tactic| walk_at "binaryOp Add ref ref") => `(tactic| (k_here; (with_reducible show wpAny _ _ (binaryOp _ (Value.ref _) (Value.ref _)) _ _ _); k_dflt (refine' add2 ?F ?N ?a ?b ?z ?_; (case F => k_asm); (case N => k_asm); (case a => k_mem); (case b => k_mem); (case z => (simp; omega))); intro D' h' F' N' l1; (try k_lt l1)))
/-- the invariant of the comprehension of calls -/
def callDat (c : Nat) : Dat := stmDat (.gosub c)
def CmJ (B0 : List (Addr × Obj)) (cs : List Nat) (k i : Nat) (ys : List Value) (nx : List (Addr × Obj)) : Prop :=
  ∃ ex : List (Addr × Obj), nx = ex ++ B0 ∧ (∀ x ∈ ex, ∀ q ∈ B0, q.1 ≠ x.1) ∧ i + k = cs.length ∧ ys.length = i ∧ DatAll ex ys ((cs.take i).map callDat)
theorem off1_mem {D : Addr} : ∀ {l : List (Addr × Obj)}, LCg.Off1 D l → ∀ p ∈ l, p.1 ≠ D
  | [], _, _, h => nomatch h
  | _ :: _, x, p, h => by
    rcases List.mem_cons.mp h with rfl | h
    · exact x.1
    · exact off1_mem x.2 p h
theorem ln_end {g' h' : Heap} {L I F0 PL Dt Ds Dr D0 : Addr} {m9 : Str → Option Value} {all ex rest rest' keep : List (Addr × Obj)} {s1 : Shared} {tk' : Nat} {o1 o2 : Obj} {fvs ys pv2 : List Value} {fk : Nat} {p1 p2 : Plan} {l : Ln} {ta tb tc td : Tok} {rv : Value} {F : Fr g' L h' m9} (N : News g' L h' all)
    (sub : ∀ x ∈ (F0, listOf (fvs ++ [Value.ref Dt]).toArray (fk + 1)) :: (Dt, ({ cls := .type "tuple", data := .seq #[Value.int (lineNo p1.length) ta, Value.ref Ds] } : Obj)) :: (Ds, listOf ([Value.ref D0] ++ ys ++ [Value.ref Dr]).toArray 0) :: (Dr, ({ cls := .type "tuple", data := .seq #[Value.str (Str.ofString "RETURN") tb, rv] } : Obj)) :: (D0, ({ cls := .type "tuple", data := .seq #[Value.str (Str.ofString "REM") tc, Value.str (numText p1.length) td] } : Obj)) :: (ex ++ rest'), x ∈ all)
    (i1 : (I + 1, o1) ∈ all) (i2 : (I, o2) ∈ all) (q0 : I + 1 < Dt ∧ I < Dt ∧ F0 < Dt) (q1 : I + 1 < Ds ∧ I < Ds ∧ F0 < Ds) (q2 : I + 1 < Dr ∧ I < Dr ∧ F0 < Dr) (q3 : I + 1 < D0 ∧ I < D0 ∧ F0 < D0) (q4 : ∀ x ∈ ex ++ rest', x.1 ≠ F0 ∧ x.1 ≠ I ∧ x.1 ≠ I + 1) (q5 : F0 < I)
    (hrv : DatIn [] rv (argDat (.ret l.goal))) (hys : DatAll ex ys (l.calls.map callDat)) (hsr : ∀ x ∈ rest, x ∈ rest') (hk : ∀ x ∈ keep, x ∈ rest) (hks : (∀ x ∈ keep, x ∈ (F0, listOf (fvs ++ [Value.ref Dt]).toArray (fk + 1)) :: (Dt, ({ cls := .type "tuple", data := .seq #[Value.int (lineNo p1.length) ta, Value.ref Ds] } : Obj)) :: (Ds, listOf ([Value.ref D0] ++ ys ++ [Value.ref Dr]).toArray 0) :: (Dr, ({ cls := .type "tuple", data := .seq #[Value.str (Str.ofString "RETURN") tb, rv] } : Obj)) :: (D0, ({ cls := .type "tuple", data := .seq #[Value.str (Str.ofString "REM") tc, Value.str (numText p1.length) td] } : Obj)) :: (ex ++ rest')) → SubL keep ((F0, listOf (fvs ++ [Value.ref Dt]).toArray (fk + 1)) :: (Dt, ({ cls := .type "tuple", data := .seq #[Value.int (lineNo p1.length) ta, Value.ref Ds] } : Obj)) :: (Ds, listOf ([Value.ref D0] ++ ys ++ [Value.ref Dr]).toArray 0) :: (Dr, ({ cls := .type "tuple", data := .seq #[Value.str (Str.ofString "RETURN") tb, rv] } : Obj)) :: (D0, ({ cls := .type "tuple", data := .seq #[Value.str (Str.ofString "REM") tc, Value.str (numText p1.length) td] } : Obj)) :: (ex ++ rest')))
    (hd2 : DatAll rest pv2 (p2.map lnDat)) (hdf : DatAll rest' fvs (parsedFrom 0 p1)) (hfl : fvs.length = p1.length)
    (hm : ∀ y, y ≠ Str.ofString "line" → y ≠ Str.ofString "calls" → y ≠ Str.ofString "goal" → y ≠ Str.ofString "rows" → m9 y = lnG F0 PL y) :
    UnrEndW g' L s1 [(I + 1, o1), (I, o2)] (fun m' n' => SubL keep n' ∧ LnJ (p1 ++ l :: p2) F0 PL I rest (enumItems (p1.length + 1) pv2) m' n') { s1 with heap := h', toks := tk' } := by
  have e1 : ∀ x ∈ ex ++ rest', x ∈ (Dt, ({ cls := .type "tuple", data := .seq #[Value.int (lineNo p1.length) ta, Value.ref Ds] } : Obj)) :: (Ds, listOf ([Value.ref D0] ++ ys ++ [Value.ref Dr]).toArray 0) :: (Dr, ({ cls := .type "tuple", data := .seq #[Value.str (Str.ofString "RETURN") tb, rv] } : Obj)) :: (D0, ({ cls := .type "tuple", data := .seq #[Value.str (Str.ofString "REM") tc, Value.str (numText p1.length) td] } : Obj)) :: (ex ++ rest') := fun x hx => by simp only [List.mem_cons]; exact .inr (.inr (.inr (.inr hx)))
  have e2 : ∀ x ∈ rest', x ∈ ex ++ rest' := fun x hx => List.mem_append.mpr (.inr hx)
  have e3 : ∀ x ∈ ex, x ∈ ex ++ rest' := fun x hx => List.mem_append.mpr (.inl hx)
  have off : ∀ x ∈ (Dt, ({ cls := .type "tuple", data := .seq #[Value.int (lineNo p1.length) ta, Value.ref Ds] } : Obj)) :: (Ds, listOf ([Value.ref D0] ++ ys ++ [Value.ref Dr]).toArray 0) :: (Dr, ({ cls := .type "tuple", data := .seq #[Value.str (Str.ofString "RETURN") tb, rv] } : Obj)) :: (D0, ({ cls := .type "tuple", data := .seq #[Value.str (Str.ofString "REM") tc, Value.str (numText p1.length) td] } : Obj)) :: (ex ++ rest'), x.1 ≠ F0 ∧ x.1 ≠ I ∧ x.1 ≠ I + 1 :=
    List.forall_mem_cons.mpr ⟨⟨Nat.ne_of_gt q0.2.2, Nat.ne_of_gt q0.2.1, Nat.ne_of_gt q0.1⟩, List.forall_mem_cons.mpr ⟨⟨Nat.ne_of_gt q1.2.2, Nat.ne_of_gt q1.2.1, Nat.ne_of_gt q1.1⟩, List.forall_mem_cons.mpr ⟨⟨Nat.ne_of_gt q2.2.2, Nat.ne_of_gt q2.2.1, Nat.ne_of_gt q2.1⟩, List.forall_mem_cons.mpr ⟨⟨Nat.ne_of_gt q3.2.2, Nat.ne_of_gt q3.2.1, Nat.ne_of_gt q3.1⟩, q4⟩⟩⟩⟩
  refine unrw_end F N ((F0, listOf (fvs ++ [Value.ref Dt]).toArray (fk + 1)) :: (Dt, ({ cls := .type "tuple", data := .seq #[Value.int (lineNo p1.length) ta, Value.ref Ds] } : Obj)) :: (Ds, listOf ([Value.ref D0] ++ ys ++ [Value.ref Dr]).toArray 0) :: (Dr, ({ cls := .type "tuple", data := .seq #[Value.str (Str.ofString "RETURN") tb, rv] } : Obj)) :: (D0, ({ cls := .type "tuple", data := .seq #[Value.str (Str.ofString "REM") tc, Value.str (numText p1.length) td] } : Obj)) :: (ex ++ rest')) ?_ sub ?_ ⟨hks fun x hx => List.mem_cons_of_mem _ (e1 _ (e2 _ (hsr _ (hk x hx)))), fvs ++ [Value.ref Dt], fk + 1, _, p1 ++ [l], p2, pv2, by simp, by simp, hd2, fun x hx => hx, fun x hx => e1 _ (e2 _ (hsr x hx)), off, ?_, by simp [hfl], hm⟩
  · intro x hx
    simp only [List.mem_cons, List.not_mem_nil, or_false] at hx
    rcases hx with rfl | rfl
    · exact i1
    · exact i2
  · intro x hx q hq
    have z : x.1 ≠ I ∧ x.1 ≠ I + 1 := by
      rcases List.mem_cons.mp hx with rfl | hx
      · exact ⟨Nat.ne_of_lt q5, Nat.ne_of_lt (Nat.lt_succ_of_lt q5)⟩
      · exact (off x hx).2
    simp only [List.mem_cons, List.not_mem_nil, or_false] at hq
    rcases hq with rfl | rfl
    · exact z.2
    · exact z.1
  · rw [parsed_append, Nat.zero_add]
    refine DatAll.append (DatAll.mono (fun x hx => e1 _ (e2 _ hx)) hdf) (DatAll.one ?_)
    refine .tuple (vs := [Value.int (lineNo p1.length) ta, Value.ref Ds]) List.mem_cons_self (.cons (.int _ _) (.cons (.list (vs := [Value.ref D0] ++ ys ++ [Value.ref Dr]) (List.mem_cons_of_mem _ List.mem_cons_self) ?_) .nil))
    have e4 : (lineRows p1.length l).map stmDat = [stmDat (.rem p1.length)] ++ l.calls.map callDat ++ [stmDat (.ret l.goal)] := by
      simp only [lineRows, List.map_cons, List.map_append, List.map_map, List.map_nil, List.cons_append, List.nil_append]
      rfl
    rw [e4]
    refine DatAll.append (DatAll.append (DatAll.one ?_) (DatAll.mono (fun x hx => e1 _ (e3 _ hx)) hys)) (DatAll.one ?_)
    · exact .tuple (vs := [Value.str (Str.ofString "REM") tc, Value.str (numText p1.length) td]) (List.mem_cons_of_mem _ (List.mem_cons_of_mem _ (List.mem_cons_of_mem _ List.mem_cons_self))) (.cons (.str _ _) (.cons (.str _ _) .nil))
    · exact .tuple (vs := [Value.str (Str.ofString "RETURN") tb, rv]) (List.mem_cons_of_mem _ (List.mem_cons_of_mem _ List.mem_cons_self)) (.cons (.str _ _) (.cons (DatIn.mono (fun _ h => absurd h List.not_mem_nil) hrv) .nil))
theorem lines_ok {w : World} {p : Program} {loose : List Str} {mean : ExcName → Option Value} {mg mb : Str → Option Value}
    {dp un : Nat} {gd : Option (List Code)} {cn : Str} {cs : Scope} {a : Addr} {ccd : Value} {cl : List (Str × Addr)} {outer : List Env} {A₀ : Around} {base h₀ : Heap} {L : Addr} {m : Str → Option Value} {s : Shared} {Q E : Value → Shared → Prop}
    (B : Below A₀ base outer h₀) (F : Fr h₀ L s.heap m) (X : (hd.heap_1 w.params).In h₀) (T : Top p loose mean mg mb h₀) (hk : cs.kind = .function)
    {PL : Addr} {pl : Plan} {rest : List (Addr × Obj)}
    (N : News h₀ L s.heap rest) (hP : DatIn rest (.ref PL) (planDat pl)) (W : Well pl) (hd : dp + 8 < recursionLimit) (hu : un + 60 < cLine)
    (ret : ∀ F' lvs fk rest' h' tk', Fr h₀ L h' m → News h₀ L h' ((F', listOf (List.toArray lvs) fk) :: rest') → (∀ x ∈ rest, x ∈ rest') → (∀ x ∈ rest', x.1 ≠ F') → DatAll rest' lvs (parsedFrom 0 pl) → Q (.ref F') { s with heap := h', toks := tk' }) :
    wpAny (model PySem.Challenge.pw_pq0183_01 w) (ktrTop dp un gd cn cs L a ccd cl outer) (call (.ref 584) [.ref PL]) Q E s := by
  obtain ⟨pvs, pn, hPm, hPv⟩ : ∃ pvs pn, (PL, listOf (List.toArray pvs) pn) ∈ rest ∧ DatAll rest pvs (pl.map lnDat) := by
    unfold planDat at hP
    cases hP with
    | list hm ha => exact ⟨_, _, hm, ha⟩
  refine wpAny_call ?_
  k_dflt ktr_enter
  k_steps
  rename_i F0 h8 l8 h9 I l9
  unfold Hold
  refine items_ind (LnJ pl F0 PL I rest) ?_ ?_ _ _ _ (ln_init hPv l9 l8 (fun _ => rfl))
  · rintro m' nx ⟨fvs, fk, rest', p1, p2, pv2, rfl, hr, hd2, hsub, hsr, hoff, hdf, hfl, hm⟩ h tk F' N'
    have N'' := newsSub N' hsub
    clear N'
    obtain rfl : pv2 = [] := by cases pv2; rfl; cases hr
    cases p2 with
    | cons => cases hd2
    | nil =>
      have F'' := fr_out4 F' hm
      clear F'
      k_steps
      rename News _ _ _ _ => kN
      exact ret F0 fvs fk rest' _ _ (by assumption) kN hsr (fun x hx => (hoff x hx).1) (by simpa using hdf)
  · rintro a r m' nx ⟨fvs, fk, rest', p1, p2, pv2, rfl, hr, hd2, hsub, hsr, hoff, hdf, hfl, hm⟩ v h tk its ha hits F' N'
    cases pv2 with
    | nil => cases hr
    | cons v' pv2 =>
      cases p2 with
      | nil => cases hd2
      | cons l p2 =>
        cases hd2 with
        | cons hv hd2 =>
          obtain ⟨o1, o2, rfl, c1, c2⟩ := objs2 hits
          injection hr with hr1 hr2
          subst hr1 hr2
          obtain ⟨T', t', rfl, hT'⟩ := ha
          have N'' := newsRest N' hsub
          simp only [List.cons_append, List.nil_append] at N''
          clear N'
          obtain ⟨tp, tn, ca, cvs, cn, gv, rfl, e1, e2, e3, e4⟩ := ln_inv hv
          have e1 := hsr _ e1
          have e2 := hsr _ e2
          have p6 : p1.length < 6 := by have := W.many; simp at this; omega
          have F'' := fr_out4 F' hm
          clear F'
          k_steps
          rename_i D0 h0 l10 A0 h1 F1 N1 l11
          unfold Hold
          have cl2 : cvs.length ≤ 2 := by
            rw [e3.length, List.length_map]
            exact W.few p1.length l (by simp)
          refine LCg.CompSrc.ledger (by rfl) (by k_asm) N1 (by k_mem) (by simp only [List.size_toArray, sizeLine_eq]; omega) ?_
          intro g'
          refine comp_ind (CmJ ((A0, listOf #[Value.ref D0] 0) :: (D0, { cls := .type "tuple", data := .seq #[Value.str (Str.ofString "REM") tk, Value.str (numText p1.length) (tk + 1)] }) :: (I + 1, o1) :: (I, o2) :: (F0, listOf fvs.toArray fk) :: rest') l.calls) ?_ ?_ _ _ _ _ ⟨[], rfl, fun _ h => (nomatch h), by rw [Nat.zero_add, List.size_toArray, e3.length, List.length_map], rfl, .nil⟩
          · rintro i ys nx ⟨ex, rfl, hex, hik, hyl, hD⟩
            unfold LCg.FinE
            intro DD h3 tk3 F3 N3 o3
            have o3 := off1_mem o3
            have N4 : News _ _ _ ((DD, LCg.lst ys) :: (A0, listOf #[Value.ref D0] 0) :: (D0, { cls := .type "tuple", data := .seq #[Value.str (Str.ofString "REM") tk, Value.str (numText p1.length) (tk + 1)] }) :: (I + 1, o1) :: (I, o2) :: (F0, listOf fvs.toArray fk) :: (ex ++ rest')) := newsSub N3 (fun x hx => by
              simp only [List.mem_cons, List.mem_append] at hx ⊢
              rcases hx with z | z | z | z | z | z | z | z <;> simp [z])
            clear N3 N1
            have lc2 : l.calls.length ≤ 2 := W.few p1.length l (by simp)
            have z1 : I + 1 ≠ F0 := Nat.ne_of_gt (Nat.lt_succ_of_lt l9.1)
            have z2 : I ≠ F0 := Nat.ne_of_gt l9.1
            have z3 : DD ≠ F0 := Ne.symm (o3 (F0, listOf fvs.toArray fk) (List.mem_append.mpr (.inr (by k_mem))))
            have z4 : ∀ p ∈ ex ++ rest', p.1 ≠ F0 ∧ p.1 ≠ I ∧ p.1 ≠ I + 1 := fun p hp => (List.mem_append.mp hp).elim (fun z => ⟨Ne.symm (hex p z (F0, listOf fvs.toArray fk) (by k_mem)), Ne.symm (hex p z (I, o2) (by k_mem)), Ne.symm (hex p z (I + 1, o1) (by k_mem))⟩) fun z => hoff p z
            have z5 : ∀ p ∈ ex ++ rest', p.1 ≠ F0 := fun p hp => (z4 p hp).1
            have hys : DatAll ex ys (l.calls.map callDat) := by
              rw [show i = l.calls.length by omega, List.take_length] at hD
              exact hD
            cases hg : l.goal with
            | none =>
              obtain rfl : gv = .none := by rw [hg] at e4; exact e4
              k_steps
              rename News _ _ _ _ => kN
              rename Fr _ _ _ _ => kF
              rename _ ∧ _ ∧ _ ∧ _ ∧ _ ∧ _ ∧ _ ∧ AllLt _ (ex ++ rest') => q2
              rename _ ∧ _ ∧ _ ∧ _ ∧ _ ∧ _ ∧ _ ∧ _ ∧ _ ∧ AllLt _ (ex ++ rest') => q1
              rename _ ∧ _ ∧ _ ∧ _ ∧ _ ∧ _ ∧ _ ∧ _ ∧ _ ∧ _ ∧ AllLt _ (ex ++ rest') => q0
              rw [List.push_toArray] at kN
              exact ln_end (F := kF) kN (List.forall_mem_cons.mpr ⟨by k_mem, List.forall_mem_cons.mpr ⟨by k_mem, List.forall_mem_cons.mpr ⟨by k_mem, List.forall_mem_cons.mpr ⟨by k_mem, List.forall_mem_cons.mpr ⟨by k_mem, fun x hx => by simp only [List.mem_cons]; simp only [hx, or_true]⟩⟩⟩⟩⟩) (by k_mem) (by k_mem) ⟨q0.2.2.2.2.2.2.2.1, q0.2.2.2.2.2.2.2.2.1, q0.2.2.2.2.2.2.2.2.2.1⟩ ⟨q1.2.2.2.2.2.2.1, q1.2.2.2.2.2.2.2.1, q1.2.2.2.2.2.2.2.2.1⟩ ⟨q2.2.2.2.2.1, q2.2.2.2.2.2.1, q2.2.2.2.2.2.2.1⟩ ⟨l10.1, l10.2.1, l10.2.2.1⟩ z4 l9.1 (by rw [hg]; exact .none) hys hsr (fun x hx => by rw [List.mem_singleton.mp hx]; exact hPm) (fun h => And.intro (h _ List.mem_cons_self) trivial) hd2 hdf hfl (fun y h1 h2 h3 h4 => by simp [h1, h2, h3, h4])
            | some g =>
              obtain ⟨tg, rfl⟩ : ∃ t, gv = .int (g : Int) t := by rw [hg] at e4; exact e4
              k_steps
              rename News _ _ _ _ => kN
              rename Fr _ _ _ _ => kF
              rename _ ∧ _ ∧ _ ∧ _ ∧ _ ∧ _ ∧ _ ∧ AllLt _ (ex ++ rest') => q2
              rename _ ∧ _ ∧ _ ∧ _ ∧ _ ∧ _ ∧ _ ∧ _ ∧ _ ∧ AllLt _ (ex ++ rest') => q1
              rename _ ∧ _ ∧ _ ∧ _ ∧ _ ∧ _ ∧ _ ∧ _ ∧ _ ∧ _ ∧ AllLt _ (ex ++ rest') => q0
              rw [List.push_toArray] at kN
              exact ln_end (F := kF) kN (List.forall_mem_cons.mpr ⟨by k_mem, List.forall_mem_cons.mpr ⟨by k_mem, List.forall_mem_cons.mpr ⟨by k_mem, List.forall_mem_cons.mpr ⟨by k_mem, List.forall_mem_cons.mpr ⟨by k_mem, fun x hx => by simp only [List.mem_cons]; simp only [hx, or_true]⟩⟩⟩⟩⟩) (by k_mem) (by k_mem) ⟨q0.2.2.2.2.2.2.2.1, q0.2.2.2.2.2.2.2.2.1, q0.2.2.2.2.2.2.2.2.2.1⟩ ⟨q1.2.2.2.2.2.2.1, q1.2.2.2.2.2.2.2.1, q1.2.2.2.2.2.2.2.2.1⟩ ⟨q2.2.2.2.2.1, q2.2.2.2.2.2.1, q2.2.2.2.2.2.2.1⟩ ⟨l10.1, l10.2.1, l10.2.2.1⟩ z4 l9.1 (by rw [hg]; exact .int _ _) hys hsr (fun x hx => by rw [List.mem_singleton.mp hx]; exact hPm) (fun h => And.intro (h _ List.mem_cons_self) trivial) hd2 hdf hfl (fun y h1 h2 h3 h4 => by simp [h1, h2, h3, h4])
          · rintro k i ys nx ⟨ex, rfl, hex, hik, hyl, hD⟩ v I2 oI C oC DD m2 h3 tk3 E' hv3 hNs hm2 F3 N3 off3 ne3
            have off3 := off3.mem
            obtain ⟨c, hc⟩ : ∃ c, l.calls[i]? = some c := ⟨_, List.getElem?_eq_getElem (show i < l.calls.length by omega)⟩
            obtain ⟨t9, rfl⟩ : ∃ t9, v = .int (c : Int) t9 := by
              have hi : i < (l.calls.map fun (c : Nat) => Dat.int (c : Int)).length := by rw [List.length_map]; omega
              obtain ⟨v', h1, h2⟩ := e3.get hi
              rw [List.getElem_map, show l.calls[i] = c from (List.getElem?_eq_some_iff.mp hc).2] at h2
              rw [List.getElem?_toArray, h1] at hv3
              cases Option.some.inj hv3
              cases h2
              exact ⟨_, rfl⟩
            k_steps
            rename_i D' h' F' N' l1
            have l2 := ktn_ltOf l1.2.2.2
            refine LCg.CompEnd.intro F' N' ((D', { cls := .type "tuple", data := .seq #[Value.str (Str.ofString "GOSUB") tk3, Value.int (10 * (1 + (c : Int))) (tk3 + 1 + 1 + 1 + 1)] }) :: (ex ++ ((A0, listOf #[Value.ref D0] 0) :: (D0, { cls := .type "tuple", data := .seq #[Value.str (Str.ofString "REM") tk, Value.str (numText p1.length) (tk + 1)] }) :: (I + 1, o1) :: (I, o2) :: (F0, listOf fvs.toArray fk) :: rest'))) ?ha ?hb ?hc ⟨_ :: ex, rfl, ?h1, ?h2, ?h3, ?h4⟩
            case ha =>
              intro x hx
              simp only [List.mem_cons] at hx ⊢
              rcases hx with z | z | z | z | z <;> simp [z]
            case hb => exact LCg.Off3.of (List.forall_mem_cons.mpr ⟨⟨Nat.ne_of_gt l1.1, Nat.ne_of_gt l1.2.1, Nat.ne_of_gt l1.2.2.1⟩, off3⟩)
            case hc => exact .inr ⟨_, List.mem_cons_of_mem _ (List.mem_append.mpr (.inr (by k_mem : (ca, listOf cvs.toArray cn) ∈ _))), rfl, _, rfl⟩
            case h1 => exact List.forall_mem_cons.mpr ⟨fun q hq => Nat.ne_of_lt (l2 q (List.mem_append.mpr (.inr hq))), hex⟩
            case h2 => omega
            case h3 => rw [List.length_append, hyl]; rfl
            case h4 =>
              rw [List.take_add_one, hc, List.map_append]
              exact DatAll.append (DatAll.mono (fun x hx => List.mem_cons_of_mem _ hx) hD) (DatAll.one (.tuple (vs := [Value.str (Str.ofString "GOSUB") tk3, Value.int (10 * (1 + (c : Int))) (tk3 + 1 + 1 + 1 + 1)]) List.mem_cons_self (.cons (.str _ _) (.cons (.int _ _) .nil))))
end
end Mine
end
-- W11
section
theorem Mine.offW11 : True := by
  w_top off
  k_with_none
  trivial
namespace Mine
section
theorem kwW11_1 : True := by
  k_with "call ref" => ((k_here; (first | (with_reducible show wpAny _ _ (call (Value.ref 584) _) _ _ _) | (with_reducible show wpAny _ _ (call (Value.ref 433) _) _ _ _) | (with_reducible show wpAny _ _ (call (Value.ref 553) _) _ _ _)); refine hold_mk ?_))
  trivial
mutual
theorem DatIn.kept {news news' : List (Addr × Obj)} (hs : ∀ p ∈ news, p.2.cls ≠ .none → p ∈ news') : ∀ {v : Value} {d : Dat}, DatIn news v d → DatIn news' v d
  | _, _, .none => .none
  | _, _, .bool b => .bool b
  | _, _, .int i t => .int i t
  | _, _, .str x t => .str x t
  | _, _, .bytes b t => .bytes b t
  | _, _, .tuple h r => .tuple (hs _ h (by intro z; cases z)) (DatAll.kept hs r)
  | _, _, .list h r => .list (hs _ h (by intro z; cases z)) (DatAll.kept hs r)
theorem DatAll.kept {news news' : List (Addr × Obj)} (hs : ∀ p ∈ news, p.2.cls ≠ .none → p ∈ news') : ∀ {vs : List Value} {ds : List Dat}, DatAll news vs ds → DatAll news' vs ds
  | _, _, .nil => .nil
  | _, _, .cons h r => .cons (DatIn.kept hs h) (DatAll.kept hs r)
end
/-- the table of the codes under _law_gone -/
abbrev tabG (ps : Array Value) : Addr × Obj := (586, tabObj ps)
def TabOk (ps : Array Value) : Prop := ps = #[] ∨ ∃ c, ps = #[rawInt 467, rawInt 49, .ref c]
theorem lam_eval {M : Model} {A : Around} {E : Value → Shared → Prop} {s : Shared} {h₀ : Heap} {L a : Addr} {m mg mb : Str → Option Value} {cn : Str} {cs : Scope} {news : List (Addr × Obj)} {p : Program} {loose : List Str} {mean : ExcName → Option Value} {params : Arguments} {body : PySem.Expr} {scope : Scope} {pos : Pos} {ps : Array Value} {Q : Value → Shared → Prop}
    (F : Fr h₀ L s.heap m) (N : News h₀ L s.heap news) (T : Top p loose mean mg mb h₀) (C : CodeHd h₀ 588 586) (hm : tabG ps ∈ news) (hps : TabOk ps) (hdef : defaultsOf params (envOf cn cs L a (.ref 588)) = ([], [])) (hl : pos.line = 467) (hc : pos.col = 49) (hcl : closureFor scope (envOf cn cs L a (.ref 588)) = pure [])
    (h : ∀ f h' tk ps' news', TabOk ps' → Fr h₀ L h' m → News h₀ L h' (tabG ps' :: news') → (∀ x ∈ news, x.2.cls ≠ .none → x ∈ news') → (∀ x ∈ news', x.1 ≠ 586) → Q (.ref f) { s with heap := h', toks := tk }) :
    wpAny M A (eval (.Lambda params body scope pos) (envOf cn cs L a (.ref 588))) Q E s := by
  have hf : ∀ x ∈ news, x.2.cls ≠ .none → x ∈ news.filter (fun x => x.1 ≠ 586) := fun x hx hx2 => by
    refine List.mem_filter.mpr ⟨hx, decide_eq_true fun z => hx2 ?_⟩
    have e1 := (N x hx).1
    have e2 := (N _ hm).1
    rw [z] at e1
    rw [show x.2 = tabObj ps from Option.some.inj (e1.symm.trans e2)]
  have hg : ∀ x ∈ news.filter (fun x => x.1 ≠ 586), x.1 ≠ 586 := fun x hx => of_decide_eq_true (List.mem_filter.mp hx).2
  have N' : News h₀ L s.heap (tabG ps :: news.filter (fun x => x.1 ≠ 586)) := newsSub N fun x hx => by
    rcases List.mem_cons.mp hx with rfl | hx
    · exact hm
    · exact (List.mem_filter.mp hx).1
  refine kla_eval hdef ?_
  rcases hps with rfl | ⟨c', rfl⟩
  · refine kla_nest (c := 588) (P := 586) (ps := #[]) F N' T C rfl (.head hg) True.intro rfl hcl fun f c' oc vs t ctv h' tk F' N2 _ _ _ _ => h f h' tk _ _ (.inr ⟨c', ?_⟩) F' (newsSub N2 fun x hx => List.mem_cons_of_mem _ (List.mem_cons_of_mem _ hx)) hf hg
    rw [hl, hc]; rfl
  · exact kla_hit (c := 588) (P := 586) (c' := c') (ps := #[rawInt 467, rawInt 49, .ref c']) F N' T C rfl List.mem_cons_self (by simp [TriplesOk, rawInt]) (by simp [codeAmong, rawInt, hl, hc]) hcl fun f ctv h' tk F' N2 _ => h f h' tk _ _ (.inr ⟨c', rfl⟩) F' (newsSub N2 fun x hx => List.mem_cons_of_mem _ hx) hf hg
theorem kwW11_2 : True := by
  k_with "eval Lambda" => ((k_here; refine hold_mk ?_))
  trivial
theorem int_num {prog : Program} {w : World} {A : Around} {E : Value → Shared → Prop} {s : Shared} {Q : Value → Shared → Prop} {t : Tok} {k : Nat} (hk : k < 6) (h : Q (.int (k : Int) s.toks) { s with toks := s.toks + 1 }) : wpAny (model prog w) A (call (.type "int") [.str (numText k) t]) Q E s :=
  KIN.call_num (n := (k : Int)) (by omega) (by omega) h
theorem kwW11_3 : True := by
  k_with "eval ListComp" => ((k_here; k_dflt (refine comp_H (by k_asm) (by rfl) (by decide) (by rfl) (by decide) (by rfl) ?_)))
  trivial
local macro_rules | `(tactic| walk_at "getAttr ref") => `(tactic| (k_here; (with_reducible show wpAny _ _ (getAttr (Value.ref _) (Str.ofString "code") _) _ _ _); k_dflt (refine' get_exc PySem.F.attrBase_Exception ?F ?X ?N (hx34 _) ?he ?hd ?hde ?hc ?hdi ?hno ?hod ?hg ?hga ?hna lk_code ?hv ?hh ?_; (case F => k_asm); (case X => k_asm); (case N => k_asm); (case he => k_mem); (case hdi => assumption); (case hd => k_mem); (case hde => assumption); (case hc => assumption); (case hno => assumption); (case hod => assumption); (case hg => k_is); (case hga => k_is); (case hna => k_is); (case hv => exact rfl); (case hh => exact rfl))))
def NtJ (B0 : List (Addr × Obj)) (ks : List Nat) (k i : Nat) (ys : List Value) (nx : List (Addr × Obj)) : Prop :=
  nx = B0 ∧ i + k = ks.length ∧ IntsAre ys ((ks.take i).map fun (k : Nat) => (k : Int))
theorem note_inv {rest : List (Addr × Obj)} {v : Value} {k : Nat} (h : DatIn rest v (noteDat k)) : ∃ d t1 t2 n, v = .ref d ∧ (d, ({ cls := .type "tuple", data := .seq [Value.str (numText k) t1, Value.int 0 t2].toArray n } : Obj)) ∈ rest := by
  obtain ⟨a, v1, v2, n, e, hm, h1, h2⟩ := dat_two h
  obtain ⟨t1, rfl⟩ := dat_str h1
  obtain ⟨t2, rfl⟩ := dat_int h2
  exact ⟨a, t1, t2, n, e, hm⟩
theorem kwW11_4 : True := by
  k_with "call type:int" => ((k_here; (with_reducible show wpAny _ _ (call (Value.type "int") [Value.str (numText _) _]) _ _ _); (refine int_num (by assumption) ?_)))
  trivial
theorem tab_out {h₀ h : Heap} {L : Addr} {news l : List (Addr × Obj)} {ps : Array Value} (N : News h₀ L h news) (hm : tabG ps ∈ news) (hl : ∀ x ∈ l, x ∈ news) : ∃ l' : List (Addr × Obj), (∀ x ∈ l, x.2.cls ≠ .none → x ∈ l') ∧ (∀ x ∈ l', x ∈ l) ∧ ∀ x ∈ l', x.1 ≠ 586 := by
  refine ⟨l.filter (fun (x : Addr × Obj) => x.1 ≠ 586), fun x hx hx2 => List.mem_filter.mpr ⟨hx, decide_eq_true fun z => hx2 ?_⟩, fun x hx => (List.mem_filter.mp hx).1, fun x hx => of_decide_eq_true (List.mem_filter.mp hx).2⟩
  have e1 := (N x (hl x hx)).1
  have e2 := (N _ hm).1
  rw [z] at e1
  rw [show x.2 = tabObj ps from Option.some.inj (e1.symm.trans e2)]
theorem gone_ok {w : World} {p : Program} {loose : List Str} {mean : ExcName → Option Value} {mg mb : Str → Option Value}
    {dp un : Nat} {gd : Option (List Code)} {cn : Str} {cs : Scope} {a : Addr} {ccd : Value} {A₀ : Around} {h₀ : Heap} {L : Addr} {m : Str → Option Value} {s : Shared} {Q E : Value → Shared → Prop}
    (B : Below A₀ h₀ [] h₀) (F : Fr h₀ L s.heap m) (X : (hd.heap_1 w.params).In h₀) (T : Top p loose mean mg mb h₀) (hk : cs.kind = .function)
    {notes : List Nat} {g0 : Option Nat} {PL : Addr} {pl : Plan} {rest : List (Addr × Obj)} {ps : Array Value} (N : News h₀ L s.heap (tabG ps :: rest)) (hps : TabOk ps) (C : CodeHd h₀ 588 586) (o586 : ∀ x ∈ rest, x.1 ≠ 586) (hN6 : ∀ k ∈ notes, k < 6) (hP : DatIn rest (.ref PL) (planDat pl)) (W : Well pl) (hd : dp + 20 < recursionLimit) (hu : un + 200 < cLine)
    (hC : Comes pl ⟨0, [], []⟩ 848 [] notes g0)
    (ret : ∀ ps' D nl nk ivs P' n' tkr rest' h' tk', Fr h₀ L h' m → News h₀ L h' ((D, ({ cls := .type "tuple", data := .seq #[Value.ref nl, Value.str (Str.ofString "RG") tkr, Value.ref P'] } : Obj)) :: (nl, listOf (List.toArray ivs) nk) :: (P', listOf #[] n') :: tabG ps' :: rest') → TabOk ps' → (∀ x ∈ rest', x.1 ≠ 586) → (∀ x ∈ rest, x.2.cls ≠ .none → x ∈ rest') → IntsAre ivs (notes.map fun (k : Nat) => (k : Int)) → Q (.ref D) { s with heap := h', toks := tk' }) :
    wpAny (model PySem.Challenge.pw_pq0183_01 w) (ktrTop dp un gd cn cs L a ccd [] []) (call (.ref 589) [.ref PL]) Q E s := by
  refine wpAny_call ?_
  k_dflt (refine' code_defS0 ?k1 ?k2 ?k3 ?k4 ?k5 ?kA ?k6 ?k7 ?k8 ?k9 ?kB ?_ ?cK ?c2 ?c3 ?c4 ?c5; (case kA => exact rfl); (case k2 => k_asm); (case k1 => k_asm); (case k3 => k_asm); (case k4 => k_asm); (case k5 => k_asm); (case k6 => k_is); (case k7 => k_is); (case k8 => ktr_room); (case k9 => exact BindsTo.of_eq rfl); (case kB => exact locs rfl); (case cK => assumption); (case c2 => exact rfl); (case c3 => exact rfl); (case c4 => exact rfl); (case c5 => decide); k_whole; intro g' L' h' FG' F' N' B' X' T' D'; (try dsimp only); (try k_fold))
  k_steps
  unfold Hold
  k_dflt (refine' lines_ok ?B ?F ?X ?T ?hk N' (DatIn.mono (fun x hx => List.mem_cons_of_mem _ hx) hP) W ?hd ?hu ?_)
  case B => k_asm
  case F => k_asm
  case X => k_asm
  case T => k_asm
  case hk => exact rfl
  case hd => ktr_room
  case hu => ktr_units
  intro LA lvs lk rest2 h2 tk2 F2 N2 hs2 ho2 hl2
  k_steps
  unfold Hold
  k_dflt (refine' flatten_ok ?B ?F ?X ?T ?hk N2 List.mem_cons_self (DatAll.mono (fun x hx => List.mem_cons_of_mem _ hx) hl2) W ?hd ?hu ?_)
  case B => k_asm
  case F => k_asm
  case X => k_asm
  case T => k_asm
  case hk => exact rfl
  case hd => ktr_room
  case hu => ktr_units
  intro fl fd R oP D2 P2 L2 F2' po f1 f2 f3 f4 f5 f6 rvs rk rows rest3 h3 tk3 F3 N3 hs3 gp gs R2 R3 len
  k_steps
  unfold Hold
  rename_i vd z0 vo z1 kN vl vs z2 z3 z4 l1
  k_dflt (refine' lam_eval (ps := ps) ?F kN ?T ?C ?hm hps ?hdef ?hl ?hc ?hcl ?_)
  case F => k_asm
  case T => k_asm
  case C => exact CodeHd.keeps (by assumption) (Below.stays (by assumption))
  case hm => exact (List.mem_cons_of_mem _ (List.mem_cons_of_mem _ (List.mem_cons_of_mem _ (List.mem_cons_of_mem _ (List.mem_cons_of_mem _ (hs3 _ (List.mem_cons_of_mem _ (hs2 _ List.mem_cons_self))))))))
  case hdef => exact rfl
  case hl => exact rfl
  case hc => exact rfl
  case hcl => exact rfl
  intro lam h4 tk4 ps' rest4 hps' F4 N4 hs4 ho4
  have h586 : tabG ps ∈ rest3 := hs3 _ (List.mem_cons_of_mem _ (hs2 _ List.mem_cons_self))
  k_steps
  unfold Hold
  rename_i rn rd a1 q1 q1' a2 a3 a4 a5 a6 a7 a8 a9 a10 a11 a12 a13 a14 a15 ct cd b1 q2 q2' b2 b3 b4 b5 b6 b7 b8 P0 b9 q3 b10 b11 b12 b13 b14 b15 b16 b17 b18 b19 nt c1 q4 c2 c3 c4 c5 c6 c7 c8 c9 kN
  clear c4 b15 b14
  obtain ⟨t1, t2, t3, t4, t5, t6, t7, t8, t9, u1, u2, u3, u4, u5, kN⟩ : ∃ t1 t2 t3 t4 t5 t6 t7 t8 t9 u1 u2 u3 u4 u5, News _ _ _ ((nt, listOf ([] : List Value).toArray 0) :: (P0, listOf ([] : List Value).toArray 0) :: (ct, instObj 265 cd) :: (cd, ctlD w u1 u2 u3 u4 u5 P0) :: (rn, instObj 556 rd) :: (rd, runD w t1 t2 t3 t4 t5 t6 t7 t8 t9 fl vd ct nt (.ref lam)) :: tabG ps' :: rest4) := ⟨_, _, _, _, _, _, _, _, _, _, _, _, _, _, kN⟩
  have vc : vo.cls = .type "dict" := by obtain ⟨_, _, h, _⟩ := vs; exact h.1
  have pc : po.cls = .type "dict" := by obtain ⟨_, gk, _⟩ := gp; obtain ⟨_, _, h, _⟩ := gk; exact h.1
  have mvd := hs4 (vd, vo) (by k_mem) (by show vo.cls ≠ _; rw [vc]; intro z; cases z)
  have mR := hs4 (R, listOf rvs.toArray rk) (by k_mem) (by intro z; cases z)
  have moP := hs4 (oP, po) (by k_mem) (by show po.cls ≠ _; rw [pc]; intro z; cases z)
  have mfl := hs4 (fl, instObj 380 fd) (by k_mem) (by intro z; cases z)
  have mfd := hs4 (fd, flatD w f1 f2 f3 f4 f5 f6 R oP D2 P2 L2 F2') (by k_mem) (by intro z; cases z)
  have R4 : DatAll rest4 rvs (rows.map rowDat) := DatAll.kept (fun x hx hc => hs4 x (by simp only [List.mem_cons]; exact .inr (.inr (.inr (.inr (.inr hx))))) hc) R2
  have kN2 : News _ _ _ ((cd, ctlD w u1 u2 u3 u4 u5 P0) :: (P0, listOf ([] : List Value).toArray 0) :: (nt, listOf ([] : List Value).toArray 0) :: ((ct, instObj 265 cd) :: (rn, instObj 556 rd) :: (rd, runD w t1 t2 t3 t4 t5 t6 t7 t8 t9 fl vd ct nt (.ref lam)) :: tabG ps' :: rest4)) := newsSub kN (fun x hx => by
    simp only [List.mem_cons] at hx ⊢
    rcases hx with z | z | z | z | z | z | z | z <;> simp [z])
  have sub5 : ∀ x ∈ rest4, x ∈ ((ct, instObj 265 cd) :: (rn, instObj 556 rd) :: (rd, runD w t1 t2 t3 t4 t5 t6 t7 t8 t9 fl vd ct nt (.ref lam)) :: tabG ps' :: rest4) := fun x hx => by simp only [List.mem_cons]; exact .inr (.inr (.inr (.inr hx)))
  have RI : RunIs w pl ((ct, instObj 265 cd) :: (rn, instObj 556 rd) :: (rd, runD w t1 t2 t3 t4 t5 t6 t7 t8 t9 fl vd ct nt (.ref lam)) :: tabG ps' :: rest4) rn rd fl fd vd ct cd nt R oP D2 P2 L2 F2' vo po (.ref lam) t1 t2 t3 t4 t5 t6 t7 t8 t9 u1 u2 u3 u4 u5 f1 f2 f3 f4 f5 f6 rvs rk rows :=
    ⟨by k_mem, by k_mem, by k_mem, sub5 _ mfl, sub5 _ mfd, sub5 _ moP, gp, gs, sub5 _ mvd, vs, vl, sub5 _ mR, DatAll.mono sub5 R4, R3, len⟩
  k_dflt (refine' go_raises ?B ?F ?X ?T ?hk kN2 RI W hC ?o1 ?o2 ?o3 ?o4 ?o5 ?o6 ?hd ?hu ?_)
  case B => k_asm
  case F => k_asm
  case X => k_asm
  case T => k_asm
  case hk => exact rfl
  case o1 => exact List.forall_mem_cons.mpr ⟨Nat.ne_of_gt q2', List.forall_mem_cons.mpr ⟨Nat.ne_of_lt q2.1, List.forall_mem_cons.mpr ⟨Nat.ne_of_lt q2.2.1, List.forall_mem_cons.mpr ⟨Nat.ne_of_lt q2.2.2.1, fun x hx => Nat.ne_of_lt (ktn_ltOf q2.2.2.2 x hx)⟩⟩⟩⟩
  case o2 => exact List.forall_mem_cons.mpr ⟨Nat.ne_of_lt q3.1, List.forall_mem_cons.mpr ⟨Nat.ne_of_lt q3.2.2.1, List.forall_mem_cons.mpr ⟨Nat.ne_of_lt q3.2.2.2.1, List.forall_mem_cons.mpr ⟨Nat.ne_of_lt q3.2.2.2.2.1, fun x hx => Nat.ne_of_lt (ktn_ltOf q3.2.2.2.2.2 x hx)⟩⟩⟩⟩
  case o3 => exact List.forall_mem_cons.mpr ⟨Nat.ne_of_lt q4.2.1, List.forall_mem_cons.mpr ⟨Nat.ne_of_lt q4.2.2.2.1, List.forall_mem_cons.mpr ⟨Nat.ne_of_lt q4.2.2.2.2.1, List.forall_mem_cons.mpr ⟨Nat.ne_of_lt q4.2.2.2.2.2.1, fun x hx => Nat.ne_of_lt (ktn_ltOf q4.2.2.2.2.2.2 x hx)⟩⟩⟩⟩
  case o4 => exact Nat.ne_of_lt q3.2.1
  case o5 => exact Nat.ne_of_lt q4.2.2.1
  case o6 => exact Nat.ne_of_lt q4.1
  case hd => ktr_room
  case hu => ktr_units
  clear kN kN2
  intro g9 e t d od h9 tk9 tka tkb rest9 P9 n9 n8 nvs F9 RD U9 NS hde hd9 he9 hs9 hn9
  k_steps
  k_dflt (refine' caughtD RD F9 ?K U9 ?XB ?TB ?D KtsTurn.refl ?ex ?q ?_)
  case K => k_asm
  case XB => exact X
  case TB => exact T
  case D => assumption
  case ex => k_is
  case q => kts_isx
  clear RD F9
  intro h10 g10 oe tk10 TT F10 N10 hc10 hd10 hctx hn10 B10 X10 T10 D10
  have m1 := hs9 (rn, instObj 556 rd) (by k_mem)
  have m2 := hs9 (rd, runD w t1 t2 t3 t4 t5 t6 t7 t8 t9 fl vd ct nt (.ref lam)) (by k_mem)
  have m3 := hs9 (ct, instObj 265 cd) (by k_mem)
  have m4 := hs9 (tabG ps') (by k_mem)
  have nl : notes.length ≤ 848 := by
    obtain ⟨k, a0, hk1, hk2, -⟩ := hC
    have := iter_notes hk2
    simp at this
    omega
  have vl2 : nvs.length = notes.length := by rw [hn9.length, List.length_map]
  k_steps
  rename News _ _ _ _ => kN
  refine ⟨nt, nvs.toArray, n8, e, oe, _, rfl, rfl, hctx, by k_asm, kN, by k_mem, by k_mem, by simp only [List.size_toArray, sizeLine_eq]; omega, fun g => ?_⟩
  refine comp_ind (NtJ ((e, oe) :: (d, od) :: (cd, ctlD w u1 u2 u3 u4 u5 P9) :: (P9, listOf #[] n9) :: (nt, listOf nvs.toArray n8) :: rest9) notes) ?_ ?_ _ _ _ _ ⟨rfl, by rw [Nat.zero_add, List.size_toArray, vl2], .nil⟩
  · rintro i ys nx ⟨rfl, hik, hI⟩
    unfold LCg.FinE
    intro DD h11 tk11 F11 N11 o11
    k_steps
    rename News h₀ L _ _ => kN
    obtain ⟨rest10, z1, z2, z3⟩ := tab_out (l := rest9) kN (by (iterate 7 (refine List.mem_cons_of_mem _ ?_)); exact m4) (fun x hx => by (iterate 7 (refine List.mem_cons_of_mem _ ?_)); exact hx)
    rw [show i = notes.length by omega, List.take_length] at hI
    refine ret ps' _ DD ys.length ys P9 n9 tka rest10 _ _ (by assumption) (newsSub kN fun x hx => ?_) hps' z3 (fun x hx hc => z1 x (hs9 x (sub5 x (hs4 x (by simp only [List.mem_cons]; exact .inr (.inr (.inr (.inr (.inr (hs3 x (List.mem_cons_of_mem _ (hs2 x (List.mem_cons_of_mem _ hx))))))))) hc))) hc) hI
    simp only [List.mem_cons] at hx ⊢
    rcases hx with z | z | z | z | z
    · simp [z]
    · simp [z]
    · simp [z]
    · rw [z]; simp [m4]
    · simp [z2 x z]
  · rintro k i ys nx ⟨rfl, hik, hI⟩ v I2 oI C2 oC DD m2 h11 tk11 E' hv hNs hm2 F11 N11 off3 ne3
    obtain ⟨c, hc⟩ : ∃ c, notes[i]? = some c := ⟨_, List.getElem?_eq_getElem (show i < notes.length by omega)⟩
    have c6 : c < 6 := hN6 c (List.mem_of_getElem? hc)
    obtain ⟨dt, tt1, tt2, nn, rfl, hmt⟩ : ∃ d t1 t2 n, v = .ref d ∧ (d, ({ cls := .type "tuple", data := .seq [Value.str (numText c) t1, Value.int 0 t2].toArray n } : Obj)) ∈ rest9 := by
      have hi : i < (notes.map noteDat).length := by rw [List.length_map]; omega
      obtain ⟨v', h1, h2⟩ := hn9.get hi
      rw [List.getElem_map, show notes[i] = c from (List.getElem?_eq_some_iff.mp hc).2] at h2
      rw [List.getElem?_toArray, h1] at hv
      cases Option.some.inj hv
      exact note_inv h2
    k_steps
    refine LCg.CompEnd.intro (by assumption) N11 _ (fun x hx => hx) off3 ⟨by k_mem, by k_mem⟩ ⟨rfl, by omega, ?_⟩
    rw [List.take_add_one, hc, List.map_append]
    exact IntsAre.append hI (.cons _ _ .nil)
end
end Mine
end
-- W12
section
theorem Mine.offW12 : True := by
  w_top off
  k_with_none
  trivial
local macro_rules | `(tactic| walk_at "none") => `(tactic| skip)
namespace Mine
section
local macro_rules | `(tactic| k_all) => `(tactic| first | assumption | exact List.forall_mem_nil _ | (refine' List.forall_mem_cons.mpr ⟨?a, ?b⟩; (case a => k_ne); (case b => k_all)))
theorem kwW12_1 : True := by
  k_with "call ref" => ((k_here; (with_reducible show wpAny _ _ (call (Value.ref 567) _) _ _ _); refine hold_mk ?_))
  trivial
local macro_rules | `(tactic| walk_at "exec For Name Call cons nil") => `(tactic| (k_here; (rename Fr _ _ _ _ => lF'); (with_unfolding_all refine' For_turns lF' ?_; k_whole)))
theorem rng_small {j : Nat} (hj : j < 7) : Builtin.Range.small 0 (j : Int) 1 = true := (by decide : ∀ j : Nat, j < 7 → Builtin.Range.small 0 (j : Int) 1 = true) j hj
theorem rng_size {j : Nat} (hj : j < 7) : Builtin.Range.rangeSize 0 (j : Int) 1 = (j : Int) := (by decide : ∀ j : Nat, j < 7 → Builtin.Range.rangeSize 0 (j : Int) 1 = (j : Int)) j hj
theorem kwW12_2 : True := by
  k_with "pyIter ref" => ((k_here; refine hold_mk ?_))
  trivial
theorem kwW12_3 : True := by
  k_with "eval ListComp" => ((k_here; k_dflt (refine LCg.ListComp_U (F₀ := by k_asm) (by with_unfolding_all rfl) (by decide) (by rfl) (by decide) (by rfl) ?_)))
  trivial
theorem kwW12_4 : True := by
  k_with "CompSrc" => ((k_here; refine hold_mk ?_))
  trivial
def PlanOk (K : Nat) (p : Plan) : Prop := ∀ i l, p[i]? = some l → l.calls.length ≤ 2 ∧ (∀ c ∈ l.calls, i < c ∧ c < K) ∧ ∀ g, l.goal = some g → i < g ∧ g < K
def plG (F : Addr) (K : Nat) (tm : Tok) : Str → Option Value := fun y => if y = Str.ofString "found" then some (.ref F) else if y = Str.ofString "many" then some (.int (3 + (K : Int)) tm) else none
theorem goal_in (a b : Nat) (tk : Tok) : DatIn [] (Value.int ((a : Int) + 1 + (b : Int)) tk) (goalDat (some (a + 1 + b))) := by
  have e9 : ((a + 1 + b : Nat) : Int) = (a : Int) + 1 + (b : Int) := by omega
  show DatIn [] _ (Dat.int ((a + 1 + b : Nat) : Int))
  rw [e9]
  exact .int _ _
theorem plan_well {p1 : Plan} {j : Nat} (hkk : p1.length + 0 = 3 + j) (hj : j < 4) (hok : PlanOk (3 + j) p1) : Well p1 := by
  have e : p1.length = 3 + j := by omega
  exact ⟨by omega, by omega, fun i l h => (hok i l h).1, fun i l h c hc => e ▸ (hok i l h).2.1 c hc, fun i l h g hg => e ▸ (hok i l h).2.2 g hg⟩
/-- the invariant of _law_plan's loop -/
def PlJ (j : Nat) (t L' F I : Addr) (vs : List Value) (spot : Int) (tm : Tok) (rest : List (Addr × Obj)) (r : List Itm) (m' : Str → Option Value) (nx : List (Addr × Obj)) : Prop :=
  ∃ (p1 : Plan) (kk : Nat) (fvs : List Value) (fk n' : Nat) (sp : Int) (ts : Tok) (o1 o2 o3 : Obj) (rest' : List (Addr × Obj)),
    p1.length + kk = 3 + j ∧ r = rangeItems (p1.length : Int) kk ∧
    (∀ x ∈ (F, listOf fvs.toArray fk) :: (t, listOf (vs ++ [Value.int sp ts]).toArray n') :: (L' + 1 + 1 + 1, o1) :: (L' + 1 + 1, o2) :: (L' + 1, o3) :: rest', x ∈ nx) ∧ (∀ x ∈ rest, x ∈ rest') ∧
    0 ≤ sp ∧ sp ≤ spot + 1 + 5 * p1.length ∧ o3.data = .cell (some (.ref t)) ∧ (∃ z, o2.data = .cell z) ∧ (∃ z, o1.data = .cell z) ∧
    (∀ x ∈ rest', x.1 ≠ F ∧ x.1 ≠ t ∧ x.1 ≠ I ∧ x.1 ≠ L' + 1 ∧ x.1 ≠ L' + 1 + 1 ∧ x.1 ≠ L' + 1 + 1 + 1) ∧
    DatAll rest' fvs (p1.map lnDat) ∧ fvs.length = p1.length ∧ PlanOk (3 + j) p1 ∧ (∀ y, y ≠ Str.ofString "calls" → y ≠ Str.ofString "goal" → m' y = plG F j tm y)
theorem pl_init {j : Nat} {t L' F I : Addr} {vs : List Value} {spot : Int} {tm ts : Tok} {n' : Nat} {o1 o2 o3 : Obj} {rest : List (Addr × Obj)} {m0 : Str → Option Value} (hs : 0 ≤ spot)
    (f3 : o3.data = .cell (some (.ref t))) (f2 : ∃ z, o2.data = .cell z) (f1 : ∃ z, o1.data = .cell z) (h1 : t < L' ∧ AllLt L' rest) (hr : ∀ x ∈ rest, x.1 ≠ t) (h2 : t < F ∧ L' + 1 + 1 + 1 < F ∧ L' + 1 + 1 < F ∧ L' + 1 < F ∧ AllLt F rest)
    (h3 : F < I ∧ t < I ∧ L' + 1 + 1 + 1 < I ∧ L' + 1 + 1 < I ∧ L' + 1 < I ∧ AllLt I rest) (hm : ∀ y, m0 y = plG F j tm y) :
    PlJ j t L' F I vs spot tm rest (rangeItems 0 (3 + j)) m0 ((F, listOf #[] 0) :: (t, listOf (vs ++ [Value.int (spot + 1) ts]).toArray n') :: (L' + 1 + 1 + 1, o1) :: (L' + 1 + 1, o2) :: (L' + 1, o3) :: rest) := by
  refine ⟨[], 3 + j, [], 0, n', spot + 1, ts, o1, o2, o3, rest, Nat.zero_add _, rfl, fun x hx => hx, fun x hx => hx, by omega, by simp, f3, f2, f1, fun x hx => ?_, .nil, rfl, fun i l h => by simp at h, fun y _ _ => hm y⟩
  have a := ktn_ltOf h1.2 x hx
  have a' : (x.1 : Nat) < L' := a
  exact ⟨Nat.ne_of_lt (ktn_ltOf h2.2.2.2.2 x hx), hr x hx, Nat.ne_of_lt (ktn_ltOf h3.2.2.2.2.2 x hx), Nat.ne_of_lt (Nat.lt_succ_of_lt a'), Nat.ne_of_lt (Nat.lt_succ_of_lt (Nat.lt_succ_of_lt a')), Nat.ne_of_lt (Nat.lt_succ_of_lt (Nat.lt_succ_of_lt (Nat.lt_succ_of_lt a')))⟩
/-- the invariant of the comprehension of calls: only the tape changes -/
def CpJ (j pl : Nat) (t : Addr) (vs : List Value) (sp : Int) (c : Nat) (B1 : List (Addr × Obj)) (k i : Nat) (ys : List Value) (nx : List (Addr × Obj)) : Prop :=
  ∃ (spB : Int) (tsB : Tok) (nB : Nat) (ks : List Nat), nx = (t, listOf (vs ++ [Value.int spB tsB]).toArray nB) :: B1 ∧ i + k = c ∧ ys.length = i ∧ 0 ≤ spB ∧ spB ≤ sp + 1 + i ∧ DatAll [] ys (ks.map fun (c : Nat) => Dat.int (c : Int)) ∧ ks.length = i ∧ ∀ x ∈ ks, pl < x ∧ x < 3 + j
theorem pl_end {j : Nat} {t L' F0 I Dt cl : Addr} {vs fvs cvs : List Value} {spot sp' : Int} {tm ts' : Tok} {rest rest' all : List (Addr × Obj)} {g' h' : Heap} {L9 : Addr} {m9 : Str → Option Value} {oI o1 o2 o3 : Obj} {fk n9 cn kk : Nat} {p1 : Plan} {l : Ln} {gv : Value} {s1 : Shared} {tk9 : Nat}
    (F : Fr g' L9 h' m9) (N : News g' L9 h' all) (sub : ∀ x ∈ (F0, listOf (fvs ++ [Value.ref Dt]).toArray (fk + 1)) :: (t, listOf (vs ++ [Value.int sp' ts']).toArray n9) :: (L' + 1 + 1 + 1, o1) :: (L' + 1 + 1, o2) :: (L' + 1, o3) :: (Dt, ({ cls := .type "tuple", data := .seq #[Value.ref cl, gv] } : Obj)) :: (cl, listOf cvs.toArray cn) :: rest', x ∈ all) (iI : (I, oI) ∈ all)
    (hkk : p1.length + (kk + 1) = 3 + j) (hsr : ∀ x ∈ rest, x ∈ rest') (sp0 : 0 ≤ sp') (sp1 : sp' ≤ spot + 1 + 5 * ((p1.length : Int) + 1)) (g3 : o3.data = .cell (some (.ref t))) (g2 : ∃ z, o2.data = .cell z) (g1 : ∃ z, o1.data = .cell z)
    (hoff : ∀ x ∈ rest', x.1 ≠ F0 ∧ x.1 ≠ t ∧ x.1 ≠ I ∧ x.1 ≠ L' + 1 ∧ x.1 ≠ L' + 1 + 1 ∧ x.1 ≠ L' + 1 + 1 + 1) (d1 : Dt ≠ F0 ∧ Dt ≠ t ∧ Dt ≠ I ∧ Dt ≠ L' + 1 ∧ Dt ≠ L' + 1 + 1 ∧ Dt ≠ L' + 1 + 1 + 1) (d2 : cl ≠ F0 ∧ cl ≠ t ∧ cl ≠ I ∧ cl ≠ L' + 1 ∧ cl ≠ L' + 1 + 1 ∧ cl ≠ L' + 1 + 1 + 1)
    (x1 : F0 ≠ I) (x2 : t ≠ I) (x3 : L' + 1 + 1 + 1 ≠ I) (x4 : L' + 1 + 1 ≠ I) (x5 : L' + 1 ≠ I)
    (hdf : DatAll rest' fvs (p1.map lnDat)) (hfl : fvs.length = p1.length) (hok : PlanOk (3 + j) p1) (hc : DatAll [] cvs (l.calls.map fun (c : Nat) => Dat.int (c : Int))) (hg : DatIn [] gv (goalDat l.goal))
    (hl : l.calls.length ≤ 2 ∧ (∀ c ∈ l.calls, p1.length < c ∧ c < 3 + j) ∧ ∀ g, l.goal = some g → p1.length < g ∧ g < 3 + j) (hm : ∀ y, y ≠ Str.ofString "calls" → y ≠ Str.ofString "goal" → m9 y = plG F0 j tm y) :
    UnrEndW g' L9 s1 [(I, oI)] (fun m' n' => SubL [] n' ∧ PlJ j t L' F0 I vs spot tm rest (rangeItems ((p1.length : Int) + 1) kk) m' n') { s1 with heap := h', toks := tk9 } := by
  have nn : ∀ x ∈ ([] : List (Addr × Obj)), x ∈ (Dt, ({ cls := .type "tuple", data := .seq #[Value.ref cl, gv] } : Obj)) :: (cl, listOf cvs.toArray cn) :: rest' := fun x h => absurd h List.not_mem_nil
  refine unrw_end F N ((F0, listOf (fvs ++ [Value.ref Dt]).toArray (fk + 1)) :: (t, listOf (vs ++ [Value.int sp' ts']).toArray n9) :: (L' + 1 + 1 + 1, o1) :: (L' + 1 + 1, o2) :: (L' + 1, o3) :: (Dt, ({ cls := .type "tuple", data := .seq #[Value.ref cl, gv] } : Obj)) :: (cl, listOf cvs.toArray cn) :: rest') (fun x hx => by obtain rfl := List.mem_singleton.mp hx; exact iI) sub (fun x hx q hq => ?_) ⟨trivial, p1 ++ [l], kk, fvs ++ [Value.ref Dt], fk + 1, n9, sp', ts', o1, o2, o3, _, by simp; omega, by simp, fun x hx => hx, fun x hx => List.mem_cons_of_mem _ (List.mem_cons_of_mem _ (hsr x hx)), sp0, by simpa using sp1, g3, g2, g1, List.forall_mem_cons.mpr ⟨d1, List.forall_mem_cons.mpr ⟨d2, hoff⟩⟩, ?_, by simp [hfl], ?_, hm⟩
  · obtain rfl := List.mem_singleton.mp hq
    exact (List.forall_mem_cons.mpr ⟨x1, List.forall_mem_cons.mpr ⟨x2, List.forall_mem_cons.mpr ⟨x3, List.forall_mem_cons.mpr ⟨x4, List.forall_mem_cons.mpr ⟨x5, List.forall_mem_cons.mpr ⟨d1.2.2.1, List.forall_mem_cons.mpr ⟨d2.2.2.1, fun x hx => (hoff x hx).2.2.1⟩⟩⟩⟩⟩⟩⟩ : ∀ x ∈ _, x.1 ≠ I) x hx
  · rw [List.map_append]
    exact DatAll.append (DatAll.mono (fun x hx => List.mem_cons_of_mem _ (List.mem_cons_of_mem _ hx)) hdf) (DatAll.one (.tuple (vs := [Value.ref cl, gv]) List.mem_cons_self (.cons (.list (vs := cvs) (List.mem_cons_of_mem _ List.mem_cons_self) (DatAll.mono nn hc)) (.cons (DatIn.mono nn hg) .nil))))
  · intro i l' h
    by_cases hi : i < p1.length
    · exact hok i l' (by rw [List.getElem?_append_left hi] at h; exact h)
    · rw [List.getElem?_append_right (Nat.le_of_not_lt hi)] at h
      have e : i = p1.length := by
        have := (List.getElem?_eq_some_iff.mp h).1
        simp at this
        omega
      subst e
      rw [Nat.sub_self] at h
      obtain rfl := Option.some.inj h
      exact hl
theorem plan_ok {w : World} {p : Program} {loose : List Str} {mean : ExcName → Option Value} {mg mb : Str → Option Value}
    {dp un : Nat} {gd : Option (List Code)} {cn : Str} {cs : Scope} {a : Addr} {ccd : Value} {cl : List (Str × Addr)} {outer : List Env} {A₀ : Around} {base h₀ : Heap} {L : Addr} {m : Str → Option Value} {s : Shared} {Q E : Value → Shared → Prop}
    (B : Below A₀ base outer h₀) (F : Fr h₀ L s.heap m) (X : (hd.heap_1 w.params).In h₀) (T : Top p loose mean mg mb h₀) (hk : cs.kind = .function)
    {t : Addr} {vs : List Value} {ns : List Int} {spot : Int} {tk0 : Tok} {n : Nat} {rest : List (Addr × Obj)}
    (N : News h₀ L s.heap ((t, listOf (vs ++ [Value.int spot tk0]).toArray n) :: rest)) (hI : IntsAre vs ns) (hs0 : 0 ≤ spot) (hs1 : spot ≤ 100) (hlen : vs.length ≤ 40) (hr : ∀ p ∈ rest, p.1 ≠ t)
    (hd : dp + 8 < recursionLimit) (hu : un + 60 < cLine)
    (ret : ∀ (pl : Plan) F' pvs fk n' spot' tk' rest' h' tk2, Fr h₀ L h' m → News h₀ L h' ((F', listOf (List.toArray pvs) fk) :: (t, listOf (vs ++ [Value.int spot' tk']).toArray n') :: rest') → (∀ x ∈ rest, x ∈ rest') → (∀ x ∈ rest', x.1 ≠ F') → DatAll rest' pvs (pl.map lnDat) → Well pl → Q (.ref F') { s with heap := h', toks := tk2 }) :
    wpAny (model PySem.Challenge.pw_pq0183_01 w) (ktrTop dp un gd cn cs L a ccd cl outer) (call (.ref 572) [.ref t]) Q E s := by
  refine wpAny_call ?_
  k_dflt (refine' code_defC ?k1 ?k2 ?k3 ?k4 ?k5 ?kA ?kF ?kK ?k6 ?k7 ?k8 ?k9 ?kB ?kD ?_ ?c2 ?c3 ?c4; (case kA => exact rfl); (case kF => exact rfl); (case kK => assumption); (case k1 => k_asm); (case k2 => k_asm); (case k3 => k_asm); (case k4 => k_asm); (case k5 => k_asm); (case k6 => k_is); (case k7 => k_is); (case k8 => ktr_room); (case k9 => exact BindsTo.of_eq rfl); (case kB => exact rfl); (case kD => decide +kernel); (case c2 => exact rfl); (case c3 => exact rfl); (case c4 => exact rfl); k_whole; intro g' L' h' tk' cells' FG' F' N' Y' B' X' T' l1; (try k_lt l1); k_cells Y'; (try simp only [List.cons_append, List.nil_append] at N'); (try dsimp only); (try k_fold))
  k_steps
  unfold Hold
  rename_i c1 c2 c3 e1 e2 e3
  have N1 : News g' L' h' ((t, listOf (vs ++ [Value.int spot tk0]).toArray n) :: (L' + 1 + 1 + 1, c1) :: (L' + 1 + 1, c2) :: (L' + 1, c3) :: rest) := newsSub N' (fun x hx => by
    simp only [List.mem_cons] at hx ⊢
    rcases hx with z | z | z | z | z <;> simp [z])
  have f3 : c3.data = .cell (some (.ref t)) := e3
  have f2 : ∃ z, c2.data = .cell z := ⟨_, e2⟩
  have f1 : ∃ z, c1.data = .cell z := ⟨_, e1⟩
  clear e1 e2 e3 N'
  have hr1 : ∀ x ∈ (L' + 1 + 1 + 1, c1) :: (L' + 1 + 1, c2) :: (L' + 1, c3) :: rest, x.1 ≠ t := List.forall_mem_cons.mpr ⟨by have := l1.1; exact Nat.ne_of_gt (by omega), List.forall_mem_cons.mpr ⟨by have := l1.1; exact Nat.ne_of_gt (by omega), List.forall_mem_cons.mpr ⟨by have := l1.1; exact Nat.ne_of_gt (by omega), hr⟩⟩⟩
  k_dflt (refine' ask ?B ?F ?X N1 ?T ?hk hI ?hm hs0 ?hs1 hlen ?hd ?hu hr1 ?_)
  case B => k_asm
  case F => k_asm
  case X => k_asm
  case T => k_asm
  case hk => exact rfl
  case hm => decide
  case hs1 => omega
  case hd => ktr_room
  case hu => ktr_units
  clear N1
  intro v tv h1 tk1 n1 tk2 v0 v1 F1 N1
  obtain ⟨j, rfl⟩ : ∃ j : Nat, v = (j : Int) := ⟨v.toNat, by omega⟩
  have hj : j < 4 := by omega
  k_steps
  unfold Hold
  rename_i g3 F0 g2 l8 g1 lF0 lN0 g0 tkk rt ru rv rgX lF' lN' kp
  clear lF0 lN0
  have rs0 : Builtin.Range.small 0 (3 + (j : Int)) 1 = true := rng_small (j := 3 + j) (by omega)
  have rn0 : Builtin.Range.rangeSize 0 (3 + (j : Int)) 1 = ((3 + j : Nat) : Int) := rng_size (j := 3 + j) (by omega)
  with_unfolding_all refine' iter_rangeTurns (by rfl) rgX rs0 rn0 lF' lN' ?_
  clear lF' lN'
  intro I l9
  clear rs0 rn0
  k_lt l9
  refine items_ind (PlJ j t L' F0 I vs spot _ rest) ?_ ?_ _ _ _ (pl_init hs0 f3 f2 f1 l1 hr l8 l9 (fun _ => rfl))
  · rintro m' nx ⟨p1, kk, fvs, fk, n', sp, ts, o1, o2, o3, rest', hkk, hr', hsub, hsr, sp0, sp1, g3, g2, g1, hoff, hdf, hfl, hok, hm⟩ h tk F' N'
    cases kk with
    | succ kk => cases hr'
    | zero =>
      have N'' := newsSub N' hsub
      have F'' := fr_out2 F' hm
      clear N' F'
      k_steps
      rename News _ _ _ _ => kN
      exact ret p1 F0 fvs fk n' sp ts ((L' + 1 + 1 + 1, o1) :: (L' + 1 + 1, o2) :: (L' + 1, o3) :: rest') _ _ (by assumption) kN (fun x hx => List.mem_cons_of_mem _ (List.mem_cons_of_mem _ (List.mem_cons_of_mem _ (hsr x hx)))) (List.forall_mem_cons.mpr ⟨Nat.ne_of_lt l8.2.1, List.forall_mem_cons.mpr ⟨Nat.ne_of_lt l8.2.2.1, List.forall_mem_cons.mpr ⟨Nat.ne_of_lt l8.2.2.2.1, fun x hx => (hoff x hx).1⟩⟩⟩) (DatAll.mono (fun x hx => List.mem_cons_of_mem _ (List.mem_cons_of_mem _ (List.mem_cons_of_mem _ hx))) hdf) (plan_well hkk hj hok)
  · rintro a r m' nx ⟨p1, kk, fvs, fk, n', sp, ts, o1, o2, o3, rest', hkk, hr', hsub, hsr, sp0, sp1, g3, ⟨z2, g2⟩, ⟨z1, g1⟩, hoff, hdf, hfl, hok, hm⟩ v h tk its ha hits F' N'
    cases kk with
    | zero => cases hr'
    | succ kk =>
      obtain ⟨oI, rfl, cI⟩ := objs1 hits
      injection hr' with hr1 hr2
      subst hr1 hr2
      obtain ⟨tl, rfl⟩ := ha
      have N'' := newsRest N' hsub
      simp only [List.cons_append, List.nil_append] at N''
      have F'' := fr_out2 F' hm
      clear N' F'
      have y1 : I ≠ L' + 1 + 1 := Nat.ne_of_gt l9.2.2.2.1
      have y2 : I ≠ L' + 1 + 1 + 1 := Nat.ne_of_gt l9.2.2.1
      have y3 : F0 ≠ L' + 1 + 1 := Nat.ne_of_gt l8.2.2.1
      have y4 : F0 ≠ L' + 1 + 1 + 1 := Nat.ne_of_gt l8.2.1
      have y5 : t ≠ L' + 1 + 1 := Nat.ne_of_lt (Nat.lt_succ_of_lt (Nat.lt_succ_of_lt l1.1))
      have y6 : t ≠ L' + 1 + 1 + 1 := Nat.ne_of_lt (Nat.lt_succ_of_lt (Nat.lt_succ_of_lt (Nat.lt_succ_of_lt l1.1)))
      have y7 : L' + 1 + 1 + 1 ≠ L' + 1 + 1 := Nat.succ_ne_self _
      have y8 : L' + 1 + 1 ≠ L' + 1 + 1 + 1 := Ne.symm (Nat.succ_ne_self _)
      have y9 : L' + 1 ≠ L' + 1 + 1 := Ne.symm (Nat.succ_ne_self _)
      have y10 : L' + 1 ≠ L' + 1 + 1 + 1 := Nat.ne_of_lt (Nat.lt_succ_of_lt (Nat.lt_succ_self _))
      have y11 : ∀ x ∈ rest', x.1 ≠ L' + 1 + 1 := fun x hx => (hoff x hx).2.2.2.2.1
      have y13 : I ≠ F0 := Nat.ne_of_gt l9.1
      have y14 : t ≠ F0 := Nat.ne_of_lt l8.1
      have y15 : L' + 1 + 1 + 1 ≠ F0 := Ne.symm y4
      have y16 : L' + 1 + 1 ≠ F0 := Ne.symm y3
      have y17 : L' + 1 ≠ F0 := Nat.ne_of_lt l8.2.2.2.1
      have y18 : ∀ x ∈ rest', x.1 ≠ F0 := fun x hx => (hoff x hx).1
      have y12 : ∀ x ∈ rest', x.1 ≠ L' + 1 + 1 + 1 := fun x hx => (hoff x hx).2.2.2.2.2
      k_steps
      · unfold Hold
        rename 0 < 3 + (j : Int) - (p1.length : Int) - 1 => hlat
        rename News _ _ _ _ => kN
        rename _ = Data.cell (some (Value.int (3 + (j : Int) - (p1.length : Int) - 1) _)) => dA
        rename _ = Data.cell (some (Value.int (p1.length : Int) _)) => dB
        obtain ⟨oA, oB, tA, tB, dA, dB, kN⟩ : ∃ oA oB tA tB, oA.data = Data.cell (some (Value.int (3 + (j : Int) - (p1.length : Int) - 1) tA)) ∧ oB.data = Data.cell (some (Value.int (p1.length : Int) tB)) ∧ News _ _ _ ((I, oI) :: (F0, listOf fvs.toArray fk) :: (t, listOf (vs ++ [Value.int sp ts]).toArray n') :: (L' + 1 + 1 + 1, oA) :: (L' + 1 + 1, oB) :: (L' + 1, o3) :: rest') := ⟨_, _, _, _, dA, dB, kN⟩
        have kN2 : News _ _ _ ((t, listOf (vs ++ [Value.int sp ts]).toArray n') :: (I, oI) :: (F0, listOf fvs.toArray fk) :: (L' + 1 + 1 + 1, oA) :: (L' + 1 + 1, oB) :: (L' + 1, o3) :: rest') := newsSub kN (fun x hx => by
          simp only [List.mem_cons] at hx ⊢
          rcases hx with z | z | z | z | z | z | z <;> simp [z])
        have hr2 : ∀ x ∈ (I, oI) :: (F0, listOf fvs.toArray fk) :: (L' + 1 + 1 + 1, oA) :: (L' + 1 + 1, oB) :: (L' + 1, o3) :: rest', x.1 ≠ t := List.forall_mem_cons.mpr ⟨Nat.ne_of_gt l9.2.1, List.forall_mem_cons.mpr ⟨Ne.symm y14, List.forall_mem_cons.mpr ⟨Ne.symm y6, List.forall_mem_cons.mpr ⟨Ne.symm y5, List.forall_mem_cons.mpr ⟨Nat.ne_of_gt (Nat.lt_succ_of_lt l1.1), fun x hx => (hoff x hx).2.1⟩⟩⟩⟩⟩
        have p1l : p1.length < 6 := by omega
        k_dflt (refine' ask ?B ?F ?X kN2 ?T ?hk hI ?hm sp0 ?hs1 hlen ?hd ?hu hr2 ?_)
        case B => k_asm
        case F => k_asm
        case X => k_asm
        case T => k_asm
        case hk => exact rfl
        case hm => decide
        case hs1 => omega
        case hd => ktr_room
        case hu => ktr_units
        clear kN kN2
        intro q tq h2 tk3 n2 ts2 q0 q1 F2 N2
        obtain ⟨c, rfl⟩ : ∃ c : Nat, q = (c : Int) := ⟨q.toNat, by omega⟩
        have hc3 : c < 3 := by omega
        k_steps
        unfold Hold
        rename_i g5 k5 t5 u5 v5 rgX lF lN kp
        refine LCg.CompSrc.range (by rfl) lF lN rgX (rng_small (j := c) (by omega)) (rng_size (j := c) (by omega)) (by rw [sizeLine_eq]; omega) ?_
        intro g6
        clear lF lN rgX kp
        refine comp_ind (CpJ j p1.length t vs sp c ((I, oI) :: (F0, listOf fvs.toArray fk) :: (L' + 1 + 1 + 1, oA) :: (L' + 1 + 1, oB) :: (L' + 1, o3) :: rest')) ?_ ?_ _ _ _ _ ⟨sp + 1, ts2, n2, [], rfl, Nat.zero_add _, rfl, by omega, by simp, .nil, rfl, fun x h => absurd h List.not_mem_nil⟩
        · rintro i ys nx ⟨spB, tsB, nB, ks, rfl, hik, hyl, sB0, sB1, hD, hkl, hkb⟩
          unfold LCg.FinE
          intro DD h7 tk7 F7 N7 o7
          have o7 := off1_mem o7
          have wD : DD ≠ F0 ∧ DD ≠ t ∧ DD ≠ I ∧ DD ≠ L' + 1 ∧ DD ≠ L' + 1 + 1 ∧ DD ≠ L' + 1 + 1 + 1 := ⟨Ne.symm (o7 (F0, listOf fvs.toArray fk) (by k_mem)), Ne.symm (o7 (t, listOf (vs ++ [Value.int spB tsB]).toArray nB) (by k_mem)), Ne.symm (o7 (I, oI) (by k_mem)), Ne.symm (o7 (L' + 1, o3) (by k_mem)), Ne.symm (o7 (L' + 1 + 1, oB) (by k_mem)), Ne.symm (o7 (L' + 1 + 1 + 1, oA) (by k_mem))⟩
          have wF : DD ≠ F0 := wD.1
          k_steps
          · unfold Hold
            rename News _ _ _ _ => kN
            have hr8 : ∀ x ∈ (DD, LCg.lst ys) :: (I, oI) :: (F0, listOf fvs.toArray fk) :: (L' + 1 + 1 + 1, oA) :: (L' + 1 + 1, oB) :: (L' + 1, o3) :: rest', x.1 ≠ t := List.forall_mem_cons.mpr ⟨wD.2.1, List.forall_mem_cons.mpr ⟨Nat.ne_of_gt l9.2.1, List.forall_mem_cons.mpr ⟨Ne.symm y14, List.forall_mem_cons.mpr ⟨Ne.symm y6, List.forall_mem_cons.mpr ⟨Ne.symm y5, List.forall_mem_cons.mpr ⟨Nat.ne_of_gt (Nat.lt_succ_of_lt l1.1), fun x hx => (hoff x hx).2.1⟩⟩⟩⟩⟩⟩
            have kN2 : News _ _ _ ((t, listOf (vs ++ [Value.int spB tsB]).toArray nB) :: (DD, LCg.lst ys) :: (I, oI) :: (F0, listOf fvs.toArray fk) :: (L' + 1 + 1 + 1, oA) :: (L' + 1 + 1, oB) :: (L' + 1, o3) :: rest') := newsSub kN (fun x hx => by
              simp only [List.mem_cons] at hx ⊢
              rcases hx with z | z | z | z | z | z | z | z <;> simp [z])
            k_dflt (refine' ask ?B ?F ?X kN2 ?T ?hk hI ?hm sB0 ?hs1 hlen ?hd ?hu hr8 ?_)
            case B => k_asm
            case F => k_asm
            case X => k_asm
            case T => k_asm
            case hk => exact rfl
            case hm => decide
            case hs1 => omega
            case hd => ktr_room
            case hu => ktr_units
            clear kN kN2
            intro q tq h8 tk8 n8 ts8 q0 q1 F8 N8
            obtain ⟨e, rfl⟩ : ∃ e : Nat, q = (e : Int) := ⟨q.toNat, by omega⟩
            k_steps
            · unfold Hold
              rename News _ _ _ _ => kN
              k_dflt (refine' ask ?B ?F ?X kN ?T ?hk hI ?hm (by omega) ?hs1 hlen ?hd ?hu hr8 ?_)
              case B => k_asm
              case F => k_asm
              case X => k_asm
              case T => k_asm
              case hk => exact rfl
              case hm => omega
              case hs1 => omega
              case hd => ktr_room
              case hu => ktr_units
              clear kN
              intro q tq' h9 tk9 n9 ts9 q2 q3 F9 N9
              obtain ⟨e2, rfl⟩ : ∃ e : Nat, q = (e : Int) := ⟨q.toNat, by omega⟩
              k_steps
              rename News _ _ _ _ => kN
              rename Fr _ _ _ _ => kF
              rename _ ∧ _ ∧ _ ∧ _ ∧ _ ∧ _ ∧ _ ∧ AllLt _ rest' => q1
              rw [List.push_toArray] at kN
              exact pl_end (l := ⟨ks, some (p1.length + 1 + e2)⟩) kF kN (List.forall_mem_cons.mpr ⟨by k_mem, List.forall_mem_cons.mpr ⟨by k_mem, List.forall_mem_cons.mpr ⟨by k_mem, List.forall_mem_cons.mpr ⟨by k_mem, List.forall_mem_cons.mpr ⟨by k_mem, List.forall_mem_cons.mpr ⟨by k_mem, List.forall_mem_cons.mpr ⟨by k_mem, fun x hx => by simp only [List.mem_cons]; simp only [hx, or_true]⟩⟩⟩⟩⟩⟩⟩) (by k_mem) hkk hsr (by omega) (by omega) g3 ⟨_, dB⟩ ⟨_, dA⟩ hoff
                ⟨Nat.ne_of_gt q1.2.2.2.1, Nat.ne_of_gt q1.1, Nat.ne_of_gt q1.2.2.1, Nat.ne_of_gt q1.2.2.2.2.2.2.1, Nat.ne_of_gt q1.2.2.2.2.2.1, Nat.ne_of_gt q1.2.2.2.2.1⟩ wD
                (Ne.symm y13) (Nat.ne_of_lt l9.2.1) (Ne.symm y2) (Ne.symm y1) (Nat.ne_of_lt l9.2.2.2.2.1) hdf hfl hok hD (goal_in _ _ _) ⟨(by show ks.length ≤ 2; omega), hkb, fun g h => by obtain rfl := Option.some.inj h; omega⟩ (fun y h1 h2 => by simp [h1, h2])
            · rename News _ _ _ _ => kN
              rename Fr _ _ _ _ => kF
              rename _ ∧ _ ∧ _ ∧ _ ∧ _ ∧ _ ∧ _ ∧ AllLt _ rest' => q1
              rw [List.push_toArray] at kN
              exact pl_end (l := ⟨ks, none⟩) kF kN (List.forall_mem_cons.mpr ⟨by k_mem, List.forall_mem_cons.mpr ⟨by k_mem, List.forall_mem_cons.mpr ⟨by k_mem, List.forall_mem_cons.mpr ⟨by k_mem, List.forall_mem_cons.mpr ⟨by k_mem, List.forall_mem_cons.mpr ⟨by k_mem, List.forall_mem_cons.mpr ⟨by k_mem, fun x hx => by simp only [List.mem_cons]; simp only [hx, or_true]⟩⟩⟩⟩⟩⟩⟩) (by k_mem) hkk hsr (by omega) (by omega) g3 ⟨_, dB⟩ ⟨_, dA⟩ hoff
                ⟨Nat.ne_of_gt q1.2.2.2.1, Nat.ne_of_gt q1.1, Nat.ne_of_gt q1.2.2.1, Nat.ne_of_gt q1.2.2.2.2.2.2.1, Nat.ne_of_gt q1.2.2.2.2.2.1, Nat.ne_of_gt q1.2.2.2.2.1⟩ wD
                (Ne.symm y13) (Nat.ne_of_lt l9.2.1) (Ne.symm y2) (Ne.symm y1) (Nat.ne_of_lt l9.2.2.2.2.1) hdf hfl hok hD .none ⟨(by show ks.length ≤ 2; omega), hkb, fun g h => nomatch h⟩ (fun y h1 h2 => by simp [h1, h2])
          · rename News _ _ _ _ => kN
            rename Fr _ _ _ _ => kF
            rename _ ∧ _ ∧ _ ∧ _ ∧ _ ∧ _ ∧ _ ∧ AllLt _ rest' => q1
            rw [List.push_toArray] at kN
            exact pl_end (l := ⟨ks, none⟩) kF kN (List.forall_mem_cons.mpr ⟨by k_mem, List.forall_mem_cons.mpr ⟨by k_mem, List.forall_mem_cons.mpr ⟨by k_mem, List.forall_mem_cons.mpr ⟨by k_mem, List.forall_mem_cons.mpr ⟨by k_mem, List.forall_mem_cons.mpr ⟨by k_mem, List.forall_mem_cons.mpr ⟨by k_mem, fun x hx => by simp only [List.mem_cons]; simp only [hx, or_true]⟩⟩⟩⟩⟩⟩⟩) (by k_mem) hkk hsr sB0 (by omega) g3 ⟨_, dB⟩ ⟨_, dA⟩ hoff
              ⟨Nat.ne_of_gt q1.2.2.2.1, Nat.ne_of_gt q1.2.1, Nat.ne_of_gt q1.2.2.1, Nat.ne_of_gt q1.2.2.2.2.2.2.1, Nat.ne_of_gt q1.2.2.2.2.2.1, Nat.ne_of_gt q1.2.2.2.2.1⟩ wD
              (Ne.symm y13) (Nat.ne_of_lt l9.2.1) (Ne.symm y2) (Ne.symm y1) (Nat.ne_of_lt l9.2.2.2.2.1) hdf hfl hok hD .none ⟨(by show ks.length ≤ 2; omega), hkb, fun g h => nomatch h⟩ (fun y h1 h2 => by simp [h1, h2])
        · rintro k i ys nx ⟨spB, tsB, nB, ks, rfl, hik, hyl, sB0, sB1, hD, hkl, hkb⟩ v I2 oI2 C oC DD m2 h7 tk7 E' hv hNs hm2 F7 N7 off7 ne7
          obtain ⟨t9, rfl⟩ := hv
          have off7 := off7.mem
          have ht7 := off7 _ List.mem_cons_self
          k_steps
          unfold Hold
          have kN2 : News _ _ _ ((t, listOf (vs ++ [Value.int spB tsB]).toArray nB) :: (I2, oI2) :: (C, oC) :: (DD, LCg.lst ys) :: (I, oI) :: (F0, listOf fvs.toArray fk) :: (L' + 1 + 1 + 1, oA) :: (L' + 1 + 1, oB) :: (L' + 1, o3) :: rest') := newsSub N7 (fun x hx => by
            simp only [List.mem_cons] at hx ⊢
            rcases hx with z | z | z | z | z | z | z | z | z | z <;> simp [z])
          have hr7 : ∀ x ∈ (I2, oI2) :: (C, oC) :: (DD, LCg.lst ys) :: (I, oI) :: (F0, listOf fvs.toArray fk) :: (L' + 1 + 1 + 1, oA) :: (L' + 1 + 1, oB) :: (L' + 1, o3) :: rest', x.1 ≠ t := List.forall_mem_cons.mpr ⟨Ne.symm ht7.1, List.forall_mem_cons.mpr ⟨Ne.symm ht7.2.1, List.forall_mem_cons.mpr ⟨Ne.symm ht7.2.2, List.forall_mem_cons.mpr ⟨Nat.ne_of_gt l9.2.1, List.forall_mem_cons.mpr ⟨Ne.symm y14, List.forall_mem_cons.mpr ⟨Ne.symm y6, List.forall_mem_cons.mpr ⟨Ne.symm y5, List.forall_mem_cons.mpr ⟨Nat.ne_of_gt (Nat.lt_succ_of_lt l1.1), fun x hx => (hoff x hx).2.1⟩⟩⟩⟩⟩⟩⟩⟩
          k_dflt (refine' ask ?B ?F ?X kN2 ?T ?hk hI ?hm sB0 ?hs1 hlen ?hd ?hu hr7 ?_)
          case B => k_asm
          case F => k_asm
          case X => k_asm
          case T => k_asm
          case hk => exact rfl
          case hm => omega
          case hs1 => omega
          case hd => ktr_room
          case hu => ktr_units
          clear kN2 N7
          intro q tq h8 tk8 n8 ts8 q0 q1 F8 N8
          obtain ⟨e, rfl⟩ : ∃ e : Nat, q = (e : Int) := ⟨q.toNat, by omega⟩
          k_steps
          rename News _ _ _ _ => kN
          refine LCg.CompEnd.intro (by assumption) kN ((t, listOf (vs ++ [Value.int (spB + 1) ts8]).toArray n8) :: (I, oI) :: (F0, listOf fvs.toArray fk) :: (L' + 1 + 1 + 1, oA) :: (L' + 1 + 1, oB) :: (L' + 1, o3) :: rest') (fun x hx => ?sb) ?of trivial ⟨spB + 1, ts8, n8, ks ++ [p1.length + 1 + e], rfl, by omega, by simp [hyl], by omega, by omega, ?dd, by simp [hkl], ?kb⟩
          case sb =>
            simp only [List.mem_cons] at hx ⊢
            rcases hx with z | z | z | z | z | z | z | z | z | z <;> simp [z]
          case of => exact LCg.Off3.of (List.forall_mem_cons.mpr ⟨ht7, fun x hx => off7 x (List.mem_cons_of_mem _ hx)⟩)
          case dd =>
            rw [List.map_append]
            refine DatAll.append hD ?_
            have e9 : (p1.length : Int) + 1 + (e : Int) = ((p1.length + 1 + e : Nat) : Int) := by omega
            rw [e9]
            exact DatAll.one (.int _ _)
          case kb =>
            intro x hx
            rcases List.mem_append.mp hx with h | h
            · exact hkb x h
            · obtain rfl := List.mem_singleton.mp h
              omega
      · rename News _ _ _ _ => kN
        rename Fr _ _ _ _ => kF
        rename _ ∧ _ ∧ _ ∧ _ ∧ _ ∧ _ ∧ _ ∧ AllLt _ rest' => q1
        rename _ ∧ _ ∧ _ ∧ _ ∧ _ ∧ _ ∧ AllLt _ rest' => q2
        rw [List.push_toArray] at kN
        exact pl_end (l := ⟨[], none⟩) kF kN (List.forall_mem_cons.mpr ⟨by k_mem, List.forall_mem_cons.mpr ⟨by k_mem, List.forall_mem_cons.mpr ⟨by k_mem, List.forall_mem_cons.mpr ⟨by k_mem, List.forall_mem_cons.mpr ⟨by k_mem, List.forall_mem_cons.mpr ⟨by k_mem, List.forall_mem_cons.mpr ⟨by k_mem, fun x hx => by simp only [List.mem_cons]; simp only [hx, or_true]⟩⟩⟩⟩⟩⟩⟩) (by k_mem) hkk hsr sp0 (by omega) g3 ⟨_, by assumption⟩ ⟨_, by assumption⟩ hoff
          ⟨Nat.ne_of_gt q1.2.2.1, Nat.ne_of_gt q1.2.2.2.1, Nat.ne_of_gt q1.2.1, Nat.ne_of_gt q1.2.2.2.2.2.2.1, Nat.ne_of_gt q1.2.2.2.2.2.1, Nat.ne_of_gt q1.2.2.2.2.1⟩
          ⟨Nat.ne_of_gt q2.2.1, Nat.ne_of_gt q2.2.2.1, Nat.ne_of_gt q2.1, Nat.ne_of_gt q2.2.2.2.2.2.1, Nat.ne_of_gt q2.2.2.2.2.1, Nat.ne_of_gt q2.2.2.2.1⟩
          (Ne.symm y13) (Nat.ne_of_lt l9.2.1) (Ne.symm y2) (Ne.symm y1) (Nat.ne_of_lt l9.2.2.2.2.1) hdf hfl hok .nil .none ⟨Nat.zero_le _, fun c h => absurd h List.not_mem_nil, fun g h => nomatch h⟩ (fun y h1 h2 => by simp [h1, h2])
end
end Mine
end
-- W13
section
theorem Mine.offW13 : True := by
  w_top off
  k_with_none
  trivial
namespace Mine
section
local macro_rules | `(tactic| k_all) => `(tactic| first | assumption | exact List.forall_mem_nil _ | (refine' List.forall_mem_cons.mpr ⟨?a, ?b⟩; (case a => k_ne); (case b => k_all)))
theorem kwW13_1 : True := by
  k_with "call ref" => ((k_here; (with_reducible show wpAny _ _ (call (Value.ref 579) _) _ _ _); refine hold_mk ?_))
  trivial
local macro_rules | `(tactic| walk_at "exec For Name Name cons nil") => `(tactic| (k_here; (rename Fr _ _ _ _ => lF'); (with_unfolding_all refine' For_invVF lF' ?k1 ?k2 ?_; (case k1 => exact rfl); (case k2 => exact rfl); k_whole)))
theorem kwW13_2 : True := by
  k_with "pyIter ref" => ((k_here; refine hold_mk ?_))
  trivial
theorem kwW13_3 : True := by
  k_with "subscriptTail" => ((k_here; (with_reducible show wpAny _ _ (subscriptTail _ _ (Value.ref _) (Value.int _ _)) _ _ _); k_dflt (refine' item_nat (by k_asm) (by k_mem) (by assumption) (by omega) ?_ (by with_unfolding_all rfl))))
  trivial
theorem kwW13_4 : True := by
  k_with "WhlRest" => ((k_here; refine hold_mk ?_))
  trivial
/-- what _law_told does, for the lines that lie at most f from the end -/
def Told (pl : Plan) (f : Nat) : Prop :=
  ∀ {w : World} {p : Program} {loose : List Str} {mean : ExcName → Option Value} {mg mb : Str → Option Value}
    {dp un : Nat} {gd : Option (List Code)} {cn : Str} {cs : Scope} {a : Addr} {ccd : Value} {cl : List (Str × Addr)} {outer : List Env} {A₀ : Around} {base h₀ : Heap} {L : Addr} {m : Str → Option Value} {s : Shared} {Q E : Value → Shared → Prop}
    (_ : Below A₀ base outer h₀) (_ : Fr h₀ L s.heap m) (_ : (hd.heap_1 w.params).In h₀) (_ : Top p loose mean mg mb h₀) (_ : cs.kind = .function)
    {PL nt : Addr} {nvs : List Value} {n i : Nat} {ti : Tok} {rest : List (Addr × Obj)}
    (_ : News h₀ L s.heap ((nt, listOf nvs.toArray n) :: rest)) (_ : DatIn rest (.ref PL) (planDat pl)) (_ : ∀ x ∈ rest, x.1 ≠ nt) (_ : i < pl.length) (_ : pl.length - i ≤ f) (_ : nvs.length + (say pl i).1.length ≤ 1000)
    (_ : dp + f + 2 < recursionLimit) (_ : un + 8 * f + 20 < cLine)
    (_ : ∀ v nvs2 n' h' tk', Fr h₀ L h' m → News h₀ L h' ((nt, listOf (nvs ++ nvs2).toArray n') :: rest) → IntsAre nvs2 ((say pl i).1.map fun (k : Nat) => (k : Int)) → GoalIs v (say pl i).2 → Q v { s with heap := h', toks := tk' }),
    wpAny (model PySem.Challenge.pw_pq0183_01 w) (ktrTop dp un gd cn cs L a ccd cl outer) (call (.ref 579) [.ref PL, .int (i : Int) ti, .ref nt]) Q E s
theorem fr_eq {h₀ h : Heap} {L : Addr} {m m2 : Str → Option Value} (F : Fr h₀ L h m) (e : ∀ y, m y = m2 y) : Fr h₀ L h m2 := by
  rw [← funext e]; exact F
def tdG (PL nt : Addr) : Str → Option Value := fun y => List.lookup y [(Str.ofString "notes", Value.ref nt), (Str.ofString "plan", Value.ref PL)]
/-- the while of _law_told: at line c, with done noted so far -/
def TdS (pl : Plan) (i : Nat) (PL nt : Addr) (nvs : List Value) (rest : List (Addr × Obj)) (c : Nat × List Nat) (m' : Str → Option Value) (nx : List (Addr × Obj)) : Prop :=
  ∃ (dvs : List Value) (n' : Nat) (tl : Tok), c.1 < pl.length ∧ i ≤ c.1 ∧ (say pl i).1 = c.2 ++ (say pl c.1).1 ∧ (say pl i).2 = (say pl c.1).2 ∧ IntsAre dvs (c.2.map fun (k : Nat) => (k : Int)) ∧ nx = (nt, listOf (nvs ++ dvs).toArray n') :: rest ∧
    m' (Str.ofString "line") = some (.int (c.1 : Int) tl) ∧ (∀ y, y ≠ Str.ofString "line" → y ≠ Str.ofString "calls" → y ≠ Str.ofString "goal" → y ≠ Str.ofString "led" → y ≠ Str.ofString "other" → m' y = tdG PL nt y)
theorem td_names {PL nt : Addr} {m' : Str → Option Value} {v : Value} (hl : m' (Str.ofString "line") = some v) (hm : ∀ y, y ≠ Str.ofString "line" → y ≠ Str.ofString "calls" → y ≠ Str.ofString "goal" → y ≠ Str.ofString "led" → y ≠ Str.ofString "other" → m' y = tdG PL nt y) (y : Str) :
    m' y = (fun y => if y = Str.ofString "line" then some v else if y = Str.ofString "calls" then m' (Str.ofString "calls") else if y = Str.ofString "goal" then m' (Str.ofString "goal") else if y = Str.ofString "led" then m' (Str.ofString "led") else if y = Str.ofString "other" then m' (Str.ofString "other") else tdG PL nt y) y := by
  dsimp only
  split
  · rename_i e; rw [e, hl]
  · split
    · rename_i e; rw [e]
    · split
      · rename_i e; rw [e]
      · split
        · rename_i e; rw [e]
        · split
          · rename_i e; rw [e]
          · rename_i a b c d e; exact hm y a b c d e
/-- the inner loop of _law_told: the calls cs1 are done and handed nothing back -/
def TdJ (pl : Plan) (l : Ln) (c : Nat) (tl : Tok) (PL nt I ca : Addr) (gv : Value) (nv : List Value) (rest : List (Addr × Obj)) (r : List Value) (m' : Str → Option Value) (nx : List (Addr × Obj)) : Prop :=
  ∃ (cs1 cs2 : List Nat) (dv2 : List Value) (n2 : Nat), l.calls = cs1 ++ cs2 ∧ IntsAre r (cs2.map fun (k : Nat) => (k : Int)) ∧ (tellCalls (say pl) cs1).2 = none ∧ IntsAre dv2 ((tellCalls (say pl) cs1).1.map fun (k : Nat) => (k : Int)) ∧
    nx = (nt, listOf (nv ++ [Value.int (c : Int) tl] ++ dv2).toArray n2) :: rest ∧ m' (Str.ofString "led") = some .none ∧ m' (Str.ofString "goal") = some gv ∧ m' (Str.ofString "calls") = some (.ref ca) ∧ m' (Str.ofString "line") = some (.int (c : Int) tl) ∧
    (∀ y, y ≠ Str.ofString "line" → y ≠ Str.ofString "calls" → y ≠ Str.ofString "goal" → y ≠ Str.ofString "led" → y ≠ Str.ofString "other" → m' y = tdG PL nt y)
theorem td_names2 {PL nt : Addr} {m' : Str → Option Value} {v1 v2 v3 v4 : Value} (h1 : m' (Str.ofString "led") = some v1) (h2 : m' (Str.ofString "goal") = some v2) (h3 : m' (Str.ofString "calls") = some v3) (h4 : m' (Str.ofString "line") = some v4) (hm : ∀ y, y ≠ Str.ofString "line" → y ≠ Str.ofString "calls" → y ≠ Str.ofString "goal" → y ≠ Str.ofString "led" → y ≠ Str.ofString "other" → m' y = tdG PL nt y) (y : Str) :
    m' y = (fun y => if y = Str.ofString "line" then some v4 else if y = Str.ofString "calls" then some v3 else if y = Str.ofString "goal" then some v2 else if y = Str.ofString "led" then some v1 else if y = Str.ofString "other" then m' (Str.ofString "other") else tdG PL nt y) y := by
  dsimp only
  split
  · rename_i e; rw [e, h4]
  · split
    · rename_i e; rw [e, h3]
    · split
      · rename_i e; rw [e, h2]
      · split
        · rename_i e; rw [e, h1]
        · split
          · rename_i e; rw [e]
          · rename_i a b c d e; exact hm y a b c d e
theorem tc_app {rc : Nat → List Nat × Option Nat} : ∀ {cs1 cs : List Nat}, (tellCalls rc cs1).2 = none → tellCalls rc (cs1 ++ cs) = ((tellCalls rc cs1).1 ++ (tellCalls rc cs).1, (tellCalls rc cs).2)
  | [], cs, _ => rfl
  | c :: cs1, cs, h => by
    cases hc : (rc c).2 with
    | some g => rw [tellCalls_some hc] at h; cases h
    | none =>
      rw [tellCalls_none hc] at h
      rw [List.cons_append, tellCalls_none hc, tellCalls_none hc, tc_app h, List.append_assoc]
theorem tc_ge (rc : Nat → List Nat × Option Nat) (o : Nat) (cs : List Nat) : (rc o).1.length ≤ (tellCalls rc (o :: cs)).1.length := by
  cases hc : (rc o).2 with
  | some g => rw [tellCalls_some hc]; exact Nat.le_refl _
  | none => rw [tellCalls_none hc, List.length_append]; exact Nat.le_add_right _ _
theorem told_ok {pl : Plan} (W : Well pl) : ∀ f, Told pl f := by
  intro f
  induction f with
  | zero => intro _ _ _ _ _ _ _ _ _ _ _ _ _ _ _ _ _ _ _ _ _ _ _ _ _ _ _ _ _ _ _ _ _ _ _ _ _ hi hf; omega
  | succ f ih =>
    intro w p loose mean mg mb dp un gd cn cs a ccd cl outer A₀ base h₀ L m s Q E B F X T hk PL nt nvs n i ti rest N hP hr hi hf hlen hd hu ret
    refine wpAny_call ?_
    k_dflt ktr_enter
    k_steps
    unfold Hold
    rename Fr _ _ _ _ => kF
    rename News _ _ _ _ => kN
    refine rest_ind (fun c : Nat × List Nat => pl.length - c.1) (TdS pl i PL nt nvs rest) ?_ (i, []) _ _ _ _ ?s0 kF kN
    case s0 => exact ⟨[], n, ti, hi, Nat.le_refl _, rfl, rfl, .nil, by rw [List.append_nil], rfl, fun y h1 _ _ _ _ => by
      show List.lookup y [(Str.ofString "notes", Value.ref nt), (Str.ofString "line", Value.int (i : Int) ti), (Str.ofString "plan", Value.ref PL)] = List.lookup y [(Str.ofString "notes", Value.ref nt), (Str.ofString "plan", Value.ref PL)]
      have e : (y == Str.ofString "line") = false := beq_false_of_ne h1
      simp only [List.lookup_cons, e]⟩
    clear kF kN
    rintro ⟨c, done⟩ ih2 h tk m' nx ⟨dvs, n', tl, hc, hic, hs1, hs2, hI, rfl, hml, hm⟩ F' N'
    have F'' := fr_eq F' (td_names hml hm)
    clear F'
    dsimp only at hc hic hs1 hs2 hI hml F''
    obtain ⟨l, hl⟩ : ∃ l, pl[c]? = some l := ⟨_, List.getElem?_eq_getElem hc⟩
    obtain ⟨pvs, pn, tp, tn, ca, cvs, cn9, gv, p1, p2, p3, p4, p5, p6, p7⟩ := plan_at hP hl
    have pl6 : pl.length ≤ 6 := W.many
    have e9 := say_eq W hl
    have ld : dvs.length = done.length := by rw [IntsAre.length hI, List.length_map]
    have ls : (say pl i).1.length = done.length + (say pl c).1.length := by rw [hs1, List.length_append]
    have lc : 1 ≤ (say pl c).1.length := by rw [e9]; simp
    have hb : nvs.length + dvs.length + 1 ≤ 1000 := by omega
    refine whl_turn ?hE ?_
    case hE => first | passes_own | with_unfolding_all passes_own
    k_steps
    unfold Hold
    rename_i g1 tk1 g2 g3 g4 g5 lF lN
    rw [List.push_toArray] at lN
    have lcs : l.calls.length ≤ 2 := W.few c l hl
    with_unfolding_all refine' iter_listUnr (by rfl) lF lN (List.mem_cons_of_mem _ p5) (by exact rfl) (by exact rfl) ?_
    clear lF lN
    intro I lI
    have lI2 : ∀ x ∈ rest, x.1 ≠ I := fun x hx => Nat.ne_of_lt (lI x (List.mem_cons_of_mem _ hx))
    have lI3 : nt ≠ I := Nat.ne_of_lt (lI _ List.mem_cons_self)
    refine list_ind (TdJ pl l c tl PL nt I ca gv (nvs ++ dvs) rest) ?_ ?_ _ _ _ ?_
    case refine_3 => exact ⟨[], l.calls, [], n' + 1, rfl, p6, rfl, .nil, by simp, rfl, rfl, rfl, rfl, fun y h1 h2 h3 h4 h5 => by simp [h1, h2, h3, h4, h5]⟩
    · rintro mz nx ⟨cs1, cs2, dv2, n2, hcs, hr2, hnone, hI2, rfl, hma, hmb, hmc, hmd, hmn⟩ hz tkz Fz Nz
      cases cs2 with
      | cons => cases hr2
      | nil =>
        rw [List.append_nil] at hcs
        have Fz' := fr_eq Fz (td_names2 hma hmb hmc hmd hmn)
        clear Fz
        simp only [hcs, hnone] at e9
        k_steps
        rename News _ _ _ _ => kN
        refine ret gv (dvs ++ ([Value.int (c : Int) tl] ++ dv2)) n2 _ _ (by assumption) (by simpa [List.append_assoc] using kN) ?_ ?_
        · rw [hs1, e9, List.map_append, List.map_cons]
          exact IntsAre.append hI (.cons _ _ hI2)
        · rw [hs2, e9]
          exact p7
    · rintro v r mz nx ⟨cs1, cs2, dv2, n2, hcs, hr2, hnone, hI2, rfl, hma, hmb, hmc, hmd, hmn⟩ it hz tkz hit Fz Nz
      cases cs2 with
      | nil => cases hr2
      | cons o cs2 =>
        cases hr2 with
        | cons _ to hr3 =>
          have ho := W.calls c l hl o (by rw [hcs]; simp)
          have Fz' := fr_eq Fz (td_names2 (m' := fun y => if y = Str.ofString "other" then some (Value.int (o : Int) to) else mz y) (by rw [if_neg (by decide)]; exact hma) (by rw [if_neg (by decide)]; exact hmb) (by rw [if_neg (by decide)]; exact hmc) (by rw [if_neg (by decide)]; exact hmd) (fun y h1 h2 h3 h4 h5 => by rw [if_neg h5]; exact hmn y h1 h2 h3 h4 h5))
          clear Fz
          simp only [if_true] at Fz'
          have len1 : (say pl c).1.length = 1 + (tellCalls (say pl) l.calls).1.length + (match (tellCalls (say pl) l.calls).2 with | none => 0 | some g => (say pl g).1.length) := by
            rw [e9]
            cases (tellCalls (say pl) l.calls).2 <;> simp <;> omega
          have len2 : (tellCalls (say pl) l.calls).1.length = dv2.length + (tellCalls (say pl) (o :: cs2)).1.length := by
            rw [hcs, tc_app hnone, List.length_append, IntsAre.length hI2, List.length_map]
          have len3 : (say pl o).1.length ≤ (tellCalls (say pl) (o :: cs2)).1.length := tc_ge _ _ _
          k_steps
          unfold Hold
          rename News _ _ _ _ => kN
          have kN2 : News _ _ _ ((nt, listOf (nvs ++ dvs ++ [Value.int (c : Int) tl] ++ dv2).toArray n2) :: (I, it) :: rest) := newsSub kN (fun x hx => by
            simp only [List.mem_cons] at hx ⊢
            rcases hx with z | z | z <;> simp [z])
          k_dflt (refine' ih ?B ?F ?X ?T ?hk kN2 (DatIn.mono (fun x hx => List.mem_cons_of_mem _ hx) hP) (List.forall_mem_cons.mpr ⟨Ne.symm lI3, hr⟩) ho.2 ?hf ?hlen ?hd ?hu ?_)
          case B => k_asm
          case F => k_asm
          case X => k_asm
          case T => k_asm
          case hk => exact rfl
          case hf => omega
          case hlen =>
            simp only [List.length_append, List.length_cons, List.length_nil]
            omega
          case hd => ktr_room
          case hu => ktr_units
          clear kN kN2
          intro rv nvs3 n3 h3 tk3 F3 N3 I3 G3
          cases hg : (say pl o).2 with
          | none =>
            obtain rfl : rv = .none := by rw [hg] at G3; exact G3
            k_steps
            rename News _ _ _ _ => kN
            rename Fr _ _ _ _ => kF
            refine unr_end kF kN ((nt, listOf (nvs ++ dvs ++ [Value.int (c : Int) tl] ++ dv2 ++ nvs3).toArray n3) :: rest) (by k_mem) (fun x hx => ?_) (List.forall_mem_cons.mpr ⟨lI3, lI2⟩) ⟨List.mem_cons_of_mem _ p5, cs1 ++ [o], cs2, dv2 ++ nvs3, n3, by rw [hcs]; simp, hr3, ?_, ?_, by simp [List.append_assoc], rfl, rfl, rfl, rfl, fun y h1 h2 h3 h4 h5 => by simp [h1, h2, h3, h4, h5]⟩
            · simp only [List.mem_cons] at hx ⊢
              rcases hx with z | z <;> simp [z]
            · rw [tc_app hnone, tellCalls_none hg]; rfl
            · rw [tc_app hnone, tellCalls_none hg, List.map_append]
              refine IntsAre.append hI2 ?_
              rw [show (tellCalls (say pl) []).1 = [] from rfl, List.append_nil]
              exact I3
          | some g =>
            obtain ⟨tg, rfl⟩ : ∃ t, rv = .int (g : Int) t := by rw [hg] at G3; exact G3
            have hgo := say_goal W ho.2 hg
            have htc : tellCalls (say pl) l.calls = ((tellCalls (say pl) cs1).1 ++ (say pl o).1, some g) := by
              rw [hcs, tc_app hnone, tellCalls_some hg]
            simp only [htc] at e9
            k_steps
            unfold Hold
            rename News _ _ _ _ => kN
            rename Fr _ _ _ _ => kF
            refine ih2 (g, done ++ c :: ((tellCalls (say pl) cs1).1 ++ (say pl o).1)) ?_ _ _ _ _ ⟨dvs ++ ([Value.int (c : Int) tl] ++ (dv2 ++ nvs3)), n3, _, hgo.2, ?_, ?_, ?_, ?_, rfl, rfl, fun y h1 h2 h3 h4 h5 => by simp [h1, h2, h3, h4, h5]⟩ kF (newsSub kN fun x hx => ?_)
            · show pl.length - g < pl.length - c
              omega
            · show i ≤ g
              omega
            · show (say pl i).1 = (done ++ c :: ((tellCalls (say pl) cs1).1 ++ (say pl o).1)) ++ (say pl g).1
              rw [hs1, e9]
              simp [List.append_assoc]
            · show (say pl i).2 = (say pl g).2
              rw [hs2, e9]
            · show IntsAre _ ((done ++ c :: ((tellCalls (say pl) cs1).1 ++ (say pl o).1)).map _)
              rw [List.map_append, List.map_cons, List.map_append]
              have J := IntsAre.append hI2 I3
              exact IntsAre.append hI (IntsAre.append (ns := [(c : Int)]) (.cons (c : Int) tl .nil) J)
            · simp only [List.mem_cons] at hx ⊢
              rcases hx with z | z <;> simp [z, List.append_assoc]
end
end Mine
end
-- W14
section
theorem Mine.offW14 : True := by
  w_top off
  k_with_none
  trivial
namespace Mine
section
theorem kwW14_1 : True := by
  k_with "call ref" => ((k_here; (with_reducible show wpAny _ _ (call (Value.ref 579) _) _ _ _); refine hold_mk ?_))
  trivial
theorem noted_ok {w : World} {p : Program} {loose : List Str} {mean : ExcName → Option Value} {mg mb : Str → Option Value}
    {dp un : Nat} {gd : Option (List Code)} {cn : Str} {cs : Scope} {a : Addr} {ccd : Value} {cl : List (Str × Addr)} {outer : List Env} {A₀ : Around} {base h₀ : Heap} {L : Addr} {m : Str → Option Value} {s : Shared} {Q E : Value → Shared → Prop}
    (B : Below A₀ base outer h₀) (F : Fr h₀ L s.heap m) (X : (hd.heap_1 w.params).In h₀) (T : Top p loose mean mg mb h₀) (hk : cs.kind = .function)
    {PL : Addr} {pl : Plan} {rest : List (Addr × Obj)} (N : News h₀ L s.heap rest) (hP : DatIn rest (.ref PL) (planDat pl)) (W : Well pl) (hlen : (say pl 0).1.length ≤ 1000) (hd : dp + 12 < recursionLimit) (hu : un + 100 < cLine)
    (ret : ∀ D nl nk ivs P' n' tkr h' tk', Fr h₀ L h' m → News h₀ L h' ((D, ({ cls := .type "tuple", data := .seq #[Value.ref nl, Value.str (Str.ofString "RG") tkr, Value.ref P'] } : Obj)) :: (P', listOf #[] n') :: (nl, listOf (List.toArray ivs) nk) :: rest) → IntsAre ivs ((say pl 0).1.map fun (k : Nat) => (k : Int)) → Q (.ref D) { s with heap := h', toks := tk' }) :
    wpAny (model PySem.Challenge.pw_pq0183_01 w) (ktrTop dp un gd cn cs L a ccd cl outer) (call (.ref 596) [.ref PL]) Q E s := by
  refine wpAny_call ?_
  k_dflt ktr_enter
  k_steps
  unfold Hold
  rename News _ _ _ _ => kN
  rename ∀ p ∈ rest, p.1 < _ => l1
  k_dflt (refine' told_ok (pl := pl) W 6 (nvs := []) (i := 0) ?B ?F ?X ?T ?hk kN hP (fun x hx => Nat.ne_of_lt (l1 x hx)) W.pos ?hf (by simpa using hlen) ?hd ?hu ?_)
  case B => k_asm
  case F => k_asm
  case X => k_asm
  case T => k_asm
  case hk => exact rfl
  case hf => have := W.many; omega
  case hd => ktr_room
  case hu => ktr_units
  clear kN
  intro v nvs2 n' h2 tk2 F2 N2 I2 G2
  k_steps
  rename News h₀ L _ _ => kN
  exact ret _ _ _ _ _ _ _ _ _ (by assumption) kN (by simpa using I2)
end
end Mine
end
end
-- LW0
section
namespace Mine
def fixP : Plan := [⟨[1], none⟩, ⟨[2], none⟩, ⟨[], some 3⟩, ⟨[], none⟩]
theorem fix_well : Well fixP := by
  refine ⟨by decide, by decide, ?_, ?_, ?_⟩ <;> intro i l h
  all_goals
    rcases i with _ | _ | _ | _ | i
    all_goals
      first
      | (simp only [fixP, List.getElem?_cons_zero, List.getElem?_cons_succ, Option.some.injEq] at h; subst h; simp [fixP])
      | simp [fixP] at h
theorem fix_runs : Comes fixP ⟨0, [], []⟩ 848 [] [0, 1, 2, 3] none := runs fix_well
/-- a ledger without what stands at a -/
theorem at_out {h₀ h : Heap} {L : Addr} {news : List (Addr × Obj)} {a : Addr} {o : Obj} (N : News h₀ L h news) (hm : (a, o) ∈ news) : ∃ l' : List (Addr × Obj), News h₀ L h ((a, o) :: l') ∧ (∀ x ∈ news, x ≠ (a, o) → x ∈ l') ∧ ∀ x ∈ l', x.1 ≠ a := by
  refine ⟨news.filter (fun (x : Addr × Obj) => x.1 ≠ a), newsSub N fun x hx => ?_, fun x hx hx2 => List.mem_filter.mpr ⟨hx, decide_eq_true fun z => hx2 ?_⟩, fun x hx => of_decide_eq_true (List.mem_filter.mp hx).2⟩
  · rcases List.mem_cons.mp hx with rfl | hx
    · exact hm
    · exact (List.mem_filter.mp hx).1
  · have e1 := (N x hx).1
    have e2 := (N _ hm).1
    rw [z] at e1
    exact Prod.ext z (Option.some.inj (e1.symm.trans e2))
theorem not_tab {x : Addr × Obj} {ps : Array Value} (h : x.2.cls ≠ .none) : x ≠ tabG ps := fun z => h (by rw [z])
theorem ints_last : ∀ {xs : List Int} {ws : List Value}, IntsAre ws (xs ++ [0]) → ∃ vs t, ws = vs ++ [Value.int 0 t] ∧ IntsAre vs xs
  | [], _, h => by
    cases h with
    | cons k t r => cases r; exact ⟨[], t, rfl, .nil⟩
  | x :: xs, _, h => by
    cases h with
    | cons k t r =>
      obtain ⟨vs, t', rfl, q⟩ := ints_last r
      exact ⟨_ :: vs, t', rfl, .cons _ _ q⟩
theorem say_lt {p : Plan} (W : Well p) : ∀ (f i : Nat), i < p.length → ∀ k ∈ (tell p f i).1, k < p.length
  | 0, _, _, k, h => by simp [tell] at h
  | f + 1, i, hi, k, h => by
    obtain ⟨l, hl⟩ : ∃ l, p[i]? = some l := ⟨_, List.getElem?_eq_getElem hi⟩
    have hcs : ∀ cs : List Nat, (∀ c ∈ cs, i < c ∧ c < p.length) → ∀ k ∈ (tellCalls (tell p f) cs).1, k < p.length := by
      intro cs
      induction cs with
      | nil => intro _ k h; simp [tellCalls] at h
      | cons c cs ih =>
        intro hc k h
        cases hq : (tell p f c).2 with
        | none =>
          rw [tellCalls_none hq] at h
          rcases List.mem_append.mp h with h | h
          · exact say_lt W f c (hc c (by simp)).2 k h
          · exact ih (fun x hx => hc x (by simp [hx])) k h
        | some g =>
          rw [tellCalls_some hq] at h
          exact say_lt W f c (hc c (by simp)).2 k h
    rw [tell_unf p f i l hl] at h
    rcases List.mem_cons.mp h with rfl | h
    · exact hi
    · cases hq : (tellCalls (tell p f) l.calls).2 with
      | none => rw [hq] at h; exact hcs _ (W.calls i l hl) k h
      | some g =>
        rw [hq] at h
        rcases List.mem_append.mp h with h | h
        · exact hcs _ (W.calls i l hl) k h
        · exact say_lt W f g (calls_goal W f (W.calls i l hl) hq).2 k h
theorem say_few {p : Plan} (W : Well p) : (say p 0).1.length ≤ 1000 := by
  obtain ⟨k, a, hk, hi, _⟩ := runs W
  have := iter_notes hi
  simp only [List.length_nil] at this
  exact Nat.le_trans this (by omega)
section
variable {h₀ h : Heap} {L D nl P D' nl' P' : Addr} {news : List (Addr × Obj)} {ivs jvs : List Value} {ns ms : List Int} {nk n nk' n' : Nat} {tk tk' : Tok}
def ResIn (news : List (Addr × Obj)) (D nl P : Addr) (ivs : List Value) (nk n : Nat) (tk : Tok) : Prop :=
  (D, ({ cls := .type "tuple", data := .seq #[Value.ref nl, Value.str (Str.ofString "RG") tk, Value.ref P] } : Obj)) ∈ news ∧ (nl, listOf ivs.toArray nk) ∈ news ∧ (P, listOf #[] n) ∈ news
def resD (ns : List Int) : PyData := .tuple [.list (ns.map PyData.int), .str (Str.ofString "RG"), .list []]
theorem res_reads (N : News h₀ L h news) (m : ResIn news D nl P ivs nk n tk) (I : IntsAre ivs ns) : ∃ as, Reads h (.ref D) (resD ns) as := by
  obtain ⟨m1, m2, m3⟩ := m
  exact ⟨_, reads_tuple_at (N.get m1) rfl rfl (.cons (reads_newData (N.isList m2) (ke_carried I)) (.cons (.str _ _) (.cons (reads_list_at (N.get m3) rfl rfl .nil) .nil)))⟩
theorem res_shaped (ns : List Int) : SeqAt.shaped (resD ns) = true := by
  have e : PyData.strOk (Str.ofString "RG") = true := by decide +kernel
  simp [resD, SeqAt.shaped, PyData.canLay0, PyData.canLayAll0, PyData.depth, PyData.depthAll, ke_canLayAll0, ke_depthAll, e]
theorem res_eqv (ns ms : List Int) : PyData.eqv (resD ns) (resD ms) = decide (ns = ms) := by
  simp [resD, PyData.eqv, PyData.eqvAll, ked_eqvAll]
variable {prog : Program} {w : World} {A : Around} {E Q : Value → Shared → Prop} {s : Shared}
theorem res_ne (N : News h₀ L s.heap news) (m : ResIn news D nl P ivs nk n tk) (m' : ResIn news D' nl' P' jvs nk' n' tk') (I : IntsAre ivs ns) (J : IntsAre jvs ns) (hu : A.units + 64 < cLine) (h : Q (.bool false) s) :
    wpAny (model prog w) A (compareOp .NotEq (.ref D) (.ref D')) Q E s := by
  obtain ⟨as, r⟩ := res_reads N m I
  obtain ⟨bs, r'⟩ := res_reads N m' J
  exact ne_dataH r r' (res_shaped _) (res_shaped _) hu (by rw [res_eqv, decide_eq_true rfl]; exact h)
theorem res_eq (N : News h₀ L s.heap news) (m : ResIn news D nl P ivs nk n tk) (m' : ResIn news D' nl' P' jvs nk' n' tk') (I : IntsAre ivs ns) (J : IntsAre jvs ns) (hu : A.units + 64 < cLine) (h : Q (.bool true) s) :
    wpAny (model prog w) A (compareOp .Eq (.ref D) (.ref D')) Q E s := by
  obtain ⟨as, r⟩ := res_reads N m I
  obtain ⟨bs, r'⟩ := res_reads N m' J
  exact eq_dataH r r' (res_shaped _) (res_shaped _) hu (by rw [res_eqv, decide_eq_true rfl]; exact h)
end
end Mine
end
-- LW
section
theorem Mine.offLW : True := by
  w_top off
  k_with_none
  trivial
namespace Mine
section
local macro_rules | `(tactic| walk_at "call ref") => `(tactic| (k_here; refine hold_mk ?_))
local macro_rules | `(tactic| walk_at "compareOp NotEq ref ref") => `(tactic| (k_here; refine hold_mk ?_))
local macro_rules | `(tactic| walk_at "compareOp Eq ref ref") => `(tactic| (k_here; refine hold_mk ?_))
theorem law_holds : PySem.Challenge.rw_pq0183_01.Holds := Mine.hd (by
  k_go0
  k_steps
  unfold Hold
  rename_i t wst h11 hIt l9 h10 tk0 l4 h9 l8 D3 h8 l7 l3 h7 l6 D2 h6 l5 l2 h5 l4' D1 h4 l3' l1a h3 l2' D0 h2 l1b l0 h1 l1c hh FF NN
  obtain ⟨vs, tz, rfl, hIv⟩ := ints_last hIt
  obtain ⟨r0, N0, k0, o0⟩ := at_out (a := 586) (o := tabObj #[]) NN (by k_mem)
  have hP0 : DatIn r0 (.ref l0) (planDat fixP) := by
    refine DatIn.list (n := 0) (vs := [_, _, _, _]) (k0 _ (by k_mem) (not_tab nofun)) ?_
    refine .cons (.tuple (n := 0) (vs := [_, _]) (k0 _ (by k_mem) (not_tab nofun)) (.cons (.list (n := 0) (vs := [_]) (k0 _ (by k_mem) (not_tab nofun)) (.cons (.int 1 _) .nil)) (.cons .none .nil))) ?_
    refine .cons (.tuple (n := 0) (vs := [_, _]) (k0 _ (by k_mem) (not_tab nofun)) (.cons (.list (n := 0) (vs := [_]) (k0 _ (by k_mem) (not_tab nofun)) (.cons (.int 2 _) .nil)) (.cons .none .nil))) ?_
    refine .cons (.tuple (n := 0) (vs := [_, _]) (k0 _ (by k_mem) (not_tab nofun)) (.cons (.list (n := 0) (vs := []) (k0 _ (by k_mem) (not_tab nofun)) .nil) (.cons (.int 3 _) .nil))) ?_
    exact .cons (.tuple (n := 0) (vs := [_, _]) (k0 _ (by k_mem) (not_tab nofun)) (.cons (.list (n := 0) (vs := []) (k0 _ (by k_mem) (not_tab nofun)) .nil) (.cons .none .nil))) .nil
  have tin0 := k0 (t, listOf (vs ++ [Value.int 0 tz]).toArray _) (by k_mem) (not_tab nofun)
  have hlen : vs.length ≤ 40 := by
    rw [IntsAre.length hIv, List.length_map, List.length_take]
    exact Nat.min_le_left _ _
  k_dflt (refine' gone_ok (pl := fixP) (notes := [0, 1, 2, 3]) (g0 := none) ?B ?F ?X ?T ?hk N0 (.inl rfl) ?C o0 ?hN6 hP0 fix_well ?hd ?hu fix_runs ?_)
  case B => k_asm
  case F => k_asm
  case X => k_asm
  case T => k_asm
  case hk => exact rfl
  case C => assumption
  case hN6 => decide
  case hd => decide
  case hu => decide
  clear NN N0 hP0 FF
  intro ps2 Dr nl2 nk2 ivs2 P2 n2 tkr2 rest2 h2' tk2 F2 N2 hps2 o2 hs2 I2
  have tin := hs2 _ tin0 nofun
  have hne2 : t ≠ 586 := o2 _ tin
  have N3 := newsSub (l' := [(Dr, _), (nl2, _), (P2, _), tabG ps2, (t, _)]) N2 (fun x hx => by
    simp only [List.mem_cons, List.not_mem_nil, or_false] at hx ⊢
    rcases hx with z | z | z | z | z
    · exact .inl z
    · exact .inr (.inl z)
    · exact .inr (.inr (.inl z))
    · exact .inr (.inr (.inr (.inl z)))
    · exact .inr (.inr (.inr (.inr (z ▸ tin)))))
  clear N2
  clear k0 o0 o2 hs2 tin0 tin
  k_steps
  unfold Hold
  rename News _ _ _ _ => kN
  k_dflt (refine' res_ne kN ⟨?m1, ?m2, ?m3⟩ ⟨?m4, ?m5, ?m6⟩ I2 ?J ?hu ?_)
  case m1 => k_mem
  case m2 => k_mem
  case m3 => k_mem
  case m4 => k_mem
  case m5 => exact List.mem_cons_of_mem _ (List.mem_cons_of_mem _ List.mem_cons_self)
  case m6 => k_mem
  case J => exact .cons _ _ (.cons _ _ (.cons _ _ (.cons _ _ .nil)))
  case hu => ke_room
  k_steps
  unfold Hold
  obtain ⟨r3, N4, k3, o3⟩ := at_out (a := t) kN (List.mem_cons_of_mem _ (List.mem_cons_of_mem _ (List.mem_cons_of_mem _ (List.mem_cons_of_mem _ (List.mem_cons_of_mem _ (List.mem_cons_of_mem _ (List.mem_cons_of_mem _ List.mem_cons_self)))))))
  have tab3 : tabG ps2 ∈ r3 := k3 _ (by k_mem) (fun z => hne2 (congrArg Prod.fst z).symm)
  clear kN k3
  k_dflt (refine' plan_ok ?B ?F ?X ?T ?hk N4 hIv (Int.le_refl _) ?hs1 hlen o3 ?hd ?hu ?_)
  case B => k_asm
  case F => k_asm
  case X => k_asm
  case T => k_asm
  case hk => exact rfl
  case hs1 => decide
  case hd => decide
  case hu => decide
  clear N4 o3
  intro pl PL pvs fk n4 spot4 tk4 r4 h4' tk5 F4 N5 hs4 o4 D4 W4
  have tab4 := hs4 _ tab3
  clear hs4
  k_steps
  unfold Hold
  rename News _ _ _ _ => kN
  obtain ⟨r5, N6, k5, o5⟩ := at_out (a := 586) kN (List.mem_cons_of_mem _ (List.mem_cons_of_mem _ tab4))
  have hP5 : DatIn r5 (.ref PL) (planDat pl) := .list (k5 _ List.mem_cons_self (not_tab nofun)) (DatAll.kept (fun x hx hc => k5 x (List.mem_cons_of_mem _ (List.mem_cons_of_mem _ hx)) (not_tab hc)) D4)
  clear kN k5
  k_dflt (refine' gone_ok (notes := (say pl 0).1) (g0 := (say pl 0).2) ?B ?F ?X ?T ?hk N6 hps2 ?C o5 ?hN6 hP5 W4 ?hd ?hu (runs W4) ?_)
  case B => k_asm
  case F => k_asm
  case X => k_asm
  case T => k_asm
  case hk => exact rfl
  case C => assumption
  case hN6 => exact fun k hk => Nat.lt_of_lt_of_le (say_lt W4 6 0 W4.pos k hk) W4.many
  case hd => decide
  case hu => decide
  clear N6 o5
  intro ps7 D7 nl7 nk7 ivs7 P7 n7 tkr7 rest7 h7' tk7 F7 N7 hps7 o7 hs7 I7
  have hP7 : DatIn rest7 (.ref PL) (planDat pl) := DatIn.kept hs7 hP5
  clear hs7 o7 hP5
  k_steps
  unfold Hold
  rename News _ _ _ _ => kN
  k_dflt (refine' noted_ok ?B ?F ?X ?T ?hk kN (DatIn.mono ?sub hP7) W4 (say_few W4) ?hd ?hu ?_)
  case B => k_asm
  case F => k_asm
  case X => k_asm
  case T => k_asm
  case hk => exact rfl
  case sub => exact fun x hx => List.mem_cons_of_mem _ (List.mem_cons_of_mem _ (List.mem_cons_of_mem _ (List.mem_cons_of_mem _ hx)))
  case hd => decide
  case hu => decide
  clear kN
  intro D8 nl8 nk8 ivs8 P8 n8 tkr8 h8' tk8 F8 N8 I8
  k_steps
  unfold Hold
  rename News _ _ _ _ => kN
  k_dflt (refine' res_eq kN ⟨?m1, ?m2, ?m3⟩ ⟨?m4, ?m5, ?m6⟩ I7 I8 ?hu ?_)
  case m1 => k_mem
  case m2 => k_mem
  case m3 => exact List.mem_cons_of_mem _ (List.mem_cons_of_mem _ (List.mem_cons_of_mem _ (List.mem_cons_of_mem _ (List.mem_cons_of_mem _ List.mem_cons_self))))
  case m4 => k_mem
  case m5 => k_mem
  case m6 => k_mem
  case hu => ke_room
  k_steps)
end
end Mine
end
theorem PySem.Challenge.cw_pq0183_01_holds : PySem.Challenge.rw_pq0183_01.Holds :=
  Mine.law_holds
