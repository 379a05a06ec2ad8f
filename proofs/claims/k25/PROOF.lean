import PyProof.Rows.All
import Wide.All
import OpenK.AllK
import Wide.FinOn
import HandS.ForMost
import KE.GoesEnum
import KE.GoesMore
import HandS.Zip
import HandS.Walk
import HandS.TupAny
import HandS.NoneIn
import HandS.IsInst
import HandS.Evl
import HandS.Style
import HandS.Finally
import HandS.More
import HandS.ForExc
import HandS.ExcInit
import HandS.Exc
import HandS.ExcOwn
import HandS.WordsExc
import HandS.TryOnly
import KE.KExcIs
import HandS.CallLocal
import HandS.ExcField
import HandS.Ends
import HandS.Conv
import PySem.Challenge.RW_turnback_k25_whole_rings_of_waits
section
/-! The mathematics of a walker's going: plain Lean, no program in sight. -/
set_option autoImplicit false
set_option linter.all false
namespace Tb

abbrev Row := List (Option Nat)
abbrev Web := List Row

inductive Deed where
  | skip (x c : Nat)
  | down (x c : Nat)
  | up (x : Nat)
  | stop (x : Nat)
  deriving DecidableEq

def Deed.isDown : Deed → Bool
  | .down _ _ => true
  | _ => false

def rowAt (W : Web) (x : Nat) : Row := W.getD x []
def tieAt (W : Web) (x c : Nat) : Option Nat := (rowAt W x).getD c none
def markAt (M : List Nat) (x : Nat) : Nat := M.getD x 0

/-- a walker: its stand (the top first), the nodes it has come to -/
structure Wk where
  S : List (Nat × Nat)
  G : List Nat
  deriving DecidableEq

def step (W : Web) (M : List Nat) (me : Nat) : Wk → Option (Deed × Wk)
  | ⟨[], _⟩ => none
  | ⟨(x, c) :: R, G⟩ =>
    if c = (rowAt W x).length then
      match R with
      | [] => some (.stop x, ⟨[], G⟩)
      | (y, d) :: R' => some (.up x, ⟨(y, d + 1) :: R', G⟩)
    else
      match tieAt W x c with
      | none => some (.skip x c, ⟨(x, c + 1) :: R, G⟩)
      | some t => if markAt M t ≠ me ∨ t ∈ G then some (.skip x c, ⟨(x, c + 1) :: R, G⟩) else some (.down x c, ⟨(t, 0) :: (x, c) :: R, G ++ [t]⟩)

def Chain (W : Web) (M : List Nat) (me : Nat) : Wk → List (Deed × Wk) → Prop
  | _, [] => True
  | s, p :: r => step W M me s = some p ∧ Chain W M me p.2 r

def endOf : Wk → List (Deed × Wk) → Wk
  | s, [] => s
  | _, p :: r => endOf p.2 r

/-- what is below the top counts the tie it went down by -/
def up1 (p : Nat × Nat) : Nat × Nat := (p.1, p.2 + 1)
def conv : List (Nat × Nat) → List (Nat × Nat)
  | [] => []
  | p :: r => p :: r.map up1

theorem key_uniq {β : Type} : ∀ {L : List (Nat × β)} {x : Nat} {a b : β}, (L.map (·.1)).Nodup → (x, a) ∈ L → (x, b) ∈ L → a = b
  | [], _, _, _, _, h, _ => by cases h
  | p :: L, x, a, b, nd, h1, h2 => by
    have nd2 : p.1 ∉ L.map (·.1) ∧ (L.map (·.1)).Nodup := by
      rw [List.map_cons] at nd
      exact List.nodup_cons.mp nd
    rcases List.mem_cons.mp h1 with e | h1
    · rcases List.mem_cons.mp h2 with e2 | h2
      · rw [← e] at e2
        exact (Prod.mk.inj e2).2.symm
      · exact absurd (List.mem_map.mpr ⟨_, h2, by rw [← e]⟩) nd2.1
    · rcases List.mem_cons.mp h2 with e2 | h2
      · exact absurd (List.mem_map.mpr ⟨_, h1, by rw [← e2]⟩) nd2.1
      · exact key_uniq nd2.2 h1 h2
theorem up1_keys (R : List (Nat × Nat)) : (R.map up1).map (·.1) = R.map (·.1) := by simp [up1, Function.comp_def]
theorem conv_keys : ∀ S : List (Nat × Nat), (conv S).map (·.1) = S.map (·.1)
  | [] => rfl
  | p :: r => by simp [conv, up1, Function.comp_def]

/-- each but the top was left by the tie that leads to the one above -/
def Linked (W : Web) : List (Nat × Nat) → Prop
  | [] => True
  | [_] => True
  | p :: q :: r => q.2 < (rowAt W q.1).length ∧ tieAt W q.1 q.2 = some p.1 ∧ Linked W (q :: r)

structure WInv (W : Web) (M : List Nat) (me root : Nat) (s : Wk) : Prop where
  nd : (s.S.map (·.1)).Nodup
  sub : ∀ p ∈ s.S, p.1 ∈ s.G
  cnt : ∀ p ∈ s.S, p.2 ≤ (rowAt W p.1).length
  link : Linked W s.S
  bot : ∀ p, s.S.getLast? = some p → p.1 = root
  gnd : s.G.Nodup
  own : ∀ x ∈ s.G, markAt M x = me ∧ x < W.length
  rin : root ∈ s.G
  off : ∀ x ∈ s.G, x ∉ s.S.map (·.1) → ∀ c t, tieAt W x c = some t → markAt M t = me → t ∈ s.G
  onn : ∀ p ∈ conv s.S, ∀ c, c < p.2 → ∀ t, tieAt W p.1 c = some t → markAt M t = me → t ∈ s.G

/-- the web's ties lead to its nodes -/
def TiesIn (W : Web) : Prop := ∀ x c t, tieAt W x c = some t → t < W.length

theorem tie_lt {W : Web} {x c t : Nat} (h : tieAt W x c = some t) : c < (rowAt W x).length := by
  unfold tieAt at h
  by_cases hc : c < (rowAt W x).length
  · exact hc
  · rw [List.getD_eq_getElem?_getD, List.getElem?_eq_none (by omega)] at h
    cases h

theorem inv_start {W : Web} {M : List Nat} {me root : Nat} (h1 : markAt M root = me) (h2 : root < W.length) : WInv W M me root ⟨[(root, 0)], [root]⟩ where
  nd := by simp
  sub := by simp
  cnt := by simp
  link := trivial
  bot := by simp
  gnd := by simp
  own := by
    intro x hx
    have : x = root := by simpa using hx
    subst this
    exact ⟨h1, h2⟩
  rin := by simp
  off := by
    intro x hx hn
    have : x = root := by simpa using hx
    subst this
    exact absurd (by simp) hn
  onn := by
    intro p hp c hc
    have : p = (root, 0) := by simpa [conv] using hp
    subst this
    exact absurd hc (Nat.not_lt_zero _)

theorem Linked.tail {W : Web} {p : Nat × Nat} {r : List (Nat × Nat)} (h : Linked W (p :: r)) : Linked W r := by
  cases r with
  | nil => trivial
  | cons q r => exact h.2.2
theorem Linked.top {W : Web} {p p' : Nat × Nat} {r : List (Nat × Nat)} (h : Linked W (p :: r)) (e : p.1 = p'.1) : Linked W (p' :: r) := by
  cases r with
  | nil => trivial
  | cons q r => exact ⟨h.1, by rw [← e]; exact h.2.1, h.2.2⟩

theorem last_top {p p' : Nat × Nat} {r : List (Nat × Nat)} (e : p.1 = p'.1) {root : Nat} (h : ∀ q, (p :: r).getLast? = some q → q.1 = root) : ∀ q, (p' :: r).getLast? = some q → q.1 = root := by
  cases r with
  | nil =>
    intro q hq
    have h1 := h p (by simp)
    have : p' = q := by simpa using hq
    rw [← this, ← e]
    exact h1
  | cons a r =>
    intro q hq
    apply h q
    rw [List.getLast?_cons_cons] at hq ⊢
    exact hq

theorem inv_step {W : Web} {M : List Nat} {me root : Nat} (T : TiesIn W) {s s' : Wk} {d : Deed} (I : WInv W M me root s) (h : step W M me s = some (d, s')) : WInv W M me root s' := by
  obtain ⟨S, G⟩ := s
  cases S with
  | nil => simp [step] at h
  | cons p R =>
    obtain ⟨x, c⟩ := p
    have ndx : x ∉ R.map (·.1) ∧ (R.map (·.1)).Nodup := by
      have := I.nd
      simpa using this
    unfold step at h
    dsimp only at h
    by_cases hc : c = (rowAt W x).length
    · rw [if_pos hc] at h
      cases R with
      | nil =>
        simp only [Option.some.injEq, Prod.mk.injEq] at h
        obtain ⟨rfl, rfl⟩ := h
        refine ⟨by simp, by simp, by simp, trivial, by simp, I.gnd, I.own, I.rin, ?_, by simp [conv]⟩
        intro y hy _ c' t ht hm
        by_cases e : y = x
        · subst e
          exact I.onn (y, c) (by simp [conv]) c' (by have := tie_lt ht; simp only; omega) t ht hm
        · exact I.off y hy (by simpa using e) c' t ht hm
      | cons q R =>
        obtain ⟨y, k⟩ := q
        simp only [Option.some.injEq, Prod.mk.injEq] at h
        obtain ⟨rfl, rfl⟩ := h
        have hl := I.link
        refine ⟨?_, ?_, ?_, ?_, ?_, I.gnd, I.own, I.rin, ?_, ?_⟩
        · simpa using ndx.2
        · intro p hp
          rcases List.mem_cons.mp hp with e | hp
          · subst e
            exact I.sub (y, k) (by simp)
          · exact I.sub p (by simp [hp])
        · intro p hp
          rcases List.mem_cons.mp hp with e | hp
          · subst e
            exact hl.1
          · exact I.cnt p (by simp [hp])
        · exact Linked.top (p := (y, k)) hl.tail rfl
        · apply last_top (p := (y, k)) (p' := (y, k + 1)) rfl
          intro q hq
          apply I.bot q
          show ((x, c) :: (y, k) :: R).getLast? = some q
          rw [List.getLast?_cons_cons]
          exact hq
        · intro z hz hn c' t ht hm
          by_cases e : z = x
          · subst e
            exact I.onn (z, c) (by simp [conv]) c' (by have := tie_lt ht; simp only; omega) t ht hm
          · refine I.off z hz ?_ c' t ht hm
            simp only [List.map_cons, List.mem_cons, not_or] at hn ⊢
            exact ⟨e, hn⟩
        · intro p hp
          apply I.onn p
          show p ∈ (x, c) :: ((y, k) :: R).map up1
          exact List.mem_cons_of_mem _ hp
    · rw [if_neg hc] at h
      have hlt : c < (rowAt W x).length := Nat.lt_of_le_of_ne (I.cnt (x, c) (by simp)) hc
      have skip : (∀ t, tieAt W x c = some t → markAt M t = me → t ∈ G) → WInv W M me root ⟨(x, c + 1) :: R, G⟩ := by
        intro hk
        refine ⟨by simpa using I.nd, ?_, ?_, Linked.top (p := (x, c)) I.link rfl, last_top (p := (x, c)) (p' := (x, c + 1)) rfl I.bot, I.gnd, I.own, I.rin, ?_, ?_⟩
        · intro p hp
          rcases List.mem_cons.mp hp with e | hp
          · subst e
            exact I.sub (x, c) (by simp)
          · exact I.sub p (by simp [hp])
        · intro p hp
          rcases List.mem_cons.mp hp with e | hp
          · subst e
            exact hlt
          · exact I.cnt p (by simp [hp])
        · intro y hy hn
          exact I.off y hy (by simpa using hn)
        · intro p hp c' hc' t ht hm
          rcases List.mem_cons.mp hp with e | hp
          · subst e
            by_cases e : c' = c
            · subst e
              exact hk t ht hm
            · exact I.onn (x, c) (by simp [conv]) c' (by simp only at hc' ⊢; omega) t ht hm
          · exact I.onn p (List.mem_cons_of_mem _ hp) c' hc' t ht hm
      cases ht : tieAt W x c with
      | none =>
        rw [ht] at h
        simp only [Option.some.injEq, Prod.mk.injEq] at h
        obtain ⟨rfl, rfl⟩ := h
        apply skip
        intro t h'
        rw [ht] at h'
        cases h'
      | some t =>
        rw [ht] at h
        simp only at h
        by_cases hm : markAt M t ≠ me ∨ t ∈ G
        · rw [if_pos hm] at h
          simp only [Option.some.injEq, Prod.mk.injEq] at h
          obtain ⟨rfl, rfl⟩ := h
          apply skip
          intro t' h' hm'
          rw [ht] at h'
          cases h'
          rcases hm with z | z
          · exact absurd hm' z
          · exact z
        · rw [if_neg hm] at h
          simp only [Option.some.injEq, Prod.mk.injEq] at h
          obtain ⟨rfl, rfl⟩ := h
          have hm1 : markAt M t = me := Classical.byContradiction fun z => hm (.inl z)
          have hm2 : t ∉ G := fun z => hm (.inr z)
          have hnt : t ∉ ((x, c) :: R).map (·.1) := by
            intro z
            obtain ⟨p, hp, e⟩ := List.mem_map.mp z
            subst e
            exact hm2 (I.sub p hp)
          refine ⟨?_, ?_, ?_, ⟨hlt, ht, I.link⟩, ?_, ?_, ?_, by simp [I.rin], ?_, ?_⟩
          · show (t :: ((x, c) :: R).map (·.1)).Nodup
            exact List.nodup_cons.mpr ⟨hnt, I.nd⟩
          · intro p hp
            rcases List.mem_cons.mp hp with e | hp
            · subst e
              simp
            · exact List.mem_append_left _ (I.sub p hp)
          · intro p hp
            rcases List.mem_cons.mp hp with e | hp
            · subst e
              exact Nat.zero_le _
            · exact I.cnt p hp
          · intro q hq
            apply I.bot q
            show ((x, c) :: R).getLast? = some q
            have hq' : ((t, 0) :: (x, c) :: R).getLast? = some q := hq
            rw [List.getLast?_cons_cons] at hq'
            exact hq'
          · rw [List.nodup_append]
            refine ⟨I.gnd, by simp, ?_⟩
            intro a ha b hb
            have : b = t := by simpa using hb
            subst this
            intro e
            subst e
            exact hm2 ha
          · intro y hy
            rcases List.mem_append.mp hy with hy | hy
            · exact I.own y hy
            · have : y = t := by simpa using hy
              subst this
              exact ⟨hm1, T _ _ _ ht⟩
          · intro y hy hn c' t' ht' hmt
            have hne : y ≠ t ∧ y ∉ ((x, c) :: R).map (·.1) := by
              constructor
              · intro e
                subst e
                exact hn (by simp)
              · intro z
                exact hn (by simp only [List.map_cons, List.mem_cons] at z ⊢; exact .inr z)
            rcases List.mem_append.mp hy with hy | hy
            · exact List.mem_append_left _ (I.off y hy hne.2 c' t' ht' hmt)
            · exact absurd (by simpa using hy) hne.1
          · intro p hp c' hc' t' ht' hmt
            have hp' : p = (t, 0) ∨ p = (x, c + 1) ∨ p ∈ R.map up1 := by simpa [conv, up1] using hp
            rcases hp' with e | e | hp'
            · subst e
              exact absurd hc' (Nat.not_lt_zero _)
            · subst e
              by_cases e : c' = c
              · subst e
                simp only at ht'
                rw [ht] at ht'
                cases ht'
                simp
              · exact List.mem_append_left _ (I.onn (x, c) (by simp [conv]) c' (by simp only at hc' ⊢; omega) t' ht' hmt)
            · exact List.mem_append_left _ (I.onn p (by simp [conv, hp']) c' hc' t' ht' hmt)

theorem inv_chain {W : Web} {M : List Nat} {me root : Nat} (T : TiesIn W) : ∀ {R : List (Deed × Wk)} {s : Wk}, WInv W M me root s → Chain W M me s R → WInv W M me root (endOf s R)
  | [], _, I, _ => I
  | (d, s') :: r, s, I, h => inv_chain (R := r) (s := s') T (inv_step T I h.1) h.2

theorem endOf_append : ∀ (R R' : List (Deed × Wk)) (s : Wk), endOf s (R ++ R') = endOf (endOf s R) R'
  | [], _, _ => rfl
  | p :: r, R', s => endOf_append r R' p.2
theorem chain_append {W : Web} {M : List Nat} {me : Nat} : ∀ {R R' : List (Deed × Wk)} {s : Wk}, Chain W M me s (R ++ R') ↔ Chain W M me s R ∧ Chain W M me (endOf s R) R'
  | [], _, _ => by simp [Chain, endOf]
  | p :: r, R', s => by
    simp only [List.cons_append, Chain, endOf]
    rw [chain_append (R := r)]
    constructor
    · rintro ⟨a, b, c⟩
      exact ⟨⟨a, b⟩, c⟩
    · rintro ⟨⟨a, b⟩, c⟩
      exact ⟨a, b, c⟩

/-- the number that falls: ten for each node not come to, nine less the count for each of the stand -/
def mu (W : Web) (s : Wk) : Nat := 10 * (W.length - s.G.length) + ((conv s.S).map fun p => 9 - p.2).sum

theorem erase_len {x : Nat} {l : List Nat} (h : x ∈ l) : (l.erase x).length + 1 = l.length := by
  have := List.length_erase_of_mem h
  have h0 : 0 < l.length := List.length_pos_of_mem h
  omega
theorem nodup_sub_le : ∀ {G L : List Nat}, G.Nodup → (∀ x ∈ G, x ∈ L) → G.length ≤ L.length
  | [], _, _, _ => Nat.zero_le _
  | x :: G, L, hn, h => by
    have h1 : x ∈ L := h x (by simp)
    have h2 := nodup_sub_le (G := G) (L := L.erase x) (List.nodup_cons.mp hn).2 (fun y hy => by
      have ne : y ≠ x := fun e => (List.nodup_cons.mp hn).1 (e ▸ hy)
      exact (List.mem_erase_of_ne ne).mpr (h y (by simp [hy])))
    have h3 := erase_len h1
    rw [List.length_cons]
    omega
theorem nodup_le {n : Nat} {G : List Nat} (hn : G.Nodup) (h : ∀ x ∈ G, x < n) : G.length ≤ n := by
  have := nodup_sub_le (L := List.range n) hn fun x hx => List.mem_range.mpr (h x hx)
  simpa using this

theorem mu_step {W : Web} {M : List Nat} {me root : Nat} (T : TiesIn W) (h8 : ∀ x, (rowAt W x).length ≤ 8) {s s' : Wk} {d : Deed} (I : WInv W M me root s) (h : step W M me s = some (d, s')) : mu W s' < mu W s := by
  have I' := inv_step T I h
  have hG' := nodup_le I'.gnd fun x hx => (I'.own x hx).2
  obtain ⟨S, G⟩ := s
  cases S with
  | nil => simp [step] at h
  | cons p R =>
    obtain ⟨x, c⟩ := p
    have hx8 := h8 x
    unfold step at h
    dsimp only at h
    by_cases hc : c = (rowAt W x).length
    · rw [if_pos hc] at h
      cases R with
      | nil =>
        simp only [Option.some.injEq, Prod.mk.injEq] at h
        obtain ⟨rfl, rfl⟩ := h
        simp [mu, conv]
        omega
      | cons q R =>
        obtain ⟨y, k⟩ := q
        simp only [Option.some.injEq, Prod.mk.injEq] at h
        obtain ⟨rfl, rfl⟩ := h
        simp [mu, conv, up1]
        omega
    · rw [if_neg hc] at h
      have hlt : c < (rowAt W x).length := Nat.lt_of_le_of_ne (I.cnt (x, c) (by simp)) hc
      cases ht : tieAt W x c with
      | none =>
        rw [ht] at h
        simp only [Option.some.injEq, Prod.mk.injEq] at h
        obtain ⟨rfl, rfl⟩ := h
        simp [mu, conv]
        omega
      | some t =>
        rw [ht] at h
        simp only at h
        by_cases hm : markAt M t ≠ me ∨ t ∈ G
        · rw [if_pos hm] at h
          simp only [Option.some.injEq, Prod.mk.injEq] at h
          obtain ⟨rfl, rfl⟩ := h
          simp [mu, conv]
          omega
        · rw [if_neg hm] at h
          simp only [Option.some.injEq, Prod.mk.injEq] at h
          obtain ⟨rfl, rfl⟩ := h
          simp [mu, conv, up1] at hG' ⊢
          omega

/-- the whole going -/
def runN (W : Web) (M : List Nat) (me : Nat) : Nat → Wk → List (Deed × Wk)
  | 0, _ => []
  | f + 1, s => match step W M me s with
    | none => []
    | some p => p :: runN W M me f p.2
theorem runN_chain {W : Web} {M : List Nat} {me : Nat} : ∀ (f : Nat) (s : Wk), Chain W M me s (runN W M me f s)
  | 0, _ => trivial
  | f + 1, s => by
    unfold runN
    cases h : step W M me s with
    | none => exact trivial
    | some p => exact ⟨h, runN_chain f p.2⟩
theorem step_none {W : Web} {M : List Nat} {me : Nat} {s : Wk} (h : step W M me s = none) : s.S = [] := by
  obtain ⟨S, G⟩ := s
  cases S with
  | nil => rfl
  | cons p R =>
    obtain ⟨x, c⟩ := p
    unfold step at h
    dsimp only at h
    by_cases hc : c = (rowAt W x).length
    · rw [if_pos hc] at h
      cases R <;> simp at h
    · rw [if_neg hc] at h
      cases ht : tieAt W x c with
      | none =>
        rw [ht] at h
        simp at h
      | some t =>
        rw [ht] at h
        dsimp only at h
        split at h <;> simp at h
theorem runN_end {W : Web} {M : List Nat} {me root : Nat} (T : TiesIn W) (h8 : ∀ x, (rowAt W x).length ≤ 8) : ∀ (f : Nat) (s : Wk), WInv W M me root s → mu W s ≤ f → (endOf s (runN W M me f s)).S = []
  | 0, s, I, hm => by
    unfold runN endOf
    cases h : step W M me s with
    | none => exact step_none h
    | some p =>
      have := mu_step T h8 I (s' := p.2) (d := p.1) h
      omega
  | f + 1, s, I, hm => by
    unfold runN
    cases h : step W M me s with
    | none => exact step_none h
    | some p =>
      have h1 := mu_step T h8 I (s' := p.2) (d := p.1) h
      exact runN_end T h8 f p.2 (inv_step T I (d := p.1) h) (by omega)
theorem runN_len {W : Web} {M : List Nat} {me : Nat} : ∀ (f : Nat) (s : Wk), (runN W M me f s).length ≤ f
  | 0, _ => Nat.le_refl _
  | f + 1, s => by
    unfold runN
    cases h : step W M me s with
    | none => simp
    | some p =>
      have := runN_len (W := W) (M := M) (me := me) f p.2
      simp
      omega

/-- counts rise: what is once off the stand never comes back, what stays on it has as many ties looked at or more, and the one on top more behind a deed -/
theorem rise_step {W : Web} {M : List Nat} {me root : Nat} {s s' : Wk} {d : Deed} (I : WInv W M me root s) (h : step W M me s = some (d, s')) :
    (∀ x ∈ s.G, x ∈ s'.G) ∧ (∀ x ∈ s.G, x ∉ s.S.map (·.1) → x ∉ s'.S.map (·.1)) ∧
    (∀ x m m', (x, m) ∈ conv s.S → (x, m') ∈ conv s'.S → m ≤ m' ∧ (s.S.head?.map (·.1) = some x → m < m')) := by
  obtain ⟨S, G⟩ := s
  cases S with
  | nil => simp [step] at h
  | cons p R =>
    obtain ⟨x, c⟩ := p
    have nd0 := I.nd
    have ndx : x ∉ R.map (·.1) ∧ (R.map (·.1)).Nodup := by simpa using nd0
    have uniq : ∀ {y a b : Nat}, (y, a) ∈ R.map up1 → (y, b) ∈ R.map up1 → a = b := by
      intro y a b ha hb
      exact key_uniq (by rw [up1_keys]; exact ndx.2) ha hb
    have offx : ∀ {a : Nat}, (x, a) ∉ R.map up1 := by
      intro a ha
      obtain ⟨p, hp, e⟩ := List.mem_map.mp ha
      have e1 : p.1 = x := by
        have := congrArg Prod.fst e
        simpa [up1] using this
      exact ndx.1 (List.mem_map.mpr ⟨p, hp, e1⟩)
    unfold step at h
    dsimp only at h
    by_cases hc : c = (rowAt W x).length
    · rw [if_pos hc] at h
      cases R with
      | nil =>
        simp only [Option.some.injEq, Prod.mk.injEq] at h
        obtain ⟨rfl, rfl⟩ := h
        refine ⟨fun _ z => z, by simp, by simp [conv]⟩
      | cons q R =>
        obtain ⟨y, k⟩ := q
        simp only [Option.some.injEq, Prod.mk.injEq] at h
        obtain ⟨rfl, rfl⟩ := h
        refine ⟨fun _ z => z, ?_, ?_⟩
        · intro z _ hn
          simp only [List.map_cons, List.mem_cons, not_or] at hn ⊢
          exact hn.2
        · intro z m m' h1 h2
          have h2' : (z, m') ∈ ((y, k) :: R).map up1 := h2
          have h1' : (z, m) = (x, c) ∨ (z, m) ∈ ((y, k) :: R).map up1 := List.mem_cons.mp h1
          rcases h1' with e | h1'
          · cases e
            exact absurd h2' offx
          · have e := uniq h1' h2'
            subst e
            refine ⟨Nat.le_refl _, ?_⟩
            intro e
            have : x = z := by simpa using e
            subst this
            exact absurd h1' offx
    · rw [if_neg hc] at h
      have skip : ∀ z m m', (z, m) ∈ conv ((x, c) :: R) → (z, m') ∈ conv ((x, c + 1) :: R) → m ≤ m' ∧ ((((x, c) :: R).head?.map (·.1)) = some z → m < m') := by
        intro z m m' h1 h2
        rcases List.mem_cons.mp h1 with e | h1
        · cases e
          rcases List.mem_cons.mp h2 with e | h2
          · cases e
            exact ⟨by omega, fun _ => by omega⟩
          · exact absurd h2 offx
        · rcases List.mem_cons.mp h2 with e | h2
          · cases e
            exact absurd h1 offx
          · have e := uniq h1 h2
            subst e
            refine ⟨Nat.le_refl _, ?_⟩
            intro e
            have : x = z := by simpa using e
            subst this
            exact absurd h1 offx
      cases ht : tieAt W x c with
      | none =>
        rw [ht] at h
        simp only [Option.some.injEq, Prod.mk.injEq] at h
        obtain ⟨rfl, rfl⟩ := h
        exact ⟨fun _ z => z, fun _ _ z => by simpa using z, skip⟩
      | some t =>
        rw [ht] at h
        simp only at h
        by_cases hm : markAt M t ≠ me ∨ t ∈ G
        · rw [if_pos hm] at h
          simp only [Option.some.injEq, Prod.mk.injEq] at h
          obtain ⟨rfl, rfl⟩ := h
          exact ⟨fun _ z => z, fun _ _ z => by simpa using z, skip⟩
        · rw [if_neg hm] at h
          simp only [Option.some.injEq, Prod.mk.injEq] at h
          obtain ⟨rfl, rfl⟩ := h
          have hm2 : t ∉ G := fun z => hm (.inr z)
          refine ⟨fun _ z => List.mem_append_left _ z, ?_, ?_⟩
          · intro z hz hn
            simp only [List.map_cons, List.mem_cons, not_or] at hn ⊢
            exact ⟨fun e => hm2 (e ▸ hz), hn⟩
          · intro z m m' h1 h2
            have hzG : z ∈ G := by
              have : z ∈ (conv ((x, c) :: R)).map (·.1) := List.mem_map.mpr ⟨_, h1, rfl⟩
              rw [conv_keys] at this
              obtain ⟨p, hp, e⟩ := List.mem_map.mp this
              rw [← e]
              exact I.sub p hp
            have h2' : (z, m') = (t, 0) ∨ (z, m') ∈ ((x, c) :: R).map up1 := List.mem_cons.mp h2
            rcases h2' with e | h2'
            · cases e
              exact absurd hzG hm2
            · apply skip z m m' h1
              exact h2'

theorem rise_chain {W : Web} {M : List Nat} {me root : Nat} (T : TiesIn W) : ∀ {R : List (Deed × Wk)} {s : Wk}, WInv W M me root s → Chain W M me s R →
    (∀ x ∈ s.G, x ∈ (endOf s R).G) ∧ (∀ x ∈ s.G, x ∉ s.S.map (·.1) → x ∉ (endOf s R).S.map (·.1)) ∧
    (∀ x m m', (x, m) ∈ conv s.S → (x, m') ∈ conv (endOf s R).S → m ≤ m' ∧ (R ≠ [] → s.S.head?.map (·.1) = some x → m < m'))
  | [], s, I, _ => by
    refine ⟨fun _ z => z, fun _ _ z => z, ?_⟩
    intro x m m' h1 h2
    have e : m = m' := key_uniq (by rw [conv_keys]; exact I.nd) h1 h2
    exact ⟨by omega, fun z => absurd rfl z⟩
  | (d, s1) :: r, s, I, h => by
    obtain ⟨g1, o1, c1⟩ := rise_step I h.1
    obtain ⟨g2, o2, c2⟩ := rise_chain (R := r) (s := s1) T (inv_step T I h.1) h.2
    refine ⟨fun x hx => g2 x (g1 x hx), fun x hx hn => o2 x (g1 x hx) (o1 x hx hn), ?_⟩
    intro x m m' h1 h2
    have h2 : (x, m') ∈ conv (endOf s1 r).S := h2
    have hxG : x ∈ s.G := by
      have : x ∈ (conv s.S).map (·.1) := List.mem_map.mpr ⟨_, h1, rfl⟩
      rw [conv_keys] at this
      obtain ⟨p, hp, e⟩ := List.mem_map.mp this
      rw [← e]
      exact I.sub p hp
    have hmid : x ∈ s1.S.map (·.1) := Classical.byContradiction fun hn => by
      have := o2 x (g1 x hxG) hn
      apply this
      rw [← conv_keys]
      exact List.mem_map.mpr ⟨_, h2, rfl⟩
    rw [← conv_keys] at hmid
    obtain ⟨p, hp, e⟩ := List.mem_map.mp hmid
    obtain ⟨px, pm⟩ := p
    simp only at e
    subst e
    have a := c1 px m pm h1 hp
    have b := c2 px pm m' hp h2
    exact ⟨Nat.le_trans a.1 b.1, fun _ z => Nat.lt_of_lt_of_le (a.2 z) b.1⟩
end Tb
end
section
/-! All walkers together: the state that the law builds, and what is read from it. -/
set_option autoImplicit false
set_option linter.all false
namespace Tb

/-! ### lookups -/
theorem lookup_mem {β : Type} : ∀ {L : List (Nat × β)} {x : Nat} {v : β}, L.lookup x = some v → (x, v) ∈ L
  | [], _, _, h => by cases h
  | (k, w) :: L, x, v, h => by
    rw [List.lookup_cons] at h
    by_cases e : (x == k) = true
    · rw [e] at h
      have : x = k := by simpa using e
      subst this
      have : w = v := by simpa using h
      subst this
      exact List.mem_cons_self
    · have e' : (x == k) = false := by simpa using e
      rw [e'] at h
      exact List.mem_cons_of_mem _ (lookup_mem h)
theorem lookup_none {β : Type} : ∀ {L : List (Nat × β)} {x : Nat}, L.lookup x = none → x ∉ L.map (·.1)
  | [], _, _ => by simp
  | (k, w) :: L, x, h => by
    rw [List.lookup_cons] at h
    by_cases e : (x == k) = true
    · rw [e] at h
      cases h
    · have e' : (x == k) = false := by simpa using e
      rw [e'] at h
      have := lookup_none (L := L) h
      have ne : x ≠ k := by simpa using e
      simp only [List.map_cons, List.mem_cons, not_or]
      exact ⟨ne, this⟩
theorem lookup_not {β : Type} {L : List (Nat × β)} {x : Nat} (h : x ∉ L.map (·.1)) : L.lookup x = none := by
  cases e : L.lookup x with
  | none => rfl
  | some v => exact absurd (List.mem_map.mpr ⟨_, lookup_mem e, rfl⟩) h
theorem lookup_of {β : Type} {L : List (Nat × β)} {x : Nat} {v : β} (nd : (L.map (·.1)).Nodup) (h : (x, v) ∈ L) : L.lookup x = some v := by
  cases e : L.lookup x with
  | none => exact absurd (List.mem_map.mpr ⟨_, h, rfl⟩) (lookup_none e)
  | some w => rw [key_uniq nd (lookup_mem e) h]
theorem lookup_perm {β : Type} {L L' : List (Nat × β)} (p : L.Perm L') (nd : (L.map (·.1)).Nodup) (x : Nat) : L.lookup x = L'.lookup x := by
  have nd' : (L'.map (·.1)).Nodup := (p.map (·.1)).nodup_iff.mp nd
  cases e : L.lookup x with
  | none =>
    refine (lookup_not ?_).symm
    intro z
    exact lookup_none e ((p.map (·.1)).mem_iff.mpr z)
  | some v => exact (lookup_of nd' (p.mem_iff.mp (lookup_mem e))).symm

/-- places changed one by one -/
theorem foldl_mod {α β : Type} (f : Nat → β → α → α) : ∀ (ps : List (Nat × β)) (rows : List α), (ps.map (·.1)).Nodup → ∀ x,
    (ps.foldl (fun rows p => rows.modify p.1 (f p.1 p.2)) rows)[x]? = rows[x]?.map (fun r => match ps.lookup x with | none => r | some y => f x y r)
  | [], rows, _, x => by
    simp
  | (k, v) :: ps, rows, nd, x => by
    have nd2 : k ∉ ps.map (·.1) ∧ (ps.map (·.1)).Nodup := by
      rw [List.map_cons] at nd
      exact List.nodup_cons.mp nd
    rw [List.foldl_cons, foldl_mod f ps _ nd2.2 x, List.lookup_cons, List.getElem?_modify]
    by_cases e : x = k
    · subst e
      rw [lookup_not nd2.1]
      cases rows[x]? <;> simp
    · have e' : (x == k) = false := by simpa using e
      have e2 : ¬ k = x := fun z => e z.symm
      simp only [e', if_neg e2]
      cases rows[x]? <;> simp
theorem foldl_mod_len {α β : Type} (f : Nat → β → α → α) : ∀ (ps : List (Nat × β)) (rows : List α), (ps.foldl (fun rows p => rows.modify p.1 (f p.1 p.2)) rows).length = rows.length
  | [], rows => rfl
  | p :: ps, rows => by
    rw [List.foldl_cons, foldl_mod_len f ps, List.length_modify]

/-! ### the last deed down, and the cut -/
theorem step_G {W : Web} {M : List Nat} {me : Nat} {s s' : Wk} {d : Deed} (h : step W M me s = some (d, s')) (hd : d.isDown = false) : s'.G = s.G := by
  obtain ⟨S, G⟩ := s
  cases S with
  | nil => simp [step] at h
  | cons p R =>
    obtain ⟨x, c⟩ := p
    unfold step at h
    dsimp only at h
    by_cases hc : c = (rowAt W x).length
    · rw [if_pos hc] at h
      cases R with
      | nil =>
        simp only [Option.some.injEq, Prod.mk.injEq] at h
        obtain ⟨rfl, rfl⟩ := h
        rfl
      | cons q R =>
        simp only [Option.some.injEq, Prod.mk.injEq] at h
        obtain ⟨rfl, rfl⟩ := h
        rfl
    · rw [if_neg hc] at h
      cases ht : tieAt W x c with
      | none =>
        rw [ht] at h
        simp only [Option.some.injEq, Prod.mk.injEq] at h
        obtain ⟨rfl, rfl⟩ := h
        rfl
      | some t =>
        rw [ht] at h
        simp only at h
        by_cases hm : markAt M t ≠ me ∨ t ∈ G
        · rw [if_pos hm] at h
          simp only [Option.some.injEq, Prod.mk.injEq] at h
          obtain ⟨rfl, rfl⟩ := h
          rfl
        · rw [if_neg hm] at h
          simp only [Option.some.injEq, Prod.mk.injEq] at h
          obtain ⟨rfl, rfl⟩ := h
          cases hd
theorem chain_G {W : Web} {M : List Nat} {me : Nat} : ∀ {R : List (Deed × Wk)} {s : Wk}, Chain W M me s R → (∀ p ∈ R, p.1.isDown = false) → (endOf s R).G = s.G
  | [], _, _, _ => rfl
  | (d, s1) :: r, s, h, hd => by
    have e1 := step_G h.1 (hd (d, s1) (by simp))
    have e2 := chain_G (R := r) (s := s1) h.2 fun p hp => hd p (by simp [hp])
    exact e2.trans e1

structure IsLast (R : List (Deed × Wk)) (l : Nat) : Prop where
  le : l ≤ R.length
  all : ∀ i p, R[i]? = some p → p.1.isDown = true → i < l
  one : l = 0 ∨ ∃ p, R[l - 1]? = some p ∧ p.1.isDown = true

theorem cut_G {W : Web} {M : List Nat} {me : Nat} {R : List (Deed × Wk)} {s : Wk} {l cut : Nat} (h : Chain W M me s R) (hl : IsLast R l) (hc : l ≤ cut) : (endOf s (R.take cut)).G = (endOf s R).G := by
  have e : R = R.take cut ++ R.drop cut := (List.take_append_drop cut R).symm
  have h2 : Chain W M me (endOf s (R.take cut)) (R.drop cut) := (chain_append.mp (e ▸ h)).2
  have h3 : endOf s R = endOf (endOf s (R.take cut)) (R.drop cut) := by
    rw [← endOf_append, ← e]
  rw [h3]
  refine (chain_G h2 fun p hp => ?_).symm
  obtain ⟨i, hi⟩ := List.mem_iff_getElem?.mp hp
  rw [List.getElem?_drop] at hi
  cases hd : p.1.isDown with
  | false => rfl
  | true =>
    have := hl.all _ _ hi hd
    omega

/-! ### one walker -/
def Reach (W : Web) (M : List Nat) (me root : Nat) : Prop :=
  ∀ G : List Nat, root ∈ G → (∀ x ∈ G, ∀ c t, tieAt W x c = some t → markAt M t = me → t ∈ G) → ∀ x, x < W.length → markAt M x = me → x ∈ G

def start (root : Nat) : Wk := ⟨[(root, 0)], [root]⟩

theorem all_own {W : Web} {M : List Nat} {me root : Nat} {R : List (Deed × Wk)} (T : TiesIn W) (h1 : markAt M root = me) (h2 : root < W.length) (hr : Reach W M me root) (h : Chain W M me (start root) R) (he : (endOf (start root) R).S = []) :
    ∀ x, x < W.length → markAt M x = me → x ∈ (endOf (start root) R).G := by
  have I := inv_chain T (inv_start h1 h2) h
  have he' : (endOf ⟨[(root, 0)], [root]⟩ R).S = [] := he
  exact hr _ I.rin fun x hx c t ht hm => I.off x hx (by rw [he']; simp) c t ht hm

theorem runN_own {W : Web} {M : List Nat} {me root : Nat} {f : Nat} (T : TiesIn W) (h8 : ∀ x, (rowAt W x).length ≤ 8) (h1 : markAt M root = me) (h2 : root < W.length) (hr : Reach W M me root) (hf : mu W (start root) ≤ f) :
    ∀ x, x < W.length → markAt M x = me → x ∈ (endOf (start root) (runN W M me f (start root))).G :=
  all_own T h1 h2 hr (runN_chain _ _) (runN_end T h8 f _ (inv_start h1 h2) hf)

theorem mu_start {W : Web} {root : Nat} : mu W (start root) ≤ 10 * W.length + 9 := by
  simp [mu, start, conv]
  omega

/-- ahead of the cut the walker isn't where it will stand -/
theorem not_yet {W : Web} {M : List Nat} {me root : Nat} {R : List (Deed × Wk)} {s : Wk} {k : Nat} (T : TiesIn W) (I : WInv W M me root s) (h : Chain W M me s R) (hk : k < R.length) :
    ∃ x c r, (endOf s (R.take k)).S = (x, c) :: r ∧ (x, c) ∉ conv (endOf s R).S := by
  have e : R = R.take k ++ R.drop k := (List.take_append_drop k R).symm
  obtain ⟨ha, hb⟩ := chain_append.mp (e ▸ h)
  have h3 : endOf s R = endOf (endOf s (R.take k)) (R.drop k) := by
    rw [← endOf_append, ← e]
  have I2 := inv_chain T I ha
  rw [h3]
  have hne : R.drop k ≠ [] := by
    intro z
    have := congrArg List.length z
    simp at this
    omega
  generalize hs : endOf s (R.take k) = s2 at hb I2 ⊢
  cases hS : s2.S with
  | nil =>
    exfalso
    cases hR : R.drop k with
    | nil => exact hne hR
    | cons p r =>
      rw [hR] at hb
      obtain ⟨S, G⟩ := s2
      cases hS
      have := hb.1
      simp [step] at this
  | cons p r =>
    obtain ⟨x, c⟩ := p
    refine ⟨x, c, r, rfl, ?_⟩
    intro z
    have := (rise_chain T I2 hb).2.2 x c c (by rw [hS]; simp [conv]) z
    have := this.2 hne (by rw [hS]; rfl)
    omega

/-! ### all of them -/
structure Good (W : Web) (M : List Nat) (roots : List Nat) : Prop where
  n1 : 1 ≤ W.length
  n60 : W.length ≤ 60
  r8 : ∀ row ∈ W, row.length ≤ 8
  ties : TiesIn W
  mlen : M.length = W.length
  mks : ∀ m ∈ M, m ≤ roots.length
  rn1 : 1 ≤ roots.length
  rn6 : roots.length ≤ 6
  root : ∀ i r, roots[i]? = some r → r < W.length ∧ markAt M r = i + 1
  reach : ∀ i r, roots[i]? = some r → Reach W M (i + 1) r

theorem Good.row8 {W : Web} {M roots : List Nat} (g : Good W M roots) (x : Nat) : (rowAt W x).length ≤ 8 := by
  unfold rowAt
  rw [List.getD_eq_getElem?_getD]
  cases h : W[x]? with
  | none => simp
  | some r => exact g.r8 r (List.mem_of_getElem? h)

/-- where each walker stands in the end -/
structure Fin (W : Web) (M : List Nat) (roots : List Nat) (Es : List Wk) : Prop where
  len : Es.length = roots.length
  inv : ∀ i e, Es[i]? = some e → ∃ r, roots[i]? = some r ∧ WInv W M (i + 1) r e ∧ ∀ x, x < W.length → markAt M x = i + 1 → x ∈ e.G

def PP (Es : List Wk) : List (Nat × Nat) := (Es.map (·.S)).flatten
def QQ (Es : List Wk) : List (Nat × Nat) := (Es.map fun e => conv e.S).flatten
def below : List (Nat × Nat) → List (Nat × (Nat × Option Nat))
  | [] => []
  | (x, c) :: R => (x, (c, R.head?.map (·.1))) :: below R
def EE (Es : List Wk) : List (Nat × (Nat × Option Nat)) := (Es.map fun e => below e.S.tail).flatten
/-- the nodes left, and where they were left to -/
def left : List (Nat × Nat) → List (Nat × Nat)
  | p :: q :: r => (q.1, p.1) :: left (q :: r)
  | _ => []
def LL (Es : List Wk) : List (Nat × Nat) := (Es.map fun e => left e.S).flatten

theorem below_keys : ∀ R : List (Nat × Nat), (below R).map (·.1) = R.map (·.1)
  | [] => rfl
  | (x, c) :: R => by simp [below, below_keys R]
theorem left_keys : ∀ R : List (Nat × Nat), (left R).map (·.1) = R.tail.map (·.1)
  | [] => rfl
  | [_] => rfl
  | p :: q :: r => by
    have := left_keys (q :: r)
    simp [left, this]

theorem flat_nodup {β : Type} {M : List Nat} : ∀ (L : List (List (Nat × β))) (k : Nat), (∀ i S, L[i]? = some S → (S.map (·.1)).Nodup ∧ ∀ x ∈ S.map (·.1), markAt M x = k + i) → (L.flatten.map (·.1)).Nodup ∧ ∀ x ∈ L.flatten.map (·.1), k ≤ markAt M x
  | [], _, _ => by simp
  | S :: L, k, h => by
    have h0 := h 0 S rfl
    have ih := flat_nodup (M := M) L (k + 1) fun i S' hi => by
      have := h (i + 1) S' hi
      exact ⟨this.1, fun x hx => by rw [this.2 x hx]; omega⟩
    rw [List.flatten_cons, List.map_append]
    constructor
    · rw [List.nodup_append]
      refine ⟨h0.1, ih.1, ?_⟩
      intro a ha b hb e
      subst e
      have e1 := h0.2 a ha
      have e2 := ih.2 a hb
      omega
    · intro x hx
      rcases List.mem_append.mp hx with hx | hx
      · rw [h0.2 x hx]
        omega
      · have := ih.2 x hx
        omega

section
variable {W : Web} {M roots : List Nat} {Es : List Wk}
theorem Fin.keys (F : Fin W M roots Es) {i : Nat} {e : Wk} (h : Es[i]? = some e) : (e.S.map (·.1)).Nodup ∧ ∀ x ∈ e.S.map (·.1), markAt M x = 1 + i := by
  obtain ⟨r, _, I, _⟩ := F.inv i e h
  refine ⟨I.nd, fun x hx => ?_⟩
  obtain ⟨p, hp, e'⟩ := List.mem_map.mp hx
  subst e'
  have := (I.own _ (I.sub p hp)).1
  omega
theorem map_get {α β : Type} {l : List α} {f : α → β} {i : Nat} {b : β} (h : (l.map f)[i]? = some b) : ∃ a, l[i]? = some a ∧ f a = b := by
  rw [List.getElem?_map] at h
  cases e : l[i]? with
  | none => rw [e] at h; cases h
  | some a =>
    rw [e] at h
    exact ⟨a, rfl, by simpa using h⟩
theorem nd_PP (F : Fin W M roots Es) : ((PP Es).map (·.1)).Nodup :=
  (flat_nodup (M := M) _ 1 fun i S h => by
    obtain ⟨e, he, rfl⟩ := map_get h
    exact F.keys he).1
theorem nd_QQ (F : Fin W M roots Es) : ((QQ Es).map (·.1)).Nodup :=
  (flat_nodup (M := M) _ 1 fun i S h => by
    obtain ⟨e, he, rfl⟩ := map_get h
    simp only [conv_keys]
    exact F.keys he).1
theorem nd_EE (F : Fin W M roots Es) : ((EE Es).map (·.1)).Nodup :=
  (flat_nodup (M := M) _ 1 fun i S h => by
    obtain ⟨e, he, rfl⟩ := map_get h
    have := F.keys he
    simp only [below_keys, List.map_tail]
    exact ⟨this.1.sublist (List.tail_sublist _), fun x hx => this.2 x (List.mem_of_mem_tail hx)⟩).1
theorem nd_LL (F : Fin W M roots Es) : ((LL Es).map (·.1)).Nodup :=
  (flat_nodup (M := M) _ 1 fun i S h => by
    obtain ⟨e, he, rfl⟩ := map_get h
    have := F.keys he
    simp only [left_keys, List.map_tail]
    exact ⟨this.1.sublist (List.tail_sublist _), fun x hx => this.2 x (List.mem_of_mem_tail hx)⟩).1
theorem in_flat {β : Type} {Es : List Wk} {f : Wk → List β} {i : Nat} {e : Wk} {b : β} (h : Es[i]? = some e) (hb : b ∈ f e) : b ∈ (Es.map f).flatten :=
  List.mem_flatten.mpr ⟨f e, List.mem_map.mpr ⟨e, List.mem_of_getElem? h, rfl⟩, hb⟩
theorem of_flat {β : Type} {Es : List Wk} {f : Wk → List β} {b : β} (h : b ∈ (Es.map f).flatten) : ∃ (i : Nat) (e : Wk), Es[i]? = some e ∧ b ∈ f e := by
  obtain ⟨l, hl, hb⟩ := List.mem_flatten.mp h
  obtain ⟨e, he, rfl⟩ := List.mem_map.mp hl
  obtain ⟨i, hi⟩ := List.mem_iff_getElem?.mp he
  exact ⟨i, e, hi, hb⟩

/-! ### the state's numbers, by node -/
def cntF (Es : List Wk) (x : Nat) : Nat := ((PP Es).lookup x).getD 0
def rowF (W : Web) (Es : List Wk) (x : Nat) : Row := match (EE Es).lookup x with
  | none => rowAt W x
  | some (c, b) => (rowAt W x).set c b
def seenF (W : Web) (M : List Nat) (Es : List Wk) (x : Nat) : Nat := match (QQ Es).lookup x with
  | some m => m
  | none => (rowAt W x).length * (if 0 < markAt M x then 1 else 0)
def stays (Es : List Wk) (x : Nat) : Prop := x ∈ (PP Es).map (·.1)

theorem cnt_of (F : Fin W M roots Es) {i : Nat} {e : Wk} {x c : Nat} (h : Es[i]? = some e) (hx : (x, c) ∈ e.S) : cntF Es x = c := by
  unfold cntF
  rw [lookup_of (nd_PP F) (in_flat (f := (·.S)) h hx)]
  rfl
theorem cnt_off {x : Nat} (h : ¬ stays Es x) : cntF Es x = 0 := by
  unfold cntF
  rw [lookup_not h]
  rfl
theorem row_len (x : Nat) : (rowF W Es x).length = (rowAt W x).length := by
  unfold rowF
  split <;> simp
theorem row_of (F : Fin W M roots Es) {i : Nat} {e : Wk} {x c : Nat} {b : Option Nat} (h : Es[i]? = some e) (hx : (x, (c, b)) ∈ below e.S.tail) : rowF W Es x = (rowAt W x).set c b := by
  unfold rowF
  rw [lookup_of (nd_EE F) (in_flat (f := fun e => below e.S.tail) h hx)]
theorem QQ_keys : (QQ Es).map (·.1) = (PP Es).map (·.1) := by
  unfold QQ PP
  induction Es with
  | nil => rfl
  | cons e Es ih =>
    rw [List.map_cons, List.map_cons, List.flatten_cons, List.flatten_cons, List.map_append, List.map_append, conv_keys, ih]
theorem seen_of (F : Fin W M roots Es) {i : Nat} {e : Wk} {x m : Nat} (h : Es[i]? = some e) (hx : (x, m) ∈ conv e.S) : seenF W M Es x = m := by
  unfold seenF
  rw [lookup_of (nd_QQ F) (in_flat (f := fun e => conv e.S) h hx)]
theorem seen_off {x : Nat} (h : ¬ stays Es x) : seenF W M Es x = (rowAt W x).length * (if 0 < markAt M x then 1 else 0) := by
  unfold seenF
  rw [lookup_not (by rw [QQ_keys]; exact h)]

/-- the tops -/
def tops (Es : List Wk) : List Nat := Es.filterMap fun e => e.S.head?.map (·.1)
theorem mem_tops {x : Nat} : x ∈ tops Es ↔ ∃ (i : Nat) (e : Wk) (c : Nat) (r : List (Nat × Nat)), Es[i]? = some e ∧ e.S = (x, c) :: r := by
  unfold tops
  rw [List.mem_filterMap]
  constructor
  · rintro ⟨e, he, h⟩
    obtain ⟨i, hi⟩ := List.mem_iff_getElem?.mp he
    cases hS : e.S with
    | nil => rw [hS] at h; cases h
    | cons p r =>
      rw [hS] at h
      have e1 : p.1 = x := by simpa using h
      subst e1
      exact ⟨i, e, p.2, r, hi, hS⟩
  · rintro ⟨i, e, c, r, hi, hS⟩
    exact ⟨e, List.mem_of_getElem? hi, by rw [hS]; rfl⟩
theorem seen_stays (F : Fin W M roots Es) {x : Nat} (h : stays Es x) : seenF W M Es x = cntF Es x + (if x ∈ tops Es then 0 else 1) := by
  obtain ⟨p, hp, e⟩ := List.mem_map.mp h
  obtain ⟨px, c⟩ := p
  simp only at e
  subst e
  obtain ⟨i, e, hi, hx⟩ := of_flat (f := (·.S)) hp
  rw [cnt_of F hi hx]
  obtain ⟨r0, _, I, _⟩ := F.inv i e hi
  cases hS : e.S with
  | nil => rw [hS] at hx; cases hx
  | cons q r =>
    rw [hS] at hx
    have nd := I.nd
    rw [hS] at nd
    have nd2 : q.1 ∉ r.map (·.1) ∧ (r.map (·.1)).Nodup := by
      rw [List.map_cons] at nd
      exact List.nodup_cons.mp nd
    rcases List.mem_cons.mp hx with e1 | hx3
    · subst e1
      rw [if_pos (mem_tops.mpr ⟨i, e, c, r, hi, hS⟩)]
      rw [seen_of F hi (m := c) (by rw [hS]; simp [conv])]
      rfl
    · have hn : px ∉ tops Es := by
        intro z
        obtain ⟨j, e', c', r', hj, hS'⟩ := mem_tops.mp z
        have m1 := (F.keys hi).2 px (by rw [hS]; exact List.mem_map.mpr ⟨(px, c), by simp [hx3], rfl⟩)
        have m2 := (F.keys hj).2 px (by rw [hS']; simp)
        have : i = j := by omega
        subst this
        rw [hi] at hj
        cases hj
        rw [hS] at hS'
        have e1 := (List.cons.inj hS').1
        subst e1
        exact nd2.1 (List.mem_map.mpr ⟨(px, c), hx3, rfl⟩)
      rw [if_neg hn]
      exact seen_of F hi (by rw [hS]; exact List.mem_cons_of_mem _ (List.mem_map.mpr ⟨_, hx3, rfl⟩))

/-- a walker's own top, looked at so far, stands in a stand just where it is its own -/
theorem conv_mine (F : Fin W M roots Es) {i : Nat} {e : Wk} {x c : Nat} (h : Es[i]? = some e) (hm : markAt M x = i + 1) : (stays Es x ∧ c = seenF W M Es x) ↔ (x, c) ∈ conv e.S := by
  constructor
  · rintro ⟨hs, rfl⟩
    unfold stays at hs
    rw [← QQ_keys] at hs
    obtain ⟨p, hp, e1⟩ := List.mem_map.mp hs
    obtain ⟨px, m⟩ := p
    simp only at e1
    subst e1
    obtain ⟨j, e', hj, hx⟩ := of_flat (f := fun e => conv e.S) hp
    rw [seen_of F hj hx]
    have hx1 : px ∈ e'.S.map (·.1) := by
      rw [← conv_keys]
      exact List.mem_map.mpr ⟨_, hx, rfl⟩
    have m2 := (F.keys hj).2 px hx1
    have : i = j := by omega
    subst this
    rw [h] at hj
    cases hj
    exact hx
  · intro hx
    refine ⟨?_, (seen_of F h hx).symm⟩
    unfold stays
    rw [← QQ_keys]
    exact List.mem_map.mpr ⟨_, in_flat (f := fun e => conv e.S) h hx, rfl⟩
theorem conv_seen (F : Fin W M roots Es) {i : Nat} {e : Wk} (h : Es[i]? = some e) : (e.S.map fun p => (p.1, seenF W M Es p.1)) = conv e.S := by
  have : ∀ L : List (Nat × Nat), (∀ p ∈ conv L, seenF W M Es p.1 = p.2) → (L.map fun p => (p.1, seenF W M Es p.1)) = conv L := by
    intro L hL
    cases L with
    | nil => rfl
    | cons p r =>
      have h0 : seenF W M Es p.1 = p.2 := hL p (by simp [conv])
      simp only [List.map_cons, conv, h0, List.cons.injEq, true_and]
      apply List.map_congr_left
      intro q hq
      have := hL (up1 q) (List.mem_cons_of_mem _ (List.mem_map.mpr ⟨q, hq, rfl⟩))
      simp only [up1] at this ⊢
      rw [this]
  exact this e.S fun p hp => seen_of F h hp

/-! ### the lists -/
def countsL (W : Web) (Es : List Wk) : List Nat := (List.range W.length).map (cntF Es)
def tiesL (W : Web) (Es : List Wk) : Web := (List.range W.length).map (rowF W Es)
def seenL (W : Web) (M : List Nat) (Es : List Wk) : List Nat := (List.range W.length).map (seenF W M Es)

theorem row_get {x : Nat} (h : x < W.length) : W[x]? = some (rowAt W x) := by
  unfold rowAt
  rw [List.getD_eq_getElem?_getD, List.getElem?_eq_getElem h] <;> rfl

/-- what the law stores -/
theorem counts_fold (F : Fin W M roots Es) {ps : List (Nat × Nat)} (hp : ps.Perm (PP Es)) : ps.foldl (fun (l : List Nat) p => l.set p.1 p.2) (List.replicate W.length 0) = countsL W Es := by
  have nd : (ps.map (·.1)).Nodup := (hp.map (·.1)).nodup_iff.mpr (nd_PP F)
  have e : (fun (l : List Nat) (p : Nat × Nat) => l.set p.1 p.2) = fun l p => l.modify p.1 ((fun _ v _ => v : Nat → Nat → Nat → Nat) p.1 p.2) := by
    funext l p
    apply List.ext_getElem?
    intro i
    rw [List.getElem?_set, List.getElem?_modify]
    by_cases h : p.1 = i
    · subst h
      by_cases h2 : p.1 < l.length
      · simp [h2]
      · simp [h2]
    · simp [h]
  rw [e]
  apply List.ext_getElem?
  intro x
  have := foldl_mod (fun (_ : Nat) (v : Nat) (_ : Nat) => v) ps (List.replicate W.length 0) nd x
  rw [lookup_perm hp nd x] at this
  rw [this]
  unfold countsL cntF
  rw [List.getElem?_map, List.getElem?_replicate]
  by_cases h : x < W.length
  · rw [if_pos h, List.getElem?_range h, Option.map_some, Option.map_some]
    cases (PP Es).lookup x <;> rfl
  · rw [if_neg h, List.getElem?_eq_none (by simpa using h)]
    rfl
theorem ties_fold (F : Fin W M roots Es) {ps : List (Nat × (Nat × Option Nat))} (hp : ps.Perm (EE Es)) : ps.foldl (fun (l : Web) p => l.modify p.1 (·.set p.2.1 p.2.2)) W = tiesL W Es := by
  have nd : (ps.map (·.1)).Nodup := (hp.map (·.1)).nodup_iff.mpr (nd_EE F)
  apply List.ext_getElem?
  intro x
  have := foldl_mod (fun (_ : Nat) (v : Nat × Option Nat) (r : Row) => r.set v.1 v.2) ps W nd x
  rw [this, lookup_perm hp nd x]
  unfold tiesL rowF
  rw [List.getElem?_map]
  by_cases h : x < W.length
  · rw [row_get h, List.getElem?_range h, Option.map_some, Option.map_some]
    cases (EE Es).lookup x with
    | none => rfl
    | some v => rfl
  · rw [List.getElem?_eq_none (by simpa using h), List.getElem?_eq_none (by simpa using h)]
    rfl
theorem linked_left : ∀ {S : List (Nat × Nat)}, Linked W S → ∀ x y, (x, y) ∈ left S → ∃ c, (x, c) ∈ S.tail ∧ c < (rowAt W x).length ∧ tieAt W x c = some y ∧ ∃ b, (x, (c, b)) ∈ below S.tail
  | [], _, _, _, h => by cases h
  | [_], _, _, _, h => by cases h
  | p :: q :: r, l, x, y, h => by
    have h' : (x, y) = (q.1, p.1) ∨ (x, y) ∈ left (q :: r) := List.mem_cons.mp h
    rcases h' with e | h'
    · cases e
      exact ⟨q.2, by simp, l.1, l.2.1, r.head?.map (·.1), by simp [below]⟩
    · obtain ⟨c, h1, h2, h3, b, h4⟩ := linked_left (S := q :: r) l.2.2 x y h'
      refine ⟨c, List.mem_cons_of_mem _ h1, h2, h3, b, ?_⟩
      exact List.mem_cons_of_mem _ h4
/-- turned back -/
theorem back_fold (F : Fin W M roots Es) {ps : List (Nat × Nat)} (hp : ps.Perm (LL Es)) : ps.foldl (fun (l : Web) p => l.modify p.1 (·.set (cntF Es p.1) (some p.2))) (tiesL W Es) = W := by
  have nd : (ps.map (·.1)).Nodup := (hp.map (·.1)).nodup_iff.mpr (nd_LL F)
  apply List.ext_getElem?
  intro x
  have := foldl_mod (fun (k : Nat) (v : Nat) (r : Row) => r.set (cntF Es k) (some v)) ps (tiesL W Es) nd x
  rw [this, lookup_perm hp nd x]
  unfold tiesL
  rw [List.getElem?_map]
  by_cases h : x < W.length
  · rw [row_get h, List.getElem?_range h]
    cases e : (LL Es).lookup x with
    | none =>
      have hn := lookup_none e
      have : (EE Es).lookup x = none := by
        apply lookup_not
        intro z
        apply hn
        obtain ⟨p, hp, e1⟩ := List.mem_map.mp z
        obtain ⟨i, w, hi, hx⟩ := of_flat (f := fun e => below e.S.tail) hp
        have h1 : x ∈ w.S.tail.map (·.1) := by
          rw [← below_keys]
          exact List.mem_map.mpr ⟨_, hx, e1⟩
        rw [← left_keys] at h1
        obtain ⟨q, hq, e2⟩ := List.mem_map.mp h1
        exact List.mem_map.mpr ⟨q, in_flat (f := fun e => left e.S) hi hq, e2⟩
      simp only [Option.map_some, Option.some.injEq]
      unfold rowF
      rw [this]
    | some y =>
      obtain ⟨i, w, hi, hx⟩ := of_flat (f := fun e => left e.S) (lookup_mem e)
      obtain ⟨r0, _, I, _⟩ := F.inv i w hi
      obtain ⟨c, h1, h2, h3, b, h4⟩ := linked_left I.link x y hx
      have hc := cnt_of F hi (List.mem_of_mem_tail h1)
      simp only [Option.map_some, Option.some.injEq]
      rw [row_of F hi h4, hc, List.set_set]
      apply List.ext_getElem?
      intro k
      rw [List.getElem?_set]
      by_cases hk : c = k
      · subst hk
        rw [if_pos rfl, if_pos h2]
        unfold tieAt at h3
        rw [List.getD_eq_getElem?_getD, List.getElem?_eq_getElem h2] at h3
        rw [List.getElem?_eq_getElem h2]
        simpa using h3.symm
      · rw [if_neg hk]
  · rw [List.getElem?_eq_none (by simpa using h), List.getElem?_eq_none (by simpa using h)]
    rfl
end
end Tb
end
section
/-! Turns: which deeds can be done, the greedy order, and that all that goes as far as it can comes to one end. -/
set_option autoImplicit false
set_option linter.all false
namespace Tb

def wt (W : Web) : Deed → Option Nat
  | .skip x c => tieAt W x c
  | _ => none
def gv (W : Web) : Deed → Option Nat
  | .down x c => tieAt W x c
  | _ => none
def rowD (D : List (List Deed)) (i : Nat) : List Deed := D.getD i []
def thB (W : Web) (roots : List Nat) (D : List (List Deed)) (dn : Nat → Nat) (t : Nat) : Bool :=
  roots.contains t || (List.range D.length).any fun i => ((rowD D i).take (dn i)).any fun d => gv W d == some t
def enD (W : Web) (roots : List Nat) (D : List (List Deed)) (dn : Nat → Nat) (d : Deed) : Bool :=
  match wt W d with
  | none => true
  | some t => thB W roots D dn t
def en (W : Web) (roots : List Nat) (D : List (List Deed)) (dn : Nat → Nat) (i : Nat) : Bool :=
  match (rowD D i)[dn i]? with
  | none => false
  | some d => enD W roots D dn d
def bump (dn : Nat → Nat) (i : Nat) : Nat → Nat := fun j => if j = i then dn j + 1 else dn j
def zero : Nat → Nat := fun _ => 0

inductive Goes (W : Web) (roots : List Nat) (D : List (List Deed)) : (Nat → Nat) → Prop where
  | zero : Goes W roots D zero
  | fire {dn : Nat → Nat} {i : Nat} : Goes W roots D dn → i < D.length → en W roots D dn i = true → Goes W roots D (bump dn i)
def Stuck (W : Web) (roots : List Nat) (D : List (List Deed)) (dn : Nat → Nat) : Prop := ∀ i, i < D.length → en W roots D dn i = false

section
variable {W : Web} {roots : List Nat} {D : List (List Deed)}

theorem thB_mono {a b : Nat → Nat} (h : ∀ i, a i ≤ b i) {t : Nat} (ht : thB W roots D a t = true) : thB W roots D b t = true := by
  unfold thB at ht ⊢
  rw [Bool.or_eq_true] at ht ⊢
  rcases ht with ht | ht
  · exact .inl ht
  · right
    rw [List.any_eq_true] at ht ⊢
    obtain ⟨i, hi, h2⟩ := ht
    refine ⟨i, hi, ?_⟩
    rw [List.any_eq_true] at h2 ⊢
    obtain ⟨d, hd, e⟩ := h2
    refine ⟨d, ?_, e⟩
    obtain ⟨k, hk⟩ := List.mem_iff_getElem?.mp hd
    rw [List.getElem?_take] at hk
    split at hk
    · rename_i hlt
      refine List.mem_iff_getElem?.mpr ⟨k, ?_⟩
      rw [List.getElem?_take, if_pos (Nat.lt_of_lt_of_le hlt (h i))]
      exact hk
    · cases hk
theorem enD_mono {a b : Nat → Nat} (h : ∀ i, a i ≤ b i) {d : Deed} (ht : enD W roots D a d = true) : enD W roots D b d = true := by
  unfold enD at ht ⊢
  cases e : wt W d with
  | none => rfl
  | some t =>
    rw [e] at ht
    exact thB_mono h ht
theorem goes_le {b e : Nat → Nat} (hb : Goes W roots D b) (he : Stuck W roots D e) : ∀ i, b i ≤ e i := by
  induction hb with
  | zero => exact fun i => Nat.zero_le _
  | @fire dn i _ hi hen ih =>
    intro j
    unfold bump
    by_cases hj : j = i
    · rw [if_pos hj]
      subst hj
      have h1 := ih j
      rcases Nat.lt_or_eq_of_le h1 with h2 | h2
      · exact h2
      · exfalso
        have h3 := he j hi
        unfold en at hen h3
        rw [← h2] at h3
        cases hd : (rowD D j)[dn j]? with
        | none =>
          rw [hd] at hen
          cases hen
        | some d =>
          rw [hd] at hen h3
          have := enD_mono ih (d := d) hen
          have h4 : enD W roots D e d = false := h3
          rw [this] at h4
          cases h4
    · rw [if_neg hj]
      exact ih j
theorem stuck_one {a b : Nat → Nat} (ha : Goes W roots D a) (sa : Stuck W roots D a) (hb : Goes W roots D b) (sb : Stuck W roots D b) : a = b := by
  funext i
  exact Nat.le_antisymm (goes_le ha sb i) (goes_le hb sa i)

theorem en_lt {dn : Nat → Nat} {i : Nat} (h : en W roots D dn i = true) : dn i < (rowD D i).length := by
  unfold en at h
  cases e : (rowD D i)[dn i]? with
  | none => rw [e] at h; cases h
  | some d => exact (List.getElem?_eq_some_iff.mp e).1
theorem goes_len {dn : Nat → Nat} (h : Goes W roots D dn) : ∀ i, dn i ≤ (rowD D i).length := by
  induction h with
  | zero => exact fun _ => Nat.zero_le _
  | @fire dn i _ _ hen ih =>
    intro j
    unfold bump
    by_cases hj : j = i
    · rw [if_pos hj]
      subst hj
      exact en_lt hen
    · rw [if_neg hj]
      exact ih j

/-- what is there behind one more deed -/
theorem thB_bump {dn : Nat → Nat} {i : Nat} {d : Deed} (hi : i < D.length) (hd : (rowD D i)[dn i]? = some d) (t : Nat) : thB W roots D (bump dn i) t = (thB W roots D dn t || (gv W d == some t)) := by
  have hlt := (List.getElem?_eq_some_iff.mp hd).1
  have tk : (rowD D i).take (dn i + 1) = (rowD D i).take (dn i) ++ [d] := by
    rw [List.take_add_one, hd]
    rfl
  rw [Bool.eq_iff_iff]
  unfold thB
  simp only [Bool.or_eq_true, List.any_eq_true, List.mem_range]
  constructor
  · rintro (h | ⟨j, hj, e, he, hg⟩)
    · exact .inl (.inl h)
    · by_cases hji : j = i
      · subst hji
        have : e ∈ (rowD D j).take (dn j + 1) := by
          simpa [bump] using he
        rw [tk] at this
        rcases List.mem_append.mp this with z | z
        · exact .inl (.inr ⟨j, hj, e, z, hg⟩)
        · have : e = d := by simpa using z
          subst this
          exact .inr hg
      · have : e ∈ (rowD D j).take (dn j) := by
          simpa [bump, hji] using he
        exact .inl (.inr ⟨j, hj, e, this, hg⟩)
  · rintro ((h | ⟨j, hj, e, he, hg⟩) | hg)
    · exact .inl h
    · by_cases hji : j = i
      · subst hji
        refine .inr ⟨j, hj, e, ?_, hg⟩
        simp only [bump, if_true]
        rw [tk]
        exact List.mem_append_left _ he
      · refine .inr ⟨j, hj, e, ?_, hg⟩
        simpa [bump, hji] using he
    · refine .inr ⟨i, hi, d, ?_, hg⟩
      simp only [bump, if_true]
      rw [tk]
      simp
theorem thB_zero (t : Nat) : thB W roots D zero t = roots.contains t := by
  unfold thB zero
  simp

/-! ### the greedy order -/
def nextOne (W : Web) (roots : List Nat) (D : List (List Deed)) (dn : Nat → Nat) : Option Nat := (List.range D.length).find? (en W roots D dn)
theorem nextOne_some {dn : Nat → Nat} {i : Nat} (h : nextOne W roots D dn = some i) : i < D.length ∧ en W roots D dn i = true := by
  unfold nextOne at h
  exact ⟨List.mem_range.mp (List.mem_of_find?_eq_some h), List.find?_some h⟩
theorem nextOne_none {dn : Nat → Nat} (h : nextOne W roots D dn = none) : Stuck W roots D dn := by
  intro i hi
  unfold nextOne at h
  have := List.find?_eq_none.mp h i (List.mem_range.mpr hi)
  simpa using this
theorem find_range {p : Nat → Bool} : ∀ {n i : Nat}, (∀ j, j < i → p j = false) → i < n → p i = true → (List.range n).find? p = some i
  | 0, i, _, h, _ => absurd h (Nat.not_lt_zero _)
  | n + 1, i, h1, h2, h3 => by
    rw [List.range_succ, List.find?_append]
    by_cases e : i < n
    · rw [find_range h1 e h3]
      rfl
    · have e' : i = n := by omega
      subst e'
      have : (List.range i).find? p = none := List.find?_eq_none.mpr fun j hj => by
        rw [h1 j (List.mem_range.mp hj)]
        decide
      rw [this]
      simp [List.find?_cons, h3]
theorem find_range_none {p : Nat → Bool} {n : Nat} (h : ∀ j, j < n → p j = false) : (List.range n).find? p = none :=
  List.find?_eq_none.mpr fun j hj => by
    rw [h j (List.mem_range.mp hj)]
    decide

def restN (D : List (List Deed)) (dn : Nat → Nat) : Nat := ((List.range D.length).map fun i => (rowD D i).length - dn i).sum
theorem sum_range_one {f g : Nat → Nat} {i : Nat} : ∀ {n : Nat}, i < n → (∀ j, j ≠ i → f j = g j) → f i + 1 = g i → ((List.range n).map f).sum + 1 = ((List.range n).map g).sum
  | 0, h, _, _ => absurd h (Nat.not_lt_zero _)
  | n + 1, h, h1, h2 => by
    rw [List.range_succ, List.map_append, List.map_append, List.sum_append, List.sum_append]
    by_cases e : i < n
    · have := sum_range_one (f := f) (g := g) e h1 h2
      have e2 : f n = g n := h1 n (by omega)
      simp
      omega
    · have e' : i = n := by omega
      subst e'
      have : (List.range i).map f = (List.range i).map g := List.map_congr_left fun j hj => h1 j (by have := List.mem_range.mp hj; omega)
      rw [this]
      simp
      omega
theorem bump_rest {dn : Nat → Nat} {i : Nat} (hi : i < D.length) (h : dn i < (rowD D i).length) : restN D (bump dn i) + 1 = restN D dn := by
  unfold restN
  refine sum_range_one (i := i) hi (fun j hj => ?_) ?_
  · simp only [bump, if_neg hj]
  · simp only [bump, if_true]
    omega

def greedy (W : Web) (roots : List Nat) (D : List (List Deed)) : Nat → (Nat → Nat) → List Nat
  | 0, _ => []
  | f + 1, dn => match nextOne W roots D dn with
    | none => []
    | some i => i :: greedy W roots D f (bump dn i)
theorem greedy_end {f : Nat} {dn : Nat → Nat} (h : nextOne W roots D dn = none) : greedy W roots D f dn = [] := by
  cases f with
  | zero => rfl
  | succ f =>
    unfold greedy
    rw [h]
theorem greedy_go {f : Nat} {dn : Nat → Nat} {i : Nat} (h : nextOne W roots D dn = some i) (hf : restN D dn ≤ f) : ∃ f', greedy W roots D f dn = i :: greedy W roots D f' (bump dn i) ∧ restN D (bump dn i) ≤ f' ∧ f' + 1 = f := by
  obtain ⟨hi, he⟩ := nextOne_some h
  have := bump_rest hi (en_lt he)
  cases f with
  | zero => omega
  | succ f =>
    refine ⟨f, ?_, by omega, rfl⟩
    conv => lhs; unfold greedy
    rw [h]
theorem greedy_len : ∀ (f : Nat) (dn : Nat → Nat), (greedy W roots D f dn).length ≤ f
  | 0, _ => Nat.le_refl _
  | f + 1, dn => by
    unfold greedy
    cases nextOne W roots D dn with
    | none => simp
    | some i =>
      have := greedy_len f (bump dn i)
      simp
      omega
theorem greedy_lt : ∀ (f : Nat) (dn : Nat → Nat), ∀ i ∈ greedy W roots D f dn, i < D.length
  | 0, _, i, h => by cases h
  | f + 1, dn, i, h => by
    unfold greedy at h
    cases e : nextOne W roots D dn with
    | none => rw [e] at h; cases h
    | some j =>
      rw [e] at h
      rcases List.mem_cons.mp h with z | z
      · rw [z]
        exact (nextOne_some e).1
      · exact greedy_lt f _ i z
/-- the order -/
def order (W : Web) (roots : List Nat) (D : List (List Deed)) : List Nat := greedy W roots D (restN D zero) zero

/-! ### where they stand in the end -/
/-- the first that isn't at its end -/
def firstLeft (D : List (List Deed)) (dn : Nat → Nat) : Option Nat := (List.range D.length).find? fun i => decide (dn i < (rowD D i).length)
theorem firstLeft_some {dn : Nat → Nat} {i : Nat} (h : firstLeft D dn = some i) : i < D.length ∧ dn i < (rowD D i).length := by
  unfold firstLeft at h
  have h2 := List.find?_some h
  exact ⟨List.mem_range.mp (List.mem_of_find?_eq_some h), by simpa using h2⟩
theorem firstLeft_none {dn : Nat → Nat} (g : Goes W roots D dn) (h : firstLeft D dn = none) : ∀ i, i < D.length → dn i = (rowD D i).length := by
  intro i hi
  unfold firstLeft at h
  have := List.find?_eq_none.mp h i (List.mem_range.mpr hi)
  have h2 := goes_len g i
  simp at this
  omega
theorem stuck_waits {dn : Nat → Nat} (s : Stuck W roots D dn) {i : Nat} (hi : i < D.length) (h : dn i < (rowD D i).length) : ∃ x c t, (rowD D i)[dn i]? = some (.skip x c) ∧ tieAt W x c = some t := by
  have h1 := s i hi
  unfold en at h1
  rw [List.getElem?_eq_getElem h] at h1 ⊢
  cases hd : (rowD D i)[dn i] with
  | skip x c =>
    rw [hd] at h1
    simp only [enD, wt] at h1
    cases ht : tieAt W x c with
    | none => rw [ht] at h1; cases h1
    | some t => exact ⟨x, c, t, rfl, ht⟩
  | down x c => rw [hd] at h1; simp [enD, wt] at h1
  | up x => rw [hd] at h1; simp [enD, wt] at h1
  | stop x => rw [hd] at h1; simp [enD, wt] at h1
/-- all done is stuck -/
theorem done_stuck {dn : Nat → Nat} (h : ∀ i, i < D.length → dn i = (rowD D i).length) : Stuck W roots D dn := by
  intro i hi
  unfold en
  rw [List.getElem?_eq_none (by rw [h i hi]; exact Nat.le_refl _)]
end
end Tb
end
section
/-! Webs whose walkers go along a path; looked at are marked nodes alone. -/
set_option autoImplicit false
set_option linter.all false
namespace Tb

/-- what is looked at leads to what is marked -/
def Closed (W : Web) (M : List Nat) (Es : List Wk) : Prop := ∀ x c t, x < W.length → c < seenF W M Es x → tieAt W x c = some t → markAt M t ≠ 0
theorem closed_all {W : Web} {M : List Nat} {Es : List Wk} (T : TiesIn W) (h : ∀ x, x < W.length → markAt M x ≠ 0) : Closed W M Es := fun x c t _ _ ht => h t (T x c t ht)

structure OnPath (W : Web) (M : List Nat) (me root : Nat) (row : List Nat) : Prop where
  head : row.head? = some root
  nd : row.Nodup
  mine : ∀ x, x ∈ row → markAt M x = me
  lt : ∀ x, x ∈ row → x < W.length
  all : ∀ x, x < W.length → markAt M x = me → x ∈ row
  next : ∀ a x c t, row[a]? = some x → tieAt W x c = some t → markAt M t = me → row[a + 1]? = some t
  marked : ∀ a x c t, row[a]? = some x → a + 1 < row.length → tieAt W x c = some t → markAt M t ≠ 0

theorem path_step {W : Web} {M : List Nat} {me root : Nat} {row : List Nat} (P : OnPath W M me root row) {s s' : Wk} {d : Deed} (I : WInv W M me root s) (h : step W M me s = some (d, s')) {k : Nat} (hk : s.G = row.take k) (hkl : k ≤ row.length) :
    ∃ k', s'.G = row.take k' ∧ k' ≤ row.length ∧ (d.isDown = true → ∃ t r, s'.S = (t, 0) :: r ∧ row[k' - 1]? = some t ∧ 1 ≤ k') := by
  cases hd : d.isDown with
  | false => exact ⟨k, by rw [step_G h hd]; exact hk, hkl, fun z => nomatch z⟩
  | true =>
    obtain ⟨S, G⟩ := s
    simp only at hk
    cases S with
    | nil => simp [step] at h
    | cons p R =>
      obtain ⟨x, c⟩ := p
      unfold step at h
      dsimp only at h
      by_cases hc : c = (rowAt W x).length
      · rw [if_pos hc] at h
        cases R with
        | nil =>
          simp only [Option.some.injEq, Prod.mk.injEq] at h
          obtain ⟨rfl, rfl⟩ := h
          cases hd
        | cons q R =>
          simp only [Option.some.injEq, Prod.mk.injEq] at h
          obtain ⟨rfl, rfl⟩ := h
          cases hd
      · rw [if_neg hc] at h
        cases ht : tieAt W x c with
        | none =>
          rw [ht] at h
          simp only [Option.some.injEq, Prod.mk.injEq] at h
          obtain ⟨rfl, rfl⟩ := h
          cases hd
        | some t =>
          rw [ht] at h
          simp only at h
          by_cases hm : markAt M t ≠ me ∨ t ∈ G
          · rw [if_pos hm] at h
            simp only [Option.some.injEq, Prod.mk.injEq] at h
            obtain ⟨rfl, rfl⟩ := h
            cases hd
          · rw [if_neg hm] at h
            simp only [Option.some.injEq, Prod.mk.injEq] at h
            obtain ⟨rfl, rfl⟩ := h
            have hm1 : markAt M t = me := Classical.byContradiction fun z => hm (.inl z)
            have hm2 : t ∉ G := fun z => hm (.inr z)
            have hx : x ∈ G := I.sub (x, c) (by simp)
            rw [hk] at hx hm2
            obtain ⟨a, ha⟩ := List.mem_iff_getElem?.mp hx
            rw [List.getElem?_take] at ha
            split at ha
            · rename_i hak
              have hn := P.next a x c t ha ht hm1
              have hlt := (List.getElem?_eq_some_iff.mp hn).1
              have hka : k = a + 1 := by
                rcases Nat.lt_or_ge (a + 1) k with z | z
                · exfalso
                  apply hm2
                  refine List.mem_iff_getElem?.mpr ⟨a + 1, ?_⟩
                  rw [List.getElem?_take, if_pos z]
                  exact hn
                · omega
              subst hka
              refine ⟨a + 1 + 1, ?_, by omega, fun _ => ⟨t, _, rfl, ?_, by omega⟩⟩
              · show G ++ [t] = _
                rw [hk, List.take_add_one (i := a + 1), hn]
                rfl
              · exact hn
            · cases ha

/-- along the way those come to are the path's first -/
theorem path_chain {W : Web} {M : List Nat} {me root : Nat} {row : List Nat} (T : TiesIn W) (P : OnPath W M me root row) : ∀ {R : List (Deed × Wk)} {s : Wk}, WInv W M me root s → Chain W M me s R → (∃ k, s.G = row.take k ∧ k ≤ row.length) →
    ∃ k, (endOf s R).G = row.take k ∧ k ≤ row.length
  | [], _, _, _, hk => hk
  | (d, s1) :: r, s, I, h, ⟨k, hk, hl⟩ => by
    obtain ⟨k', h1, h2, _⟩ := path_step P I h.1 hk hl
    exact path_chain (R := r) (s := s1) T P (inv_step T I h.1) h.2 ⟨k', h1, h2⟩

theorem path_last {W : Web} {M : List Nat} {me root : Nat} {row : List Nat} {R : List (Deed × Wk)} {l : Nat} (T : TiesIn W) (P : OnPath W M me root row) (I : WInv W M me root (start root)) (h : Chain W M me (start root) R) (hl : IsLast R l)
    (hall : ∀ x, x < W.length → markAt M x = me → x ∈ (endOf (start root) (R.take l)).G) : ∃ t r, (endOf (start root) (R.take l)).S = (t, 0) :: r ∧ row.getLast? = some t := by
  have hrow : ∃ row', row = root :: row' := by
    have := P.head
    cases row with
    | nil => cases this
    | cons a r =>
      have : a = root := by simpa using this
      exact ⟨r, by rw [this]⟩
  obtain ⟨row', hrow⟩ := hrow
  have hk0 : ∃ k, (start root).G = row.take k ∧ k ≤ row.length := ⟨1, by rw [hrow]; rfl, by rw [hrow]; simp⟩
  rcases hl.one with e | ⟨p, hp, hd⟩
  · subst e
    refine ⟨root, [], rfl, ?_⟩
    have hlen : row' = [] := by
      cases hr : row' with
      | nil => rfl
      | cons b r =>
        exfalso
        have hb : b ∈ row := by rw [hrow, hr]; simp
        have hbW : b < W.length := P.lt b hb
        have := hall b hbW (P.mine b hb)
        have : b = root := by simpa [endOf, start] using this
        have nd := P.nd
        rw [hrow, hr, this] at nd
        simp at nd
    rw [hrow, hlen]
    rfl
  · have hpos : 1 ≤ l := by
      have := hl.all _ _ hp hd
      omega
    obtain ⟨m, rfl⟩ : ∃ m, l = m + 1 := ⟨l - 1, by omega⟩
    rw [Nat.add_sub_cancel] at hp
    have tk : R.take (m + 1) = R.take m ++ [p] := by
      rw [List.take_add_one, hp]
      rfl
    have hsub : Chain W M me (start root) (R.take m ++ [p]) := by
      have e : R = R.take (m + 1) ++ R.drop (m + 1) := (List.take_append_drop _ _).symm
      rw [e] at h
      have := (chain_append.mp h).1
      rw [tk] at this
      exact this
    obtain ⟨ha, hb⟩ := chain_append.mp hsub
    have I2 := inv_chain T I ha
    obtain ⟨k, hk, hkl⟩ := path_chain T P I ha hk0
    obtain ⟨d, s'⟩ := p
    obtain ⟨k', hG, hl', hx⟩ := path_step P I2 hb.1 hk hkl
    obtain ⟨t, r, hS, hlast, h1⟩ := hx hd
    have eE : endOf (start root) (R.take (m + 1)) = s' := by
      rw [tk, endOf_append]
      rfl
    rw [eE] at hall ⊢
    refine ⟨t, r, hS, ?_⟩
    have hfull : k' = row.length := by
      rcases Nat.lt_or_ge k' row.length with z | z
      · exfalso
        have hm : row[k'] ∈ row := List.getElem_mem z
        have := hall _ (P.lt _ hm) (P.mine _ hm)
        rw [hG] at this
        obtain ⟨a, ha⟩ := List.mem_iff_getElem?.mp this
        rw [List.getElem?_take] at ha
        split at ha
        · rename_i hlt
          obtain ⟨h3, h4⟩ := List.getElem?_eq_some_iff.mp ha
          have := (List.getElem_inj P.nd).mp h4
          omega
        · cases ha
      · omega
    rw [List.getLast?_eq_getElem?, ← hfull]
    exact hlast

theorem closed_path {W : Web} {M roots : List Nat} {Es : List Wk} (T : TiesIn W) (F : Fin W M roots Es) (hmk : ∀ x, x < W.length → markAt M x ≤ roots.length)
    (hp : ∀ i r, roots[i]? = some r → ∃ row, OnPath W M (i + 1) r row ∧ ∀ e, Es[i]? = some e → ∃ t r, e.S = (t, 0) :: r ∧ row.getLast? = some t) : Closed W M Es := by
  intro x c t hx hc ht
  by_cases hm : markAt M x = 0
  · exfalso
    by_cases hs : stays Es x
    · obtain ⟨p, hp', e1⟩ := List.mem_map.mp hs
      obtain ⟨i, e, hi, hx2⟩ := of_flat (f := (·.S)) hp'
      have := (F.keys hi).2 x (List.mem_map.mpr ⟨p, hx2, e1⟩)
      omega
    · rw [seen_off hs, hm] at hc
      simp at hc
  · have h1 := hmk x hx
    obtain ⟨i, hi⟩ : ∃ i, markAt M x = i + 1 := ⟨markAt M x - 1, by omega⟩
    have hlt : i < roots.length := by omega
    have hr : roots[i]? = some roots[i] := List.getElem?_eq_getElem hlt
    obtain ⟨row, P, hlast⟩ := hp i _ hr
    have hE : Es[i]? = some (Es[i]'(by rw [F.len]; exact hlt)) := List.getElem?_eq_getElem (by rw [F.len]; exact hlt)
    obtain ⟨u, r, hS, hl⟩ := hlast _ hE
    have hxr := P.all x hx hi
    obtain ⟨a, ha⟩ := List.mem_iff_getElem?.mp hxr
    have hal := (List.getElem?_eq_some_iff.mp ha).1
    by_cases he : a + 1 < row.length
    · exact P.marked a x c t ha he ht
    · exfalso
      have : x = u := by
        rw [List.getLast?_eq_getElem?, show row.length - 1 = a by omega, ha] at hl
        simpa using hl
      subst this
      rw [seen_of F hE (m := 0) (by rw [hS]; simp [conv])] at hc
      exact Nat.not_lt_zero _ hc
end Tb
end
section
set_option Elab.async false
set_option linter.all false
set_option maxRecDepth 100000
set_option maxHeartbeats 2000000
/-! Rules beside the layer: enumerate of a tuple, zip of a list and a tuple. -/
namespace Tb
open PySem PySem.Spec PyProof.Rows L2

theorem meets_enumT (l : Addr) (items : Array Value) (n : Nat) (dct : Option Addr) (sl : Array (Option Value)) :
    Meets (Builtin.«enumerate.__new__» ⟨[.type "enumerate", .ref l], []⟩) (fun _ R s => s.heap.get? l = some { cls := .type "tuple", dict := dct, data := .seq items n, slots := sl } ∧
      R (.ok (.ret (.ref (s.heap.push { cls := .type "tuple_iterator", data := .fields #[.ref l, .int 0 0] }).objs.size)))
        { s with heap := (s.heap.push { cls := .type "tuple_iterator", data := .fields #[.ref l, .int 0 0] }).push { cls := .type "enumerate", data := .fields #[.none, .bool false, .ref s.heap.objs.size, rawInt 0, .none, .none] } }) :=
  .of_wp fun prog w A R s h => by
    obtain ⟨hp, g, d, tk, os⟩ := s; obtain ⟨hl, h⟩ := h
    have hsub := sub_enumerate
    have hL : Heap.IsTuple (Shared.heap ⟨hp, g, d, tk, os⟩) l items := ⟨_, hl, rfl, n, rfl⟩
    wp_walk using PySem.AutoSeq1.wpAny_loadPart' hl
    refine wpAny_stack_any fun st => wpAny_pure ?_
    split
    · rename_i c _ _ _ _ _
      cases (c == Value.type "enumerate")
      · wp_walk using PySem.AutoSeq1.wpAny_loadPart' hl, wpAny_pyIter_tuple hL
        exact ⟨_, rfl, h⟩
      · wp_walk using PySem.AutoSeq1.wpAny_loadPart' hl, wpAny_pyIter_tuple hL
        exact ⟨_, rfl, h⟩
    · wp_walk using PySem.AutoSeq1.wpAny_loadPart' hl, wpAny_pyIter_tuple hL
      exact ⟨_, rfl, h⟩
theorem call_enumT {prog : Program} {w : World} {A : Around} {E : Value → Shared → Prop} {s : Shared} {l : Addr} {items : Array Value} {Q : Value → Shared → Prop} (hL : s.heap.IsTuple l items)
    (h : ∀ h', IsEnum h' (s.heap.objs.size + 1) s.heap.objs.size 0 .none → h'.IsTupleIter s.heap.objs.size l 0 → h'.objs.size = s.heap.objs.size + 2 →
      (∀ b o, s.heap.get? b = some o → h'.get? b = some o) → Q (.ref (s.heap.objs.size + 1)) { s with heap := h' }) :
    wpAny (model prog w) A (call (.type "enumerate") [.ref l]) Q E s := by
  obtain ⟨⟨c, dct, dt, sl⟩, hl, hc, n, hd⟩ := hL
  replace hc : c = .type "tuple" := hc
  replace hd : dt = .seq items n := hd
  subst hc hd
  refine callType_new F.called_enumerate (by decide) (F.typeCall_enumerate_1 _) (F.newCall_enumerate_1 _) (fun obj => F.args_object_init_2 obj _) F.entry_enumerate_new
    (meets_enumT l items n dct sl) ⟨hl, ?_⟩
  have hz : (s.heap.push { cls := .type "tuple_iterator", data := .fields #[.ref l, .int 0 0] }).objs.size = s.heap.objs.size + 1 := Heap.size_push ..
  show _ ∧ _
  rw [hz]
  have he : IsEnum ((s.heap.push { cls := .type "tuple_iterator", data := .fields #[.ref l, .int 0 0] }).push
      { cls := .type "enumerate", data := .fields #[.none, .bool false, .ref s.heap.objs.size, rawInt 0, .none, .none] }) (s.heap.objs.size + 1) s.heap.objs.size 0 .none := by
    have := Heap.get?_push_size (s.heap.push { cls := .type "tuple_iterator", data := .fields #[.ref l, .int 0 0] })
      (o := { cls := .type "enumerate", data := .fields #[.none, .bool false, .ref s.heap.objs.size, rawInt 0, .none, .none] }) rfl
    rw [hz] at this; exact this
  refine ⟨⟨_, he, rfl⟩, h _ he ⟨_, Heap.get?_push_of_some _ (Heap.get?_push_size _ rfl), rfl, rfl⟩ (by rw [Heap.size_push, hz]) fun b o x => Heap.get?_push_of_some _ (Heap.get?_push_of_some _ x)⟩

/-- the tuple at a, each item in a new pair -/
def IteT (K : PySem.W.Frag) (a : Addr) : It :=
  ⟨fun i H => ∃ (xs : List V) (x : V), SqT K H a xs ∧ xs[i]? = some x, fun i H v H' => ∃ T x, v = .ref T ∧ H T = none ∧ H' = upd H T (.tup [.int (i : Nat), x]) ∧ ∀ xs, SqT K H a xs → xs[i]? = some x, fun i H => ∃ xs : List V, SqT K H a xs ∧ i = xs.length⟩
theorem turn_enumT {P : Program} {w : World} {K : PySem.W.Frag} {elts : List Expr} {kk : Nat} {tpos : Pos} (a e it : Addr) :
    Turn P w K (.Tuple elts kk tpos) (IteT K a) [e, it] e (fun i h => (∃ old, IsEnum h e it ((i : Nat) : Int) old) ∧ h.IsTupleIter it a i ∧ e ≠ it ∧ a ≠ e ∧ a ≠ it) where
  mem := by simp
  obj := fun i h st b hb => by
    obtain ⟨⟨old, he⟩, ⟨o, ho, hc, hd⟩, _⟩ := st
    have e' : b = e ∨ b = it := by simpa using hb
    rcases e' with z | z
    · rw [z]; exact ⟨_, he, fun v q => nomatch q⟩
    · rw [z]; exact ⟨o, ho, fun v q => by rw [hd] at q; cases q⟩
  keep := fun i h h' st k => let ⟨⟨old, he⟩, hi, hne, h1, h2⟩ := st; ⟨⟨old, k e (by simp) _ he⟩, hi.at fun o q => k it (by simp) o q, hne, h1, h2⟩
  item := by
    intro X hP hw hK hc i pins s σ H E I hf st hg
    subst hP hw hK
    obtain ⟨⟨old, he⟩, hit, hne, hae, hai⟩ := st
    obtain ⟨xs, x, hq, hx⟩ := hg
    obtain ⟨its, rv, p, hz⟩ := I.tuple hq
    have p' : s.heap.IsTuple a its.toArray := p
    obtain ⟨u, hu, ru⟩ := rv.get hx
    have hel : e < s.heap.objs.size := Heap.lt_size he
    have hil : it < s.heap.objs.size := by obtain ⟨_, q, _⟩ := hit; exact Heap.lt_size q
    have hlt : i < its.toArray.size := by
      have := (List.getElem?_eq_some_iff.mp hu).1
      simpa using this
    have hh : X.A.in1.handled = none := I.ok.hd hc
    have hef : e ∉ [it, a] := by
      intro z
      rcases List.mem_cons.mp z with z | z
      · exact hne z
      · exact hae (List.mem_singleton.mp z).symm
    refine wpAny_pyNext_enum_itemD (Draws.tuple hh it a hai its.toArray) he ⟨hit, p'⟩ hlt hne hef fun y h' tk hP ho hst hT hsz hk => ?_
    have hy : y = u := by
      have h1 : its.toArray[i]? = some u := by simpa using hu
      rw [h1] at hP
      exact (Option.some.inj hP).symm
    subst hy
    refine ⟨_, rfl, wpAny_letOwnedTupleGo_enum (s := { s with heap := h', toks := tk + 1 }) ho fun h'' he' sb => ?_⟩
    have hT2 : h''.get? s.heap.objs.size = some { cls := .type "tuple", data := .seq #[.int i tk, y] } := (sb.2 _ (Nat.ne_of_gt hel)).trans hT
    have new : ObjOk X.prog X.w (upd H s.heap.objs.size (.tup [.int (i : Nat), x])) h'' s.heap.objs.size (.tup [.int (i : Nat), x]) :=
      ⟨by show 2 ≤ sizeLine; decide, [.int i tk, y], .cons ⟨_, rfl⟩ (.cons ru .nil), ⟨_, hT2, rfl, _, rfl⟩⟩
    have I1 : Inv X pins σ (upd H s.heap.objs.size (.tup [.int (i : Nat), x])) { s with heap := h'', toks := tk + 1 } :=
      I.turnedNew (ch := [e, it]) (fun b ob hb q => (sb.2 b (fun z => hb (by simp [z]))).trans (hk b ob (fun z => hb (by simp [z])) (fun z => hb (by simp [z])) q)) hf (Nat.le_refl _) new
    refine ⟨.ref s.heap.objs.size, _, I1, rfl, ⟨_, x, rfl, I.hok.fresh (Nat.le_refl _), rfl, fun ys hy => by rw [I.tuple_inj hy hq]; exact hx⟩, ⟨⟨y, ?_⟩, hst.1.at fun o q => (sb.2 it (Ne.symm hne)).trans q, hne, hae, hai⟩, fun b hb => ?_⟩
    · have e1 : ((i + 1 : Nat) : Int) = (i : Int) + 1 := by omega
      rw [e1]; exact he'
    · have hb' : b < s.heap.objs.size := by
        have e' : b = e ∨ b = it := by simpa using hb
        rcases e' with z | z
        · rw [z]; exact hel
        · rw [z]; exact hil
      rw [upd_ne (Nat.ne_of_lt hb')]
      exact (hf b hb).1
  done := by
    intro X hP hw hK hc i pins s σ H E I hf st hg
    subst hP hw hK
    obtain ⟨⟨old, he⟩, hit, hne, hae, hai⟩ := st
    obtain ⟨xs, hq, hx⟩ := hg
    obtain ⟨its, rv, p, hz⟩ := I.tuple hq
    have p' : s.heap.IsTuple a its.toArray := p
    obtain ⟨f0, f1, f2, f3, f4, f5⟩ := hf it (by simp)
    have hl := rv.length
    have hh : X.A.in1.handled = none := I.ok.hd hc
    have hn : its.toArray.size = i := by
      rw [List.size_toArray]
      omega
    exact wpAny_pyNext_enum_endD (Draws.tuple hh it a hai its.toArray) he ⟨hn ▸ hit, p'⟩ fun h' eb => ⟨rfl, I.turned (t' := s.toks) (fun b o hb q => eb b o hb q) f0 f1 f3 f4 f5⟩
  self := fun A i s Q E st h => let ⟨⟨_, he⟩, _⟩ := st; wpAny_pyIter_enum he h
def iEnumT (K : PySem.W.Frag) (ta : TA) : TI := fun σ H R => ta σ H fun vs H1 => ∃ a xs, vs = [.ref a] ∧ SqT K H1 a xs ∧ R (IteT K a) H1
theorem pi_enumT {X : Cx} {e : Expr} {ta : TA} {p pos tpos : Pos} {elts : List Expr} {kk : Nat} (hg : Gl X "enumerate") (hm : X.mg "enumerate" = none) (ha : PA X [e] ta) (hs : starEach [e] X.env = [(false, eval e X.env)] := by rfl) :
    PI X (.Tuple elts kk tpos) (.Call (.Name "enumerate" p) [e] [] pos) (iEnumT X.K ta) := by
  refine ⟨fun pins s σ H R I h => ?_⟩
  refine Call_ (ld_blt I hg hm boot_enumerate (PyProof.Rows.callWith_type1 (thn (ha.run pos pins s σ H _ I h) fun us s1 ⟨vs, H1, I1, r1, q1⟩ => ?_) hs rfl))
  obtain ⟨a, xs, ex, hq, q⟩ := q1
  subst ex
  cases r1 with
  | cons r rr =>
    cases rr
    cases r
    obtain ⟨its, rv, p', hz⟩ := I1.tuple hq
    have p2 : s1.heap.IsTuple a its.toArray := p'
    obtain ⟨o1, ho1, _⟩ := id p'
    have hal := Heap.lt_size ho1
    refine call_enumT p2 fun h' he hit hsz hk => wpAny_pyIter_enum he ?_
    have I2 : Inv X pins σ H1 { s1 with heap := h' } := I1.kept (t' := s1.toks) hk
    refine ⟨s1.heap.objs.size + 1, [s1.heap.objs.size + 1, s1.heap.objs.size], _, _, H1, rfl, I2, turn_enumT a (s1.heap.objs.size + 1) s1.heap.objs.size, ⟨⟨.none, he⟩, hit, Nat.succ_ne_self _, Nat.ne_of_lt (Nat.lt_succ_of_lt hal), Nat.ne_of_lt hal⟩, fun b hb => ?_, q⟩
    have e' : b = s1.heap.objs.size + 1 ∨ b = s1.heap.objs.size := by simpa using hb
    have hle : s1.heap.objs.size ≤ b := by
      rcases e' with z | z
      · rw [z]; exact Nat.le_add_right _ _
      · rw [z]; exact Nat.le_refl _
    exact I1.fpOk hle (I1.hok.fresh hle)
theorem walk_enumT {K : PySem.W.Frag} {a : Addr} {xs : List V} : Walk (IteT K a) xs.length (fun H => SqT K H a xs) (YPair (fun i => some (.int (i : Nat))) (fun i => xs[i]?)) := by
  refine ⟨fun i _ hi q => ⟨xs, xs[i], q, by simp [hi]⟩, fun _ q => ⟨xs, q, rfl⟩, fun i H v H' _ q y => ?_⟩
  obtain ⟨T, x, h1, h2, h3, h4⟩ := y
  exact ⟨T, .int (i : Nat), x, h1, h2, h3, rfl, h4 xs q⟩

/-- the list at a, the tuple at b, the items in new pairs -/
def ItzM (K : PySem.W.Frag) (a b : Addr) : It :=
  ⟨fun i H => ∃ (xs ys : List V) (x y : V), SqL K H a xs ∧ SqT K H b ys ∧ xs[i]? = some x ∧ ys[i]? = some y,
    fun i H v H' => ∃ T x y, v = .ref T ∧ H T = none ∧ H' = upd H T (.tup [x, y]) ∧ (∀ xs, SqL K H a xs → xs[i]? = some x) ∧ ∀ ys, SqT K H b ys → ys[i]? = some y,
    fun i H => ∃ xs ys : List V, SqL K H a xs ∧ SqT K H b ys ∧ i = xs.length ∧ i = ys.length⟩
theorem turn_zipM {P : Program} {w : World} {K : PySem.W.Frag} {elts : List Expr} {kk : Nat} {tpos : Pos} {a b z TI TO i1 i2 : Addr} (S : ZipSep2 z TI TO i1 i2 [i1, a] [i2, b]) (hai : a ≠ i1) (hbi : b ≠ i2) :
    Turn P w K (.Tuple elts kk tpos) (ItzM K a b) [z, TI, TO, i1, i2] z (fun i h => IsZip h z TI TO .none ∧ IsTupOf2 h TI (.ref i1) (.ref i2) ∧ (∃ x y, IsTupOf2 h TO x y) ∧ h.IsListIter i1 a i ∧ h.IsTupleIter i2 b i) where
  mem := by simp
  obj := fun i h st c hc => by
    obtain ⟨hz, hTI, ⟨x, y, hTO⟩, ⟨o1, e1, _, d1⟩, ⟨o2, e2, _, d2⟩⟩ := st
    have e' : c = z ∨ c = TI ∨ c = TO ∨ c = i1 ∨ c = i2 := by simpa using hc
    rcases e' with q | q | q | q | q
    · rw [q]; exact ⟨_, hz, fun v q => nomatch q⟩
    · rw [q]; exact ⟨_, hTI, fun v q => nomatch q⟩
    · rw [q]; exact ⟨_, hTO, fun v q => nomatch q⟩
    · rw [q]; exact ⟨o1, e1, fun v q => by rw [d1] at q; cases q⟩
    · rw [q]; exact ⟨o2, e2, fun v q => by rw [d2] at q; cases q⟩
  keep := fun i h h' st k => by
    obtain ⟨hz, hTI, ⟨x, y, hTO⟩, h1, h2⟩ := st
    exact ⟨k z (by simp) _ hz, k TI (by simp) _ hTI, ⟨x, y, k TO (by simp) _ hTO⟩, h1.at fun o q => k i1 (by simp) o q, h2.at fun o q => k i2 (by simp) o q⟩
  item := by
    intro X hP hw hK hc i pins s σ H E I hf st hg
    subst hP hw hK
    obtain ⟨hz, hTI, ⟨x0, y0, hTO⟩, h1, h2⟩ := st
    obtain ⟨xs, ys, x, y, hqx, hqy, hx, hy⟩ := hg
    obtain ⟨its, rv, p, _⟩ := I.list hqx
    obtain ⟨its2, rv2, p2, _⟩ := I.tuple hqy
    have p2' : s.heap.IsTuple b its2.toArray := p2
    obtain ⟨u, hu, ru⟩ := rv.get hx
    obtain ⟨u2, hu2, ru2⟩ := rv2.get hy
    have hzl : z < s.heap.objs.size := Heap.lt_size hz
    have hh : X.A.in1.handled = none := I.ok.hd hc
    have hlt1 : i < its.toArray.size := by
      have := (List.getElem?_eq_some_iff.mp hu).1
      simpa using this
    have hlt2 : i < its2.toArray.size := by
      have := (List.getElem?_eq_some_iff.mp hu2).1
      simpa using this
    refine wpAny_pyNext_zipD2_item S (Draws.list hh i1 a hai its.toArray) (Draws.tuple hh i2 b hbi its2.toArray) hz hTI hTO ⟨h1, p.isList⟩ ⟨h2, p2'⟩ hlt1 hlt2 fun v1 v2 h' tk P1 P2 z' TO' st1 st2 hT hsz hk => ?_
    have ev1 : v1 = u := by
      have q : its.toArray[i]? = some u := by simpa using hu
      rw [q] at P1
      exact (Option.some.inj P1).symm
    have ev2 : v2 = u2 := by
      have q : its2.toArray[i]? = some u2 := by simpa using hu2
      rw [q] at P2
      exact (Option.some.inj P2).symm
    subst ev1 ev2
    refine ⟨_, rfl, wpAny_letOwnedTupleGo_zip (s := { s with heap := h', toks := tk }) z' fun h'' z'' sb => ?_⟩
    have hT2 : h''.get? s.heap.objs.size = some { cls := .type "tuple", data := .seq #[v1, v2] } := (sb.2 _ (Nat.ne_of_gt hzl)).trans hT
    have new : ObjOk X.prog X.w (upd H s.heap.objs.size (.tup [x, y])) h'' s.heap.objs.size (.tup [x, y]) :=
      ⟨by show 2 ≤ sizeLine; decide, [v1, v2], .cons ru (.cons ru2 .nil), ⟨_, hT2, rfl, _, rfl⟩⟩
    have I1 : Inv X pins σ (upd H s.heap.objs.size (.tup [x, y])) { s with heap := h'', toks := tk } :=
      I.turnedNew (t' := tk) (ch := [z, TI, TO, i1, i2]) (fun c o hb q => (sb.2 c (fun q' => hb (by simp [q']))).trans (hk c o (fun q' => hb (by simp [q'])) (fun q' => hb (by simp [q'])) (fun q' => hb (by simp [q'])) (fun q' => hb (by simp [q'])) q)) hf (Nat.le_refl _) new
    refine ⟨.ref s.heap.objs.size, _, I1, rfl, ⟨_, x, y, rfl, I.hok.fresh (Nat.le_refl _), rfl, fun l hl => by rw [I.list_inj hl hqx]; exact hx, fun l hl => by rw [I.tuple_inj hl hqy]; exact hy⟩, ⟨z'', ?_, ⟨v1, v2, ?_⟩, ?_, ?_⟩, fun c hcm => ?_⟩
    · exact (sb.2 _ S.TIz).trans (hk _ _ S.TIz S.TITO S.TIi1 S.TIi2 hTI)
    · exact (sb.2 _ S.TOz).trans TO'
    · exact st1.1.at fun o q => (sb.2 _ (Ne.symm S.zi1)).trans q
    · exact st2.1.at fun o q => (sb.2 _ (Ne.symm S.zi2)).trans q
    · have hlt : c < s.heap.objs.size := by
        have e' : c = z ∨ c = TI ∨ c = TO ∨ c = i1 ∨ c = i2 := by simpa using hcm
        rcases e' with q | q | q | q | q
        · rw [q]; exact hzl
        · rw [q]; exact Heap.lt_size hTI
        · rw [q]; exact Heap.lt_size hTO
        · rw [q]; obtain ⟨_, e1, _⟩ := h1; exact Heap.lt_size e1
        · rw [q]; obtain ⟨_, e2, _⟩ := h2; exact Heap.lt_size e2
      rw [upd_ne (Nat.ne_of_lt hlt)]
      exact (hf c hcm).1
  done := by
    intro X hP hw hK hc i pins s σ H E I hf st hg
    subst hP hw hK
    obtain ⟨hz, hTI, ⟨x0, y0, hTO⟩, h1, h2⟩ := st
    obtain ⟨xs, ys, hqx, hqy, ex, ey⟩ := hg
    obtain ⟨its, rv, p, _⟩ := I.list hqx
    obtain ⟨its2, rv2, p2, _⟩ := I.tuple hqy
    have p2' : s.heap.IsTuple b its2.toArray := p2
    have l1 := rv.length
    have l2 := rv2.length
    have hh : X.A.in1.handled = none := I.ok.hd hc
    have n1 : i = its.toArray.size := by
      rw [List.size_toArray]
      omega
    have n2 : i = its2.toArray.size := by
      rw [List.size_toArray]
      omega
    exact wpAny_pyNext_zipD2_end S (Draws.list hh i1 a hai its.toArray) (Draws.tuple hh i2 b hbi its2.toArray) hz hTI hTO ⟨h1, p.isList⟩ ⟨h2, p2'⟩ (Nat.le_of_eq n1) (Nat.le_of_eq n2) (.inl n1) fun h' tk hk => ⟨rfl, I.turnedL (t' := tk) (ch := [z, TI, TO, i1, i2]) (fun c o hb q =>
      hk c o (fun q' => hb (by simp [q'])) (fun q' => hb (by simp [q'])) (fun q' => hb (by simp [q'])) (fun q' => hb (by simp [q'])) q) hf⟩
  self := fun A i s Q E st h => wpAny_pyIter_zip st.1 h
def iZipM (K : PySem.W.Frag) (ta : TA) : TI := fun σ H R => ta σ H fun vs H1 => ∃ a b xs ys, vs = [.ref a, .ref b] ∧ SqL K H1 a xs ∧ SqT K H1 b ys ∧ R (ItzM K a b) H1
theorem pi_zipM {X : Cx} {e e2 : Expr} {ta : TA} {p pos tpos : Pos} {elts : List Expr} {kk : Nat} (hg : Gl X "zip") (hm : X.mg "zip" = none) (ha : PA X [e, e2] ta)
    (hs : starEach [e, e2] X.env = (false, eval e X.env) :: starEach [e2] X.env := by rfl) (hpl : (backTo pos (starEach [e2] X.env)).any (·.1) = false := by rfl) :
    PI X (.Tuple elts kk tpos) (.Call (.Name "zip" p) [e, e2] [] pos) (iZipM X.K ta) := by
  refine ⟨fun pins s σ H R I h => ?_⟩
  refine Call_ (ld_blt I hg hm PyProof.Rows.boot_zip (PyProof.Rows.callWith_type1 (thn (ha.run pos pins s σ H _ I h) fun us s1 ⟨vs, H1, I1, r1, q1⟩ => ?_) hs hpl))
  obtain ⟨a, b, xs, ys, ex, hqx, hqy, q⟩ := q1
  subst ex
  cases r1 with
  | cons r rr =>
    cases rr with
    | cons r' rr =>
      cases rr
      cases r
      cases r'
      have fresh5 : ∀ c, c ∈ [s1.heap.objs.size + 4, s1.heap.objs.size + 2, s1.heap.objs.size + 3, s1.heap.objs.size, s1.heap.objs.size + 1] → FpOk X pins H1 c := fun c hcm => by
        have e' : c = s1.heap.objs.size + 4 ∨ c = s1.heap.objs.size + 2 ∨ c = s1.heap.objs.size + 3 ∨ c = s1.heap.objs.size ∨ c = s1.heap.objs.size + 1 := by simpa using hcm
        have hle : s1.heap.objs.size ≤ c := by
          rcases e' with z | z | z | z | z
          · rw [z]; exact Nat.le_add_right _ _
          · rw [z]; exact Nat.le_add_right _ _
          · rw [z]; exact Nat.le_add_right _ _
          · rw [z]; exact Nat.le_refl _
          · rw [z]; exact Nat.le_add_right _ _
        exact I1.fpOk hle (I1.hok.fresh hle)
      obtain ⟨its, rv, p1, _⟩ := I1.list hqx
      obtain ⟨its2, rv2, p2, _⟩ := I1.tuple hqy
      have p2' : s1.heap.IsTuple b its2.toArray := p2
      obtain ⟨o2, ho2, _⟩ := id p2
      have hb : b < s1.heap.objs.size := Heap.lt_size ho2
      have ha' : a < s1.heap.objs.size := p1.lt
      have sep : ZipSep2 (s1.heap.objs.size + 4) (s1.heap.objs.size + 2) (s1.heap.objs.size + 3) s1.heap.objs.size (s1.heap.objs.size + 1) [s1.heap.objs.size, a] [s1.heap.objs.size + 1, b] :=
        zip_sep2 (fun c hc => by rw [List.mem_singleton.mp hc]; exact ha') (fun c hc => by rw [List.mem_singleton.mp hc]; exact hb)
      refine zip_begins2 (begins_list a its.toArray) (begins_tuple b its2.toArray) p1.isList p2' fun h' hz hTI hTO h1 h2 hsz hk => wpAny_pyIter_zip hz ?_
      have I2 : Inv X pins σ H1 { s1 with heap := h' } := I1.kept (t' := s1.toks) hk
      exact ⟨s1.heap.objs.size + 4, [s1.heap.objs.size + 4, s1.heap.objs.size + 2, s1.heap.objs.size + 3, s1.heap.objs.size, s1.heap.objs.size + 1], _, _, H1, rfl, I2, turn_zipM sep (Nat.ne_of_lt ha') (Nat.ne_of_lt (Nat.lt_succ_of_lt hb)), ⟨hz, hTI, ⟨_, _, hTO⟩, ⟨_, h1, rfl, rfl⟩, ⟨_, h2, rfl, rfl⟩⟩, fresh5, q⟩
theorem walk_zipM {K : PySem.W.Frag} {a b : Addr} {xs ys : List V} (hl : xs.length = ys.length) : Walk (ItzM K a b) xs.length (fun H => SqL K H a xs ∧ SqT K H b ys) (YPair (fun i => xs[i]?) (fun i => ys[i]?)) := by
  refine ⟨fun i _ hi q => ⟨xs, ys, xs[i], ys[i]'(by omega), q.1, q.2, by simp [hi], by simp [show i < ys.length by omega]⟩, fun _ q => ⟨xs, ys, q.1, q.2, rfl, hl⟩, fun i H v H' _ q y => ?_⟩
  obtain ⟨T, x, z, h1, h2, h3, h4, h5⟩ := y
  exact ⟨T, x, z, h1, h2, h3, h4 xs q.1, h5 ys q.2⟩
/-- zip of two tuples -/
theorem walk_zipT {K : PySem.W.Frag} {a b : Addr} {xs ys : List V} {n : Nat} (hn : n = min xs.length ys.length) : Walk (RZ.ItzT K a b) n (fun H => SqT K H a xs ∧ SqT K H b ys) (YPair (fun i => xs[i]?) (fun i => ys[i]?)) := by
  subst hn
  refine ⟨fun i _ hi q => ?_, fun _ q => ⟨xs, ys, q.1, q.2, by omega⟩, fun i H v H' _ q y => ?_⟩
  · have h1 : i < xs.length := by omega
    have h2 : i < ys.length := by omega
    exact ⟨xs, ys, xs[i], ys[i], q.1, q.2, by simp [h1], by simp [h2]⟩
  · obtain ⟨T, x, z, h1, h2, h3, h4, h5⟩ := y
    exact ⟨T, x, z, h1, h2, h3, h4 xs q.1, h5 ys q.2⟩
end Tb
end
section
set_option Elab.async false
set_option linter.all false
set_option maxRecDepth 100000
set_option maxHeartbeats 2000000
/-! Data made of tuples, and the rules by which it is read. -/
namespace Tb
open PySem PySem.Spec PyProof.Rows L2
/-- every tuple that could be read can be read -/
def Keep (K : PySem.W.Frag) (H H' : Hp) : Prop := ∀ a xs, SqT K H a xs → SqT K H' a xs
theorem Keep.refl {K : PySem.W.Frag} (H : Hp) : Keep K H H := fun _ _ h => h
theorem Keep.trans {K : PySem.W.Frag} {H H1 H2 : Hp} (a : Keep K H H1) (b : Keep K H1 H2) : Keep K H H2 := fun c o h => b c o (a c o h)
theorem keep_same {K : PySem.W.Frag} {H H' : Hp} (e : Same H H') : Keep K H H' := fun _ _ h => Evl.ex_t e h
/-- what is no tuple, locked or not -/
def noTup : HO → Bool
  | .tup _ => false
  | .frz _ (.tup _) => false
  | _ => true
theorem keep_upd {K : PySem.W.Frag} {H : Hp} {l : Addr} {o p : HO} (h : H l = some o) (hn : noTup o = true) : Keep K H (upd H l p) := by
  intro a xs q
  have key : ∀ u, H a = some u → noTup u = false → upd H l p a = some u := fun u hu nu => by
    have : a ≠ l := fun e => by
      rw [e, h] at hu
      cases hu
      rw [hn] at nu
      cases nu
    rw [upd_ne this]
    exact hu
  rcases q with (q | ⟨o', q⟩) | q
  · exact .inl (.inl (key _ q rfl))
  · exact .inl (.inr ⟨o', key _ q rfl⟩)
  · exact .inr q
theorem same_new {H : Hp} {p : Addr} {o : HO} (h : H p = none) : Same H (upd H p o) := Evl.Ex.new h
theorem keep_new {K : PySem.W.Frag} {H : Hp} {p : Addr} {o : HO} (h : H p = none) : Keep K H (upd H p o) := keep_same (same_new h)
/-- data of tuples, Nones, bools, ints, texts -/
inductive Tp (K : PySem.W.Frag) (H : Hp) : V → PyData → Prop
  | non : Tp K H .non .none
  | bl (b : Bool) : Tp K H (.bl b) (.bool b)
  | int (i : Int) : Tp K H (.int i) (.int i)
  | str (x : Str) : Tp K H (.str x) (.str x)
  | tup {a : Addr} {xs : List V} {ds : List PyData} (hs : SqT K H a xs) (hl : xs.length = ds.length) (he : ∀ (i : Nat) v d, xs[i]? = some v → ds[i]? = some d → Tp K H v d) : Tp K H (.ref a) (.tuple ds)
/-- item by item -/
def TpAll (K : PySem.W.Frag) (H : Hp) (xs : List V) (ds : List PyData) : Prop := xs.length = ds.length ∧ ∀ (i : Nat) v d, xs[i]? = some v → ds[i]? = some d → Tp K H v d
section
variable {K : PySem.W.Frag} {H H' : Hp} {v w : V} {d e : PyData} {xs ys : List V} {ds es : List PyData}
theorem Tp.mono (k : Keep K H H') (h : Tp K H v d) : Tp K H' v d := by
  induction h with
  | non => exact .non
  | bl b => exact .bl b
  | int i => exact .int i
  | str x => exact .str x
  | tup hs hl he ih => exact .tup (k _ _ hs) hl ih
theorem TpAll.mono (k : Keep K H H') (h : TpAll K H xs ds) : TpAll K H' xs ds := ⟨h.1, fun i v d a b => (h.2 i v d a b).mono k⟩
theorem Tp.of {a : Addr} (hs : SqT K H a xs) (h : TpAll K H xs ds) : Tp K H (.ref a) (.tuple ds) := .tup hs h.1 h.2
theorem Tp.inv (h : Tp K H v (.tuple ds)) : ∃ a xs, v = .ref a ∧ SqT K H a xs ∧ TpAll K H xs ds := by
  cases h with
  | tup hs hl he => exact ⟨_, _, rfl, hs, hl, he⟩
theorem Tp.int_inv {i : Int} (h : Tp K H v (.int i)) : v = .int i := by cases h; rfl
theorem Tp.str_inv {i : Str} (h : Tp K H v (.str i)) : v = .str i := by cases h; rfl
theorem Tp.non_inv (h : Tp K H v .none) : v = .non := by cases h; rfl
theorem TpAll.nil : TpAll K H [] [] := ⟨rfl, fun i v d a _ => by simp at a⟩
theorem TpAll.cons (h : Tp K H v d) (t : TpAll K H xs ds) : TpAll K H (v :: xs) (d :: ds) := by
  refine ⟨by simp [t.1], fun i a b p q => ?_⟩
  cases i with
  | zero =>
    simp at p q
    subst p; subst q
    exact h
  | succ i =>
    simp at p q
    exact t.2 i a b p q
theorem TpAll.inv (t : TpAll K H xs (d :: ds)) : ∃ v ys, xs = v :: ys ∧ Tp K H v d ∧ TpAll K H ys ds := by
  cases xs with
  | nil => have := t.1; simp at this
  | cons v ys =>
    refine ⟨v, ys, rfl, t.2 0 v d rfl rfl, by have := t.1; simpa using this, fun i a b p q => t.2 (i + 1) a b (by simpa using p) (by simpa using q)⟩
theorem TpAll.inv0 (t : TpAll K H xs []) : xs = [] := List.length_eq_zero_iff.mp t.1
theorem TpAll.get (t : TpAll K H xs ds) {i : Nat} (h : ds[i]? = some d) : ∃ v, xs[i]? = some v ∧ Tp K H v d := by
  have hi := (List.getElem?_eq_some_iff.mp h).1
  have : i < xs.length := by rw [t.1]; exact hi
  exact ⟨xs[i], List.getElem?_eq_getElem this, t.2 i _ _ (List.getElem?_eq_getElem this) h⟩
theorem TpAll.append (t : TpAll K H xs ds) (u : TpAll K H ys es) : TpAll K H (xs ++ ys) (ds ++ es) := by
  refine ⟨by simp [t.1, u.1], fun i a b p q => ?_⟩
  by_cases hi : i < xs.length
  · rw [List.getElem?_append_left hi] at p
    rw [List.getElem?_append_left (by rw [← t.1]; exact hi)] at q
    exact t.2 i a b p q
  · rw [List.getElem?_append_right (by omega)] at p
    rw [List.getElem?_append_right (by rw [← t.1]; omega), ← t.1] at q
    exact u.2 _ a b p q
theorem TpAll.take (t : TpAll K H xs ds) (n : Nat) : TpAll K H (xs.take n) (ds.take n) := by
  refine ⟨by simp [t.1], fun i a b p q => ?_⟩
  rw [List.getElem?_take] at p q
  split at p
  · rename_i h
    rw [if_pos h] at q
    exact t.2 i a b p q
  · cases p
theorem TpAll.drop (t : TpAll K H xs ds) (n : Nat) : TpAll K H (xs.drop n) (ds.drop n) := by
  refine ⟨by simp [t.1], fun i a b p q => ?_⟩
  rw [List.getElem?_drop] at p q
  exact t.2 _ a b p q
theorem TpAll.rev (t : TpAll K H xs ds) : TpAll K H xs.reverse ds.reverse := by
  refine ⟨by simp [t.1], fun i a b p q => ?_⟩
  have hi : i < xs.length := by
    have := (List.getElem?_eq_some_iff.mp p).1
    simpa using this
  rw [List.getElem?_reverse hi] at p
  rw [List.getElem?_reverse (by rw [← t.1]; exact hi), ← t.1] at q
  exact t.2 _ a b p q
theorem TpAll.map {α : Type} {f : α → V} {g : α → PyData} (l : List α) (h : ∀ x, x ∈ l → Tp K H (f x) (g x)) : TpAll K H (l.map f) (l.map g) := by
  refine ⟨by simp, fun i a b p q => ?_⟩
  rw [List.getElem?_map] at p q
  cases e : l[i]? with
  | none => rw [e] at p; cases p
  | some x =>
    rw [e] at p q
    cases p; cases q
    exact h x (List.mem_of_getElem? e)
theorem TpAll.one (h : Tp K H v d) : TpAll K H [v] [d] := .cons h .nil
theorem Tp.dp (h : Tp K H v d) : Dp K H v d := by
  induction h with
  | non => exact .non
  | bl b => exact .bl b
  | int i => exact .int i
  | str x => exact .str x
  | @tup a xs ds hs hl he ih =>
    refine .tup hs ?_
    clear hs he
    induction xs generalizing ds with
    | nil =>
      cases ds with
      | nil => exact .nil
      | cons d ds => simp at hl
    | cons v xs ihx =>
      cases ds with
      | nil => simp at hl
      | cons d ds =>
        exact .cons (ih 0 v d rfl rfl) (ihx (by simpa using hl) fun i a b p q => ih (i + 1) a b (by simpa using p) (by simpa using q))
theorem TpAll.dp (t : TpAll K H xs ds) : DpAll K H xs ds := by
  induction ds generalizing xs with
  | nil =>
    rw [t.inv0]
    exact .nil
  | cons d ds ih =>
    obtain ⟨v, ys, rfl, h, t'⟩ := t.inv
    exact .cons h.dp (ih t')
/-- its kind -/
theorem Tp.tyT (h : Tp K H v (.tuple ds)) : TyX K H v (.type "tuple") := by
  obtain ⟨a, xs, rfl, hs, _⟩ := h.inv
  rcases hs with (hs | ⟨o, hs⟩) | ⟨o, its, n, hk, hc, _⟩
  · exact .base (.tup hs)
  · exact .fTuple hs
  · exact .kTuple hk hc
theorem Tp.tyI {i : Int} (h : Tp K H v (.int i)) : TyX K H v (.type "int") := by
  cases h
  exact .base (.int _)
theorem Tp.tyN (h : Tp K H v .none) : TyX K H v (.type "NoneType") := by
  cases h
  exact .base .non
end
/-! ### rules -/
section
variable {X : Cx}
/-- x[i], i not below 0 -/
def rIxD (K : PySem.W.Frag) : R2 := fun x y H Q => ∃ (ds : List PyData) (i : Nat) (d : PyData), Tp K H x (.tuple ds) ∧ y = .int (i : Nat) ∧ ds[i]? = some d ∧ ∀ v, Tp K H v d → Q v H
theorem ix_D (K : PySem.W.Frag) (hK : X.K = K := by rfl) : IxR X (rIxD K) := by
  subst hK
  intro ve se pins s σ H x y v u Q I rx ry h hsub
  obtain ⟨ds, i, d, hx, rfl, hi, q⟩ := h
  obtain ⟨a, xs, rfl, hs, t⟩ := hx.inv
  obtain ⟨w, hw, tw⟩ := t.get hi
  exact ix_tup ve se pins s σ H _ _ v u Q I rx ry ⟨a, xs, _, w, rfl, rfl, hs, atI_nat hw, q w tw⟩ hsub
theorem atI_end {α : Type} {xs : List α} {x : α} (h : xs.getLast? = some x) : atI xs (-1) = some x := by
  rw [List.getLast?_eq_getElem?] at h
  have hl : 0 < xs.length := by
    have := (List.getElem?_eq_some_iff.mp h).1
    omega
  have e : ixN xs.length (-1) = some (xs.length - 1) := by
    unfold ixN
    rw [if_neg (by decide), if_pos (by omega)]
    congr 1
    omega
  unfold atI
  rw [e]
  exact h
/-- x[-1] -/
def rIxDl (K : PySem.W.Frag) : R2 := fun x y H Q => ∃ (ds : List PyData) (d : PyData), Tp K H x (.tuple ds) ∧ y = .int (-1) ∧ ds.getLast? = some d ∧ ∀ v, Tp K H v d → Q v H
theorem ix_Dl (K : PySem.W.Frag) (hK : X.K = K := by rfl) : IxR X (rIxDl K) := by
  subst hK
  intro ve se pins s σ H x y v u Q I rx ry h hsub
  obtain ⟨ds, d, hx, rfl, hi, q⟩ := h
  obtain ⟨a, xs, rfl, hs, t⟩ := hx.inv
  rw [List.getLast?_eq_getElem?] at hi
  obtain ⟨w, hw, tw⟩ := t.get hi
  rw [← t.1, ← List.getLast?_eq_getElem?] at hw
  exact ix_tup ve se pins s σ H _ _ v u Q I rx ry ⟨a, xs, _, w, rfl, rfl, hs, atI_end hw, q w tw⟩ hsub
def cutD (ds : List PyData) (lo hi : Option Int) : List PyData := (ds.drop (HT.sIx ds.length 0 lo)).take (HT.sIx ds.length ds.length hi - HT.sIx ds.length 0 lo)
def rSlD (K : PySem.W.Frag) : V → Option Int → Option Int → Hp → VK → Prop := fun x lo hi H Q => ∃ ds, Tp K H x (.tuple ds) ∧ ∀ v H', Same H H' → Tp K H' v (.tuple (cutD ds lo hi)) → Q v H'
theorem sIx_le {n d : Nat} {o : Option Int} (h : d ≤ n) : HT.sIx n d o ≤ n := by
  unfold HT.sIx
  split <;> (try split) <;> (try split) <;> omega
theorem sl_D (K : PySem.W.Frag) (hK : X.K = K := by rfl) : SlR X (rSlD K) := by
  subst hK
  intro pins s σ H x v vl vu lo hi sl Q I rx hs pl pu h
  obtain ⟨ds, hx, q⟩ := h
  obtain ⟨a, xs, rfl, ht, t⟩ := hx.inv
  refine sl_tupA pins s σ H _ v vl vu lo hi sl Q I rx hs pl pu ⟨a, xs, rfl, ht, fun w => ?_, fun w p hp => ?_⟩
  · have e : cutD ds lo hi = ds := by
      unfold cutD
      rw [← t.1, w.1, w.2, List.drop_zero, Nat.sub_zero, t.1, List.take_length]
    exact q _ H (Same.refl H) (by rw [e]; exact hx)
  · refine q _ _ (same_new hp) (Tp.of (.inl (.inl upd_same)) ?_)
    have := ((t.drop (HT.sIx ds.length 0 lo)).take (HT.sIx ds.length ds.length hi - HT.sIx ds.length 0 lo)).mono (keep_new (K := X.K) (o := .tup (cutV xs lo hi)) hp)
    have e : cutV xs lo hi = (xs.drop (HT.sIx ds.length 0 lo)).take (HT.sIx ds.length ds.length hi - HT.sIx ds.length 0 lo) := by
      unfold cutV
      rw [t.1]
    rw [e] at this ⊢
    exact this
/-- x + y -/
def rCatD (K : PySem.W.Frag) : R2 := fun x y H Q => ∃ ds es, Tp K H x (.tuple ds) ∧ Tp K H y (.tuple es) ∧ ds.length + es.length ≤ sizeLine ∧ ∀ v H', Same H H' → Tp K H' v (.tuple (ds ++ es)) → Q v H'
theorem op_catD (K : PySem.W.Frag) (hK : X.K = K := by rfl) : OpR X (binaryOp .Add) (rCatD K) := by
  subst hK
  intro pins s σ H x y v u Q I rx ry h
  obtain ⟨ds, es, hx, hy, hz, q⟩ := h
  obtain ⟨a, xs, rfl, ht, t⟩ := hx.inv
  obtain ⟨b, ys, rfl, ht2, t2⟩ := hy.inv
  refine op_catA pins s σ H _ _ v u Q I rx ry ⟨a, b, xs, ys, rfl, rfl, ht, ht2, by rw [t.1, t2.1]; exact hz, fun e => ?_, fun _ e => ?_, fun _ _ p hp => ?_⟩
  · have : ds = [] := by
      have := t.1
      rw [e] at this
      exact List.length_eq_zero_iff.mp this.symm
    subst this
    exact q _ H (Same.refl H) hy
  · have : es = [] := by
      have := t2.1
      rw [e] at this
      exact List.length_eq_zero_iff.mp this.symm
    subst this
    exact q _ H (Same.refl H) (by rw [List.append_nil]; exact hx)
  · exact q _ _ (same_new hp) (Tp.of (.inl (.inl upd_same)) ((t.append t2).mono (keep_new hp)))
/-- len(x) -/
def rLenT (K : PySem.W.Frag) : List V → Hp → VK → Prop := fun xs H Q => ∃ v ds, xs = [v] ∧ Tp K H v (.tuple ds) ∧ Q (.int (ds.length : Nat)) H
theorem call_lenT (K : PySem.W.Frag) (hK : X.K = K := by rfl) : CallR X (.builtin "len") (rLenT K) := by
  subst hK
  intro pins s σ H xs us Q I r h
  obtain ⟨v, ds, rfl, hx, q⟩ := h
  obtain ⟨a, ys, rfl, ht, t⟩ := hx.inv
  exact call_len_seq pins s σ H _ us Q I r ⟨a, ys, rfl, .inr ht, by rw [t.1]; exact q⟩
/-- tuple(l), l a list of such data -/
def rTupD (K : PySem.W.Frag) : List V → Hp → VK → Prop := fun xs H Q => ∃ l ys ds, xs = [.ref l] ∧ SqL K H l ys ∧ TpAll K H ys ds ∧ ∀ v H', Same H H' → Tp K H' v (.tuple ds) → Q v H'
theorem call_tupD (K : PySem.W.Frag) (hK : X.K = K := by rfl) : CallR X (.type "tuple") (rTupD K) := by
  subst hK
  intro pins s σ H xs us Q I r h
  obtain ⟨l, ys, ds, rfl, hl, t, q⟩ := h
  exact call_tuple_of pins s σ H _ us Q I r ⟨l, ys, rfl, .inl ⟨hl, fun p hp => q _ _ (same_new hp) (Tp.of (.inl (.inl upd_same)) (t.mono (keep_new hp)))⟩⟩
/-- list(t) -/
def rLstD (K : PySem.W.Frag) : List V → Hp → VK → Prop := fun xs H Q => ∃ v ds, xs = [v] ∧ Tp K H v (.tuple ds) ∧ ∀ l ys, H l = none → TpAll K H ys ds → Q (.ref l) (upd H l (.lst ys))
theorem call_lstD (K : PySem.W.Frag) (hK : X.K = K := by rfl) : CallR X (.type "list") (rLstD K) := by
  subst hK
  intro pins s σ H xs us Q I r h
  obtain ⟨v, ds, rfl, hx, q⟩ := h
  obtain ⟨a, ys, rfl, ht, t⟩ := hx.inv
  exact call_list_of pins s σ H _ us Q I r ⟨a, ys, rfl, .inr ht, fun l hl => q l ys hl t⟩
/-- == and != -/
def rEqT (K : PySem.W.Frag) : R2 := fun x y H Q => ∃ d e, Tp K H x d ∧ Tp K H y e ∧ SeqAt.shaped d = true ∧ SeqAt.shaped e = true ∧ Q (.bl (PyData.eqv d e)) H
def rNeT (K : PySem.W.Frag) : R2 := fun x y H Q => ∃ d e, Tp K H x d ∧ Tp K H y e ∧ SeqAt.shaped d = true ∧ SeqAt.shaped e = true ∧ Q (.bl (!PyData.eqv d e)) H
theorem op_eqT (K : PySem.W.Frag) (hu : X.A.units + 64 < cLine) (hK : X.K = K := by rfl) : OpR X (compareOp .Eq) (rEqT K) := by
  subst hK
  intro pins s σ H x y v u Q I rx ry h
  obtain ⟨d, e, h1, h2, h3, h4, q⟩ := h
  exact op_eqD hu pins s σ H _ _ v u Q I rx ry ⟨d, e, h1.dp, h2.dp, h3, h4, q⟩
theorem op_neT (K : PySem.W.Frag) (hu : X.A.units + 64 < cLine) (hK : X.K = K := by rfl) : OpR X (compareOp .NotEq) (rNeT K) := by
  subst hK
  intro pins s σ H x y v u Q I rx ry h
  obtain ⟨d, e, h1, h2, h3, h4, q⟩ := h
  exact op_neD hu pins s σ H _ _ v u Q I rx ry ⟨d, e, h1.dp, h2.dp, h3, h4, q⟩
/-- (a, b, ..) of such data -/
def tTupD (K : PySem.W.Frag) (ta : TA) : TE := fun σ H Q => ta σ H fun vs H1 => ∃ ds, TpAll K H1 vs ds ∧ ds.length ≤ sizeLine ∧ ∀ v H', Same H1 H' → Tp K H' v (.tuple ds) → Q v H'
theorem tup_D {ta : TA} {σ : L2.St} {H : Hp} {Q : VK} (h : tTupD X.K ta σ H Q) (mono : ∀ {σ H} {Q R : List V → Hp → Prop}, (∀ vs H, Q vs H → R vs H) → ta σ H Q → ta σ H R) : tTup ta σ H Q := by
  refine mono (fun vs H1 h => ?_) h
  obtain ⟨ds, t, hz, q⟩ := h
  exact ⟨by rw [t.1]; exact hz, fun p hp => q _ _ (same_new hp) (Tp.of (.inl (.inl upd_same)) (t.mono (keep_new hp)))⟩
/-- a walk over such data -/
theorem walk_D {K : PySem.W.Frag} {a : Addr} {xs : List V} : Walk (Itt K a) xs.length (fun H => SqT K H a xs) (YAt xs) := walk_tup
end
end Tb
end
section
set_option Elab.async false
set_option linter.all false
set_option maxRecDepth 100000
set_option maxHeartbeats 2000000
/-! The program by places; the data as Python holds it. -/
namespace Tb
open PySem PySem.Spec PyProof.Rows L2
def top (i : Nat) : Stmt := PySem.Challenge.pw_turnback_k25_whole_rings_of_waits.main.body.getD i (.Pass ⟨0, 0, 0, 0⟩)
/-- where a def of the module stands -/
structure Dn (K : PySem.W.Frag) (mg : Str → Option Value) (x : Str) (f : Addr) (fd : FuncData) (ps : List Str) : Prop where
  mgf : mg x = some (.ref f)
  kp : PySem.W.keepIn K (.ref f) = true
  b : Binds K fd ps []
/-- the built-in names that the module leaves alone, its written numbers -/
structure Bt (mg : Str → Option Value) : Prop where
  len : mg "len" = none
  isi : mg "isinstance" = none
  tuple : mg "tuple" = none
  list : mg "list" = none
  int : mg "int" = none
  bool : mg "bool" = none
  all : mg "all" = none
  zip : mg "zip" = none
  range : mg "range" = none
  dict : mg "dict" = none
  enumerate : mg "enumerate" = none
  sorted : mg "sorted" = none
  max : mg "max" = none
  min : mg "min" = none
  repr : mg "repr" = none
  verr : mg "ValueError" = none
  nodes : ∃ t, mg "MOST_NODES" = some (.int 60 t)
  ties : ∃ t, mg "MOST_TIES" = some (.int 8 t)
  walkers : ∃ t, mg "MOST_WALKERS" = some (.int 6 t)
/-! ### the data -/
def dNat (n : Nat) : PyData := .int (n : Int)
def dTie : Option Nat → PyData
  | none => .none
  | some n => dNat n
def dRow (r : Row) : PyData := .tuple (r.map dTie)
def dWeb (W : Web) : PyData := .tuple (W.map dRow)
def dNats (l : List Nat) : PyData := .tuple (l.map dNat)
inductive Spot where
  | root (r : Nat)
  | at (x : Nat) (b : Option Nat)
def dSpot : Spot → PyData
  | .root r => dNat r
  | .at x b => .tuple [dNat x, dTie b]
def dState (W : Web) (M C : List Nat) (hs : List Spot) : PyData := .tuple [dWeb W, dNats M, dNats C, .tuple (hs.map dSpot)]
def vNat (n : Nat) : V := .int (n : Int)
def vTie : Option Nat → V
  | none => .non
  | some n => vNat n
def TiesLt (r : Row) (n : Nat) : Prop := ∀ t, some t ∈ r → t < n
def SpotLt (n : Nat) : Spot → Prop
  | .root r => r < n
  | .at x b => x < n ∧ ∀ y, b = some y → y < n
section
variable {K : PySem.W.Frag} {H : Hp} {v : V}
theorem tie_val {t : Option Nat} (h : Tp K H v (dTie t)) : v = vTie t := by
  cases t with
  | none => exact h.non_inv
  | some n => exact h.int_inv
theorem nat_val {n : Nat} (h : Tp K H v (dNat n)) : v = vNat n := h.int_inv
theorem tp_nat (n : Nat) : Tp K H (vNat n) (dNat n) := .int _
theorem tp_tie (t : Option Nat) : Tp K H (vTie t) (dTie t) := by
  cases t with
  | none => exact .non
  | some n => exact .int _
theorem get_map {α : Type} {f : α → PyData} {l : List α} {i : Nat} {x : α} (h : l[i]? = some x) : (l.map f)[i]? = some (f x) := by rw [List.getElem?_map, h]; rfl
theorem get_mapV {α : Type} {f : α → V} {l : List α} {i : Nat} {x : α} (h : l[i]? = some x) : (l.map f)[i]? = some (f x) := by rw [List.getElem?_map, h]; rfl
theorem all_rep (n : Nat) : (List.replicate n true).all id = true := by simp
theorem rep_snoc (n : Nat) : (List.replicate n true).map V.bl ++ [V.bl true] = (List.replicate (n + 1) true).map V.bl := by
  rw [List.replicate_succ', List.map_append]
  rfl
/-- what a walk over the tuple at v yields -/
theorem TpAll.turn {xs : List V} {ds : List PyData} (t : TpAll K H xs ds) {i : Nat} {x : V} (h : xs[i]? = some x) : ∃ d, ds[i]? = some d ∧ Tp K H x d := by
  have hi := (List.getElem?_eq_some_iff.mp h).1
  have : i < ds.length := by rw [← t.1]; exact hi
  exact ⟨ds[i], List.getElem?_eq_getElem this, t.2 i x _ h (List.getElem?_eq_getElem this)⟩
end
end Tb
end
section
set_option Elab.async false
set_option linter.all false
set_option maxRecDepth 100000
set_option maxHeartbeats 2000000
/-! words, webs: is_whole, is_among, is_row_of, is_web, is_node. -/
namespace Tb
open PySem PySem.Spec PyProof.Rows L2
abbrev sWhole : Stmt := top 11
abbrev sAmong : Stmt := top 12
abbrev sRowOf : Stmt := top 16
abbrev sIsWeb : Stmt := top 17
abbrev sNode : Stmt := top 18
/-! ### promises -/
def spWhole (K : PySem.W.Frag) : Sp := fun vs H Q _ => ∃ v, vs = [v] ∧ ((∃ i, v = .int i ∧ Q (.bl true) H) ∨ (TyX K H v (.type "tuple") ∧ Q (.bl false) H))
def spAmong (K : PySem.W.Frag) : Sp := fun vs H Q _ => ∃ v lo hi, vs = [v, .int lo, .int hi] ∧ ((∃ i, v = .int i ∧ lo ≤ i ∧ i ≤ hi ∧ Q (.bl true) H) ∨ (TyX K H v (.type "tuple") ∧ Q (.bl false) H))
def spRowOf (K : PySem.W.Frag) : Sp := fun vs H Q _ => ∃ v r n, vs = [v, vNat n] ∧ Tp K H v (dRow r) ∧ r.length ≤ 8 ∧ TiesLt r n ∧ ∀ H', Same H H' → Q (.bl true) H'
def spIsWeb (K : PySem.W.Frag) : Sp := fun vs H Q _ => ∃ v W, vs = [v] ∧ Tp K H v (dWeb W) ∧ 1 ≤ W.length ∧ W.length ≤ 60 ∧ (∀ r, r ∈ W → r.length ≤ 8 ∧ TiesLt r W.length) ∧ ∀ H', Same H H' → Q (.bl true) H'
def spNode (K : PySem.W.Frag) : Sp := fun vs H Q _ => ∃ w v W, vs = [w, v] ∧ Tp K H w (dWeb W) ∧ ((∃ n, v = vNat n ∧ n < W.length ∧ Q (.bl true) H) ∨ (TyX K H v (.type "tuple") ∧ Q (.bl false) H))
section
variable {P : Program} {w : World} {K : PySem.W.Frag} {mg : Str → Option Value} {base : Heap}
theorem scWhole : FnScope ["thing"] ["thing"] (defScope sWhole) := ⟨rfl, rfl, rfl, by decide +kernel, rfl, by decide +kernel, by decide +kernel⟩
theorem ok_whole {f : Addr} {fd : FuncData} (F : Fun K "is_whole" "is_whole" sWhole f fd) (T : Bt mg) : FnOk P w K mg base CX0 1 f fd ["thing"] (spWhole K) := by
  refine F.ok scWhole (fun vs H Q E h => ?_) (fun cdv A outer s H vs Q E hr h => ?_)
  · obtain ⟨v, rfl, _⟩ := h
    rfl
  · obtain ⟨v, rfl, h⟩ := h
    refine ⟨_, pss_one (ps_ret (pe_and (pe_callB call_isi (by rfl) T.isi (by decide +kernel) (pa_cons (pv 0) (pa_cons (pe_bltn (v := .ty "int") (by rfl) T.int (by decide +kernel) rfl) pa_nil)))
      (pe_one (pe_not (pe_callB call_isi (by rfl) T.isi (by decide +kernel) (pa_cons (pv 0) (pa_cons (pe_bltn (v := .ty "bool") (by rfl) T.bool (by decide +kernel) rfl) pa_nil))))))), ?_⟩
    rcases h with ⟨i, rfl, q⟩ | ⟨ty, q⟩
    · refine ⟨_, rfl, _, _, _, _, true, rfl, .ty _, .base (.int i), kit_ty (by decide +kernel), _, rfl, iteT ?_⟩
      refine ⟨_, rfl, _, _, _, _, false, rfl, .ty _, .base (.int i), kit_ty (by decide +kernel), _, rfl, ?_⟩
      exact q
    · refine ⟨_, rfl, _, _, _, _, false, rfl, .ty _, ty, kit_ty (by decide +kernel), _, rfl, iteF ?_⟩
      exact q
theorem scAmong : FnScope ["thing", "least", "most"] ["thing", "least", "most"] (defScope sAmong) := ⟨rfl, rfl, rfl, by decide +kernel, rfl, by decide +kernel, by decide +kernel⟩
theorem ok_among {f f1 : Addr} {fd fd1 : FuncData} (F : Fun K "is_among" "is_among" sAmong f fd) (T : Bt mg) (G1 : FnOk P w K mg base CX0 1 f1 fd1 ["thing"] (spWhole K)) (D1 : Dn K mg "is_whole" f1 fd1 ["thing"]) :
    FnOk P w K mg base CX0 2 f fd ["thing", "least", "most"] (spAmong K) := by
  refine F.ok scAmong (fun vs H Q E h => ?_) (fun cdv A outer s H vs Q E hr h => ?_)
  · obtain ⟨v, lo, hi, rfl, _⟩ := h
    rfl
  · obtain ⟨v, lo, hi, rfl, h⟩ := h
    refine ⟨_, pss_one (ps_ret (pe_and (pe_call G1 hr (by rfl) D1.mgf D1.kp D1.b .nil pass0 (pa_cons (pv 0) pa_nil)) (pe_one (pe_chain op_le op_le (pv 1) (pv 0) (pv 2))))), ?_⟩
    rcases h with ⟨i, rfl, h1, h2, q⟩ | ⟨ty, q⟩
    · refine ⟨_, rfl, _, rfl, .inl ⟨i, rfl, _, rfl, iteT ?_⟩⟩
      refine ⟨_, rfl, _, rfl, _, _, rfl, rfl, _, rfl, ?_⟩
      rw [decide_eq_true h1]
      refine iteT ⟨_, rfl, _, _, rfl, rfl, ?_⟩
      show Q (V.bl (decide (i ≤ hi))) H
      rw [decide_eq_true h2]
      exact q
    · exact ⟨_, rfl, _, rfl, .inr ⟨ty, _, rfl, iteF q⟩⟩
abbrev nRowOf : List Str := ["thing", "many", "tie"]
theorem scRowOf : FnScope nRowOf ["thing", "many"] (defScope sRowOf) := ⟨rfl, rfl, rfl, by decide +kernel, rfl, by decide +kernel, by decide +kernel⟩
theorem ok_rowof {f f1 : Addr} {fd fd1 : FuncData} (F : Fun K "is_row_of" "is_row_of" sRowOf f fd) (T : Bt mg) (G1 : FnOk P w K mg base CX0 2 f1 fd1 ["thing", "least", "most"] (spAmong K)) (D1 : Dn K mg "is_among" f1 fd1 ["thing", "least", "most"]) :
    FnOk P w K mg base CX0 3 f fd ["thing", "many"] (spRowOf K) := by
  refine F.ok scRowOf (fun vs H Q E h => ?_) (fun cdv A outer s H vs Q E hr h => ?_)
  · obtain ⟨v, r, n, rfl, _⟩ := h
    rfl
  · obtain ⟨v, r, n, rfl, hv, h8, hlt, k⟩ := h
    obtain ⟨t8, m8⟩ := T.ties
    refine ⟨_, pss_cons (ps_if (PW.pt (pw_or (pt_not (pt_val (pe_callB call_isi (by rfl) T.isi (by decide +kernel) (pa_cons (pv 0) (pa_cons (pe_bltn (v := .ty "tuple") (by rfl) T.tuple (by decide +kernel) rfl) pa_nil)))))
        (pw_or1 (pt_cmpR op_gt (pe_callB (call_lenT K) (by rfl) T.len PySem.boot_len (pa_cons (pv 0) pa_nil)) (pe_glob (v := .int 8) rfl m8 ⟨_, rfl⟩) (nomark _))))) (pss_one (ps_ret pe_bl)) pss_nil)
      (pss_one (ps_ret (pe_callB (cr_all rfl) (by rfl) T.all (by decide +kernel) (pa_cons (pe_lc (own := [("tie", 2)]) (g := gName 2) (tt := tYes) rfl scRowOf.nd (pi_tup (pv 0)) (blkOk_by (N := nRowOf) (sc := defScope sRowOf) (by decide +kernel))
        (fun _ _ _ _ _ => pg_name (i := 2) scRowOf.nd rfl (Or.inl rfl)) (fun _ _ _ _ _ => pts_nil)
        (fun _ _ _ _ _ => pe_or (pe_cmpR op_isN (pv 2) pe_non (nomark _)) (pe_one (pe_call G1 hr (by rfl) D1.mgf D1.kp D1.b .nil pass0 (pa_cons (pv 2) (pa_cons pe_int (pa_cons (pe_op op_sub (pv 1) pe_int) pa_nil))))))) pa_nil)))), ?_⟩
    refine ⟨_, rfl, _, _, _, _, true, rfl, .ty _, hv.tyT, kit_ty (by decide +kernel), _, rfl, iteF ?_⟩
    have e8 : decide ((8 : Int) < ((r.map dTie).length : Nat)) = false := decide_eq_false (by rw [List.length_map]; omega)
    refine ⟨_, rfl, _, _, rfl, hv, _, _, rfl, rfl, _, rfl, ?_⟩
    rw [e8]
    refine iteF ?_
    obtain ⟨a, xs, rfl, hS, hA⟩ := hv.inv
    refine ⟨_, rfl, a, rfl, ⟨xs, hS⟩, fun D hD => ?_⟩
    refine lc_tup (K := K) (a := a) (xs := xs) (fun i H1 => Same H H1 ∧ i ≤ xs.length ∧ H1 D = some (.lst ((List.replicate i true).map V.bl))) ⟨same_new hD, Nat.zero_le _, upd_same⟩ (fun i H1 _ p => Evl.ex_t p.1 hS) ?_ ?_
    · rintro i x H1 hx ⟨s1, hi, hL⟩
      obtain ⟨d, hd, hxd⟩ := hA.turn hx
      have hi1 := (List.getElem?_eq_some_iff.mp hx).1
      have hlen : xs.length = r.length := by rw [hA.1, List.length_map]
      rw [List.getElem?_map] at hd
      cases er : r[i]? with
      | none => rw [er] at hd; cases hd
      | some t =>
        rw [er] at hd
        cases hd
        have fin : ∀ H3, H3 = H1 → ∃ acc, H3 D = some (.lst acc) ∧ acc.length < sizeLine ∧ (Same H (upd H3 D (.lst (acc ++ [V.bl true]))) ∧ i + 1 ≤ xs.length ∧ (upd H3 D (.lst (acc ++ [V.bl true]))) D = some (.lst ((List.replicate (i + 1) true).map V.bl))) := fun H3 e3 => by
          subst e3
          refine ⟨_, hL, by rw [List.length_map, List.length_replicate]; exact small1000 (by omega), Evl.Ex.mut s1 hD, hi1, ?_⟩
          rw [upd_same, rep_snoc]
        refine ⟨rfl, ?_⟩
        cases t with
        | none =>
          cases hxd
          exact ⟨_, rfl, rfl, _, rfl, iteT (fin _ rfl)⟩
        | some m =>
          have em := nat_val hxd
          subst em
          refine ⟨_, rfl, rfl, _, rfl, iteF ?_⟩
          have hm := hlt m (List.mem_of_getElem? er)
          refine ⟨_, rfl, _, rfl, _, _, rfl, rfl, _, _, _, rfl, .inl ⟨_, rfl, by omega, by omega, fin _ rfl⟩⟩
    · rintro H1 ⟨s1, _, hL⟩
      refine ⟨D, _, rfl, SqL.of hL, ?_⟩
      rw [all_rep]
      exact k _ s1
abbrev nIsWeb : List Str := ["thing", "row"]
theorem scIsWeb : FnScope nIsWeb ["thing"] (defScope sIsWeb) := ⟨rfl, rfl, rfl, by decide +kernel, rfl, by decide +kernel, by decide +kernel⟩
theorem ok_isweb {f f1 : Addr} {fd fd1 : FuncData} (F : Fun K "is_web" "is_web" sIsWeb f fd) (T : Bt mg) (G1 : FnOk P w K mg base CX0 3 f1 fd1 ["thing", "many"] (spRowOf K)) (D1 : Dn K mg "is_row_of" f1 fd1 ["thing", "many"]) :
    FnOk P w K mg base CX0 4 f fd ["thing"] (spIsWeb K) := by
  refine F.ok scIsWeb (fun vs H Q E h => ?_) (fun cdv A outer s H vs Q E hr h => ?_)
  · obtain ⟨v, W, rfl, _⟩ := h
    rfl
  · obtain ⟨v, W, rfl, hv, w1, w60, hrow, k⟩ := h
    obtain ⟨t6, m6⟩ := T.nodes
    refine ⟨_, pss_cons (ps_if (PW.pt (pw_or (pt_not (pt_val (pe_callB call_isi (by rfl) T.isi (by decide +kernel) (pa_cons (pv 0) (pa_cons (pe_bltn (v := .ty "tuple") (by rfl) T.tuple (by decide +kernel) rfl) pa_nil)))))
        (pw_or1 (pt_not (pt_chain op_le op_le pe_int (pe_callB (call_lenT K) (by rfl) T.len PySem.boot_len (pa_cons (pv 0) pa_nil)) (pe_glob (v := .int 60) rfl m6 ⟨_, rfl⟩)))))) (pss_one (ps_ret pe_bl)) pss_nil)
      (pss_one (ps_ret (pe_callB (cr_all rfl) (by rfl) T.all (by decide +kernel) (pa_cons (pe_lc (own := [("row", 1)]) (g := gName 1) (tt := tYes) rfl scIsWeb.nd (pi_tup (pv 0)) (blkOk_by (N := nIsWeb) (sc := defScope sIsWeb) (by decide +kernel))
        (fun _ _ _ _ _ => pg_name (i := 1) scIsWeb.nd rfl (Or.inl rfl)) (fun _ _ _ _ _ => pts_nil)
        (fun _ _ _ _ _ => pe_call G1 hr (by rfl) D1.mgf D1.kp D1.b .nil pass0 (pa_cons (pv 1) (pa_cons (pe_callB (call_lenT K) (by rfl) T.len PySem.boot_len (pa_cons (pv 0) pa_nil)) pa_nil)))) pa_nil)))), ?_⟩
    refine ⟨_, rfl, _, _, _, _, true, rfl, .ty _, hv.tyT, kit_ty (by decide +kernel), _, rfl, iteF ?_⟩
    have e1 : decide ((1 : Int) ≤ ((W.map dRow).length : Nat)) = true := decide_eq_true (by rw [List.length_map]; omega)
    have e60 : decide ((((W.map dRow).length : Nat) : Int) ≤ 60) = true := decide_eq_true (by rw [List.length_map]; omega)
    refine ⟨_, rfl, _, _, rfl, hv, _, _, rfl, rfl, _, rfl, ?_⟩
    rw [e1]
    refine iteT ⟨_, _, rfl, rfl, _, rfl, ?_⟩
    rw [e60]
    refine iteF ?_
    obtain ⟨a, xs, rfl, hS, hA⟩ := hv.inv
    refine ⟨_, rfl, a, rfl, ⟨xs, hS⟩, fun D hD => ?_⟩
    refine lc_tup (K := K) (a := a) (xs := xs) (fun i H1 => Same H H1 ∧ i ≤ xs.length ∧ H1 D = some (.lst ((List.replicate i true).map V.bl))) ⟨same_new hD, Nat.zero_le _, upd_same⟩ (fun i H1 _ p => Evl.ex_t p.1 hS) ?_ ?_
    · rintro i x H1 hx ⟨s1, hi, hL⟩
      obtain ⟨d, hd, hxd⟩ := hA.turn hx
      have hi1 := (List.getElem?_eq_some_iff.mp hx).1
      have hlen : xs.length = W.length := by rw [hA.1, List.length_map]
      obtain ⟨r, er, ed⟩ := map_get hd
      subst ed
      obtain ⟨r8, rlt⟩ := hrow r (List.mem_of_getElem? er)
      refine ⟨rfl, _, rfl, _, rfl, _, _, rfl, hv.mono (keep_same s1), _, r, W.length, ?_, hxd.mono (keep_same s1), r8, rlt, fun H3 s3 => ?_⟩
      · rw [List.length_map]; rfl
      · have hL3 := s3 _ _ hL
        refine ⟨_, hL3, by rw [List.length_map, List.length_replicate]; exact small1000 (by omega), Evl.Ex.mut (s1.trans s3) hD, hi1, ?_⟩
        rw [upd_same, rep_snoc]
    · rintro H1 ⟨s1, _, hL⟩
      refine ⟨D, _, rfl, SqL.of hL, ?_⟩
      rw [all_rep]
      exact k _ s1
theorem scNode : FnScope ["web", "thing"] ["web", "thing"] (defScope sNode) := ⟨rfl, rfl, rfl, by decide +kernel, rfl, by decide +kernel, by decide +kernel⟩
theorem ok_node {f f1 : Addr} {fd fd1 : FuncData} (F : Fun K "is_node" "is_node" sNode f fd) (T : Bt mg) (G1 : FnOk P w K mg base CX0 2 f1 fd1 ["thing", "least", "most"] (spAmong K)) (D1 : Dn K mg "is_among" f1 fd1 ["thing", "least", "most"]) :
    FnOk P w K mg base CX0 3 f fd ["web", "thing"] (spNode K) := by
  refine F.ok scNode (fun vs H Q E h => ?_) (fun cdv A outer s H vs Q E hr h => ?_)
  · obtain ⟨w, v, W, rfl, _⟩ := h
    rfl
  · obtain ⟨w', v, W, rfl, hw, h⟩ := h
    refine ⟨_, pss_one (ps_ret (pe_call G1 hr (by rfl) D1.mgf D1.kp D1.b .nil pass0 (pa_cons (pv 1) (pa_cons pe_int (pa_cons (pe_op op_sub (pe_callB (call_lenT K) (by rfl) T.len PySem.boot_len (pa_cons (pv 0) pa_nil)) pe_int) pa_nil))))), ?_⟩
    refine ⟨_, rfl, _, rfl, _, _, rfl, hw, _, _, rfl, rfl, _, _, _, rfl, ?_⟩
    have el : ((W.map dRow).length : Int) = (W.length : Int) := by rw [List.length_map]
    rcases h with ⟨n, rfl, hn, q⟩ | ⟨ty, q⟩
    · exact .inl ⟨_, rfl, by omega, by omega, q⟩
    · exact .inr ⟨ty, q⟩
end
end Tb
end
section
set_option Elab.async false
set_option linter.all false
set_option maxRecDepth 100000
set_option maxHeartbeats 2000000
/-! states: are_marks, are_counts, is_spot, is_state, need_state, has_stopped. -/
namespace Tb
open PySem PySem.Spec PyProof.Rows L2
abbrev sMarks : Stmt := top 21
abbrev sCounts : Stmt := top 22
abbrev sSpot : Stmt := top 23
abbrev sIsState : Stmt := top 24
abbrev sNeedState : Stmt := top 25
abbrev sStopped : Stmt := top 26
abbrev g2 (K : PySem.W.Frag) (i j : Nat) : TG := gTup K 2 (gCons (gName i) (gCons (gName j) gNil))
theorem g2_ok {K : PySem.W.Frag} {i j : Nat} {T : Addr} {x y : V} {σ : L2.St} {H : Hp} {Q : L2.St → Hp → Prop} (h : SqT K H T [x, y]) (q : Q ((σ.set i (some x)).set j (some y)) H) : g2 K i j (.ref T) σ H Q :=
  ⟨T, [x, y], rfl, h, rfl, x, [y], rfl, y, [], rfl, rfl, q⟩
/-- a state as the law builds it -/
structure WellS (W : Web) (M C : List Nat) (hs : List Spot) : Prop where
  n1 : 1 ≤ W.length
  n60 : W.length ≤ 60
  rows : ∀ r, r ∈ W → r.length ≤ 8 ∧ TiesLt r W.length
  ml : M.length = W.length
  mks : ∀ m, m ∈ M → m ≤ hs.length
  cl : C.length = W.length
  cnt : ∀ (i c : Nat), C[i]? = some c → c ≤ (rowAt W i).length
  k1 : 1 ≤ hs.length
  k6 : hs.length ≤ 6
  sp : ∀ s, s ∈ hs → SpotLt W.length s
def spMarks (K : PySem.W.Frag) : Sp := fun vs H Q _ => ∃ w v W M k, vs = [w, v, vNat k] ∧ Tp K H w (dWeb W) ∧ Tp K H v (dNats M) ∧ M.length = W.length ∧ M.length ≤ 60 ∧ (∀ m, m ∈ M → m ≤ k) ∧ ∀ H', Same H H' → Q (.bl true) H'
def spCounts (K : PySem.W.Frag) : Sp := fun vs H Q _ => ∃ w v W C, vs = [w, v] ∧ Tp K H w (dWeb W) ∧ Tp K H v (dNats C) ∧ C.length = W.length ∧ C.length ≤ 60 ∧ (∀ (i c : Nat), C[i]? = some c → c ≤ (rowAt W i).length) ∧ ∀ H', Same H H' → Q (.bl true) H'
def spSpot (K : PySem.W.Frag) : Sp := fun vs H Q _ => ∃ w v W s, vs = [w, v] ∧ Tp K H w (dWeb W) ∧ Tp K H v (dSpot s) ∧ SpotLt W.length s ∧ Q (.bl true) H
def spIsState (K : PySem.W.Frag) : Sp := fun vs H Q _ => ∃ v W M C hs, vs = [v] ∧ Tp K H v (dState W M C hs) ∧ WellS W M C hs ∧ ∀ H', Same H H' → Q (.bl true) H'
def spNeedState (K : PySem.W.Frag) : Sp := fun vs H Q _ => ∃ v W M C hs, vs = [v] ∧ Tp K H v (dState W M C hs) ∧ WellS W M C hs ∧ ∀ H', Same H H' → Q .non H'
def isRoot : Spot → Bool
  | .root _ => true
  | .at _ _ => false
def spStopped (K : PySem.W.Frag) : Sp := fun vs H Q _ => ∃ v s, vs = [v] ∧ Tp K H v (dSpot s) ∧ Q (.bl (isRoot s)) H
section
variable {P : Program} {w : World} {K : PySem.W.Frag} {mg : Str → Option Value} {base : Heap}
abbrev nMarks : List Str := ["web", "thing", "many", "mark"]
theorem scMarks : FnScope nMarks ["web", "thing", "many"] (defScope sMarks) := ⟨rfl, rfl, rfl, by decide +kernel, rfl, by decide +kernel, by decide +kernel⟩
theorem ok_marks {f f1 : Addr} {fd fd1 : FuncData} (F : Fun K "are_marks" "are_marks" sMarks f fd) (T : Bt mg) (G1 : FnOk P w K mg base CX0 2 f1 fd1 ["thing", "least", "most"] (spAmong K)) (D1 : Dn K mg "is_among" f1 fd1 ["thing", "least", "most"]) :
    FnOk P w K mg base CX0 3 f fd ["web", "thing", "many"] (spMarks K) := by
  refine F.ok scMarks (fun vs H Q E h => ?_) (fun cdv A outer s H vs Q E hr h => ?_)
  · obtain ⟨w, v, W, M, k, rfl, _⟩ := h
    rfl
  · obtain ⟨w', v, W, M, n, rfl, hw, hv, hl, h60, hm, k⟩ := h
    refine ⟨_, pss_cons (ps_if (PW.pt (pw_or (pt_not (pt_val (pe_callB call_isi (by rfl) T.isi (by decide +kernel) (pa_cons (pv 1) (pa_cons (pe_bltn (v := .ty "tuple") (by rfl) T.tuple (by decide +kernel) rfl) pa_nil)))))
        (pw_or1 (pt_cmpR op_ne (pe_callB (call_lenT K) (by rfl) T.len PySem.boot_len (pa_cons (pv 1) pa_nil)) (pe_callB (call_lenT K) (by rfl) T.len PySem.boot_len (pa_cons (pv 0) pa_nil)) (nomark _))))) (pss_one (ps_ret pe_bl)) pss_nil)
      (pss_one (ps_ret (pe_callB (cr_all rfl) (by rfl) T.all (by decide +kernel) (pa_cons (pe_lc (own := [("mark", 3)]) (g := gName 3) (tt := tYes) rfl scMarks.nd (pi_tup (pv 1)) (blkOk_by (N := nMarks) (sc := defScope sMarks) (by decide +kernel))
        (fun _ _ _ _ _ => pg_name (i := 3) scMarks.nd rfl (Or.inl rfl)) (fun _ _ _ _ _ => pts_nil)
        (fun _ _ _ _ _ => pe_call G1 hr (by rfl) D1.mgf D1.kp D1.b .nil pass0 (pa_cons (pv 3) (pa_cons pe_int (pa_cons (pv 2) pa_nil))))) pa_nil)))), ?_⟩
    refine ⟨_, rfl, _, _, _, _, true, rfl, .ty _, hv.tyT, kit_ty (by decide +kernel), _, rfl, iteF ?_⟩
    have el : (!decide (V.int ((M.map dNat).length : Nat) = V.int ((W.map dRow).length : Nat))) = false := by simp [hl]
    refine ⟨_, rfl, _, _, rfl, hv, _, rfl, _, _, rfl, hw, rfl, _, rfl, ?_⟩
    rw [el]
    refine iteF ?_
    obtain ⟨a, xs, rfl, hS, hA⟩ := hv.inv
    refine ⟨_, rfl, a, rfl, ⟨xs, hS⟩, fun D hD => ?_⟩
    refine lc_tup (K := K) (a := a) (xs := xs) (fun i H1 => Same H H1 ∧ i ≤ xs.length ∧ H1 D = some (.lst ((List.replicate i true).map V.bl))) ⟨same_new hD, Nat.zero_le _, upd_same⟩ (fun i H1 _ p => Evl.ex_t p.1 hS) ?_ ?_
    · rintro i x H1 hx ⟨s1, hi, hL⟩
      obtain ⟨d, hd, hxd⟩ := hA.turn hx
      have hi1 := (List.getElem?_eq_some_iff.mp hx).1
      have hlen : xs.length = M.length := by rw [hA.1, List.length_map]
      obtain ⟨m, er, ed⟩ := map_get hd
      subst ed
      have em := nat_val hxd
      subst em
      have hm1 := hm m (List.mem_of_getElem? er)
      refine ⟨rfl, _, rfl, _, rfl, _, _, _, rfl, .inl ⟨_, rfl, by omega, by omega, ?_⟩⟩
      refine ⟨_, hL, by rw [List.length_map, List.length_replicate]; exact small1000 (by omega), Evl.Ex.mut s1 hD, hi1, ?_⟩
      rw [upd_same, rep_snoc]
    · rintro H1 ⟨s1, _, hL⟩
      refine ⟨D, _, rfl, SqL.of hL, ?_⟩
      rw [all_rep]
      exact k _ s1
abbrev nCounts : List Str := ["web", "thing", "count", "row"]
theorem scCounts : FnScope nCounts ["web", "thing"] (defScope sCounts) := ⟨rfl, rfl, rfl, by decide +kernel, rfl, by decide +kernel, by decide +kernel⟩
theorem ok_counts {f f1 : Addr} {fd fd1 : FuncData} (F : Fun K "are_counts" "are_counts" sCounts f fd) (T : Bt mg) (G1 : FnOk P w K mg base CX0 2 f1 fd1 ["thing", "least", "most"] (spAmong K)) (D1 : Dn K mg "is_among" f1 fd1 ["thing", "least", "most"]) :
    FnOk P w K mg base CX0 3 f fd ["web", "thing"] (spCounts K) := by
  refine F.ok scCounts (fun vs H Q E h => ?_) (fun cdv A outer s H vs Q E hr h => ?_)
  · obtain ⟨w, v, W, C, rfl, _⟩ := h
    rfl
  · obtain ⟨w', v, W, C, rfl, hw, hv, hl, h60, hc, k⟩ := h
    refine ⟨_, pss_cons (ps_if (PW.pt (pw_or (pt_not (pt_val (pe_callB call_isi (by rfl) T.isi (by decide +kernel) (pa_cons (pv 1) (pa_cons (pe_bltn (v := .ty "tuple") (by rfl) T.tuple (by decide +kernel) rfl) pa_nil)))))
        (pw_or1 (pt_cmpR op_ne (pe_callB (call_lenT K) (by rfl) T.len PySem.boot_len (pa_cons (pv 1) pa_nil)) (pe_callB (call_lenT K) (by rfl) T.len PySem.boot_len (pa_cons (pv 0) pa_nil)) (nomark _))))) (pss_one (ps_ret pe_bl)) pss_nil)
      (pss_one (ps_ret (pe_callB (cr_all rfl) (by rfl) T.all (by decide +kernel) (pa_cons (pe_lc (own := [("count", 2), ("row", 3)]) (g := g2 K 2 3) (tt := tYes) rfl scCounts.nd (RZ.pi_zipA (by rfl) T.zip (pa_cons (pv 1) (pa_cons (pv 0) pa_nil))) (blkOk_by (N := nCounts) (sc := defScope sCounts) (by decide +kernel))
        (fun _ _ _ _ _ => pg_tup rfl (pgs_cons (pg_name (i := 2) scCounts.nd rfl (Or.inl rfl)) (pgs_cons (pg_name (i := 3) scCounts.nd rfl (Or.inl rfl)) pgs_nil))) (fun _ _ _ _ _ => pts_nil)
        (fun _ _ _ _ _ => pe_call G1 hr (by rfl) D1.mgf D1.kp D1.b .nil pass0 (pa_cons (pv 2) (pa_cons pe_int (pa_cons (pe_callB (call_lenT K) (by rfl) T.len PySem.boot_len (pa_cons (pv 3) pa_nil)) pa_nil))))) pa_nil)))), ?_⟩
    refine ⟨_, rfl, _, _, _, _, true, rfl, .ty _, hv.tyT, kit_ty (by decide +kernel), _, rfl, iteF ?_⟩
    have el : (!decide (V.int ((C.map dNat).length : Nat) = V.int ((W.map dRow).length : Nat))) = false := by simp [hl]
    refine ⟨_, rfl, _, _, rfl, hv, _, rfl, _, _, rfl, hw, rfl, _, rfl, ?_⟩
    rw [el]
    refine iteF ?_
    obtain ⟨a, xs, rfl, hS, hA⟩ := hv.inv
    obtain ⟨b, ys, rfl, hS2, hA2⟩ := hw.inv
    have lx : xs.length = C.length := by rw [hA.1, List.length_map]
    have ly : ys.length = W.length := by rw [hA2.1, List.length_map]
    refine ⟨_, rfl, _, rfl, a, b, xs, ys, rfl, .inr ⟨hS, hS2, fun D hD => ?_⟩⟩
    refine lc_it (walk_zipT (n := xs.length) (by omega)) (fun i H1 => Same H H1 ∧ i ≤ xs.length ∧ H1 D = some (.lst ((List.replicate i true).map V.bl))) ⟨same_new hD, Nat.zero_le _, upd_same⟩ (fun i H1 _ p => ⟨Evl.ex_t p.1 hS, Evl.ex_t p.1 hS2⟩) ?_ ?_
    · rintro i x H1 H2 hi1 ⟨s1, hi, hL⟩ ⟨T1, y, z, rfl, hT, rfl, hy, hz⟩
      obtain ⟨d, hd, hxd⟩ := hA.turn hy
      obtain ⟨d2, hd2, hxd2⟩ := hA2.turn hz
      obtain ⟨m, er, ed⟩ := map_get hd
      subst ed
      obtain ⟨r, er2, ed2⟩ := map_get hd2
      subst ed2
      have em := nat_val hxd
      subst em
      have hc1 := hc i m er
      have hrow : rowAt W i = r := by
        unfold rowAt
        rw [List.getD_eq_getElem?_getD, er2]
        rfl
      rw [hrow] at hc1
      refine g2_ok (SqT.of upd_same) ⟨rfl, _, rfl, _, rfl, _, _, rfl, (hxd2.mono (keep_same s1)).mono (keep_new hT), _, _, _, rfl, .inl ⟨_, rfl, by omega, by rw [List.length_map]; omega, ?_⟩⟩
      have hL2 : (upd H1 T1 (.tup [vNat m, z])) D = some (.lst ((List.replicate i true).map V.bl)) := same_new hT _ _ hL
      refine ⟨_, hL2, by rw [List.length_map, List.length_replicate]; exact small1000 (by omega), Evl.Ex.mut (s1.trans (same_new hT)) hD, hi1, ?_⟩
      rw [upd_same, rep_snoc]
    · rintro H1 ⟨s1, _, hL⟩
      refine ⟨D, _, rfl, SqL.of hL, ?_⟩
      rw [all_rep]
      exact k _ s1
theorem scSpot : FnScope ["web", "thing"] ["web", "thing"] (defScope sSpot) := ⟨rfl, rfl, rfl, by decide +kernel, rfl, by decide +kernel, by decide +kernel⟩
theorem ok_spot {f f1 : Addr} {fd fd1 : FuncData} (F : Fun K "is_spot" "is_spot" sSpot f fd) (T : Bt mg) (G1 : FnOk P w K mg base CX0 3 f1 fd1 ["web", "thing"] (spNode K)) (D1 : Dn K mg "is_node" f1 fd1 ["web", "thing"]) :
    FnOk P w K mg base CX0 4 f fd ["web", "thing"] (spSpot K) := by
  refine F.ok scSpot (fun vs H Q E h => ?_) (fun cdv A outer s H vs Q E hr h => ?_)
  · obtain ⟨w, v, W, s, rfl, _⟩ := h
    rfl
  · obtain ⟨w', v, W, sp, rfl, hw, hv, hlt, k⟩ := h
    refine ⟨_, pss_cons (ps_if (pt_val (pe_call G1 hr (by rfl) D1.mgf D1.kp D1.b .nil pass0 (pa_cons (pv 0) (pa_cons (pv 1) pa_nil)))) (pss_one (ps_ret pe_bl)) pss_nil)
      (pss_cons (ps_if (PW.pt (pw_or (pt_not (pt_val (pe_callB call_isi (by rfl) T.isi (by decide +kernel) (pa_cons (pv 1) (pa_cons (pe_bltn (v := .ty "tuple") (by rfl) T.tuple (by decide +kernel) rfl) pa_nil)))))
        (pw_or (pt_cmpR op_ne (pe_callB (call_lenT K) (by rfl) T.len PySem.boot_len (pa_cons (pv 1) pa_nil)) pe_int (nomark _))
          (pw_or1 (pt_not (pt_val (pe_call G1 hr (by rfl) D1.mgf D1.kp D1.b .nil pass0 (pa_cons (pv 0) (pa_cons (pe_ix (ix_D K) (pv 1) pe_int (fun _ _ => rfl)) pa_nil))))))))) (pss_one (ps_ret pe_bl)) pss_nil)
      (pss_one (ps_ret (pe_or (pe_cmpR op_isN (pe_ix (ix_D K) (pv 1) pe_int (fun _ _ => rfl)) pe_non (nomark _)) (pe_one (pe_call G1 hr (by rfl) D1.mgf D1.kp D1.b .nil pass0 (pa_cons (pv 0) (pa_cons (pe_ix (ix_D K) (pv 1) pe_int (fun _ _ => rfl)) pa_nil)))))))), ?_⟩
    cases sp with
    | root r =>
      have ev := nat_val hv
      subst ev
      exact ⟨_, rfl, _, rfl, _, _, W, rfl, hw, .inl ⟨r, rfl, hlt, _, rfl, iteT k⟩⟩
    | «at» x b =>
      obtain ⟨hx, hb⟩ := hlt
      refine ⟨_, rfl, _, rfl, _, _, W, rfl, hw, .inr ⟨hv.tyT, _, rfl, iteF ?_⟩⟩
      refine ⟨_, rfl, _, _, _, _, true, rfl, .ty _, hv.tyT, kit_ty (by decide +kernel), _, rfl, iteF ?_⟩
      refine ⟨_, rfl, _, _, rfl, hv, rfl, _, rfl, iteF ?_⟩
      refine ⟨_, rfl, _, rfl, _, 0, _, hv, rfl, rfl, fun v0 h0 => ?_⟩
      have e0 := nat_val h0
      subst e0
      refine ⟨_, _, W, rfl, hw, .inl ⟨x, rfl, hx, _, rfl, iteF ?_⟩⟩
      refine ⟨_, rfl, _, 1, _, hv, rfl, rfl, fun v1 h1 => ?_⟩
      have e1 := tie_val h1
      subst e1
      cases b with
      | none => exact ⟨rfl, _, rfl, iteT k⟩
      | some y =>
        refine ⟨rfl, _, rfl, iteF ?_⟩
        refine ⟨_, rfl, _, rfl, _, 1, _, hv, rfl, rfl, fun v2 h2 => ?_⟩
        have e2 := tie_val h2
        subst e2
        exact ⟨_, _, W, rfl, hw, .inl ⟨y, rfl, hb y rfl, k⟩⟩
abbrev nIsState : List Str := ["thing", "web", "marks", "counts", "heres", "spot"]
theorem scIsState : FnScope nIsState ["thing"] (defScope sIsState) := ⟨rfl, rfl, rfl, by decide +kernel, rfl, by decide +kernel, by decide +kernel⟩
theorem ok_isstate {f f1 f2 f3 f4 : Addr} {fd fd1 fd2 fd3 fd4 : FuncData} (F : Fun K "is_state" "is_state" sIsState f fd) (T : Bt mg) (G1 : FnOk P w K mg base CX0 4 f1 fd1 ["thing"] (spIsWeb K)) (D1 : Dn K mg "is_web" f1 fd1 ["thing"])
    (G2 : FnOk P w K mg base CX0 4 f2 fd2 ["web", "thing"] (spSpot K)) (D2 : Dn K mg "is_spot" f2 fd2 ["web", "thing"]) (G3 : FnOk P w K mg base CX0 3 f3 fd3 ["web", "thing", "many"] (spMarks K)) (D3 : Dn K mg "are_marks" f3 fd3 ["web", "thing", "many"])
    (G4 : FnOk P w K mg base CX0 3 f4 fd4 ["web", "thing"] (spCounts K)) (D4 : Dn K mg "are_counts" f4 fd4 ["web", "thing"]) :
    FnOk P w K mg base CX0 5 f fd ["thing"] (spIsState K) := by
  refine F.ok scIsState (fun vs H Q E h => ?_) (fun cdv A outer s H vs Q E hr h => ?_)
  · obtain ⟨v, W, M, C, hs, rfl, _⟩ := h
    rfl
  · obtain ⟨v, W, M, C, hs, rfl, hv, ws, k⟩ := h
    obtain ⟨t6, m6⟩ := T.walkers
    have hr3 := hr.mono (by decide : 3 ≤ 4)
    refine ⟨_, pss_cons (ps_if (PW.pt (pw_or (pt_not (pt_val (pe_callB call_isi (by rfl) T.isi (by decide +kernel) (pa_cons (pv 0) (pa_cons (pe_bltn (v := .ty "tuple") (by rfl) T.tuple (by decide +kernel) rfl) pa_nil)))))
        (pw_or (pt_cmpR op_ne (pe_callB (call_lenT K) (by rfl) T.len PySem.boot_len (pa_cons (pv 0) pa_nil)) pe_int (nomark _))
          (pw_or1 (pt_not (pt_val (pe_call G1 hr (by rfl) D1.mgf D1.kp D1.b .nil pass0 (pa_cons (pe_ix (ix_D K) (pv 0) pe_int (fun _ _ => rfl)) pa_nil)))))))) (pss_one (ps_ret pe_bl)) pss_nil)
      (pss_cons (ps_asg (pv 0) (pg_tup rfl (pgs_cons (pg_name (i := 1) scIsState.nd rfl (Or.inr rfl)) (pgs_cons (pg_name (i := 2) scIsState.nd rfl (Or.inl rfl)) (pgs_cons (pg_name (i := 3) scIsState.nd rfl (Or.inl rfl)) (pgs_cons (pg_name (i := 4) scIsState.nd rfl (Or.inl rfl)) pgs_nil))))))
      (pss_cons (ps_if (PW.pt (pw_or (pt_not (pt_val (pe_callB call_isi (by rfl) T.isi (by decide +kernel) (pa_cons (pv 4) (pa_cons (pe_bltn (v := .ty "tuple") (by rfl) T.tuple (by decide +kernel) rfl) pa_nil)))))
        (pw_or1 (pt_not (pt_chain op_le op_le pe_int (pe_callB (call_lenT K) (by rfl) T.len PySem.boot_len (pa_cons (pv 4) pa_nil)) (pe_glob (v := .int 6) rfl m6 ⟨_, rfl⟩)))))) (pss_one (ps_ret pe_bl)) pss_nil)
      (pss_cons (ps_if (pt_not (pt_val (pe_callB (cr_all rfl) (by rfl) T.all (by decide +kernel) (pa_cons (pe_lc (own := [("spot", 5)]) (g := gName 5) (tt := tYes) rfl scIsState.nd (pi_tup (pv 4)) (blkOk_by (N := nIsState) (sc := defScope sIsState) (by decide +kernel))
        (fun _ _ _ _ _ => pg_name (i := 5) scIsState.nd rfl (Or.inl rfl)) (fun _ _ _ _ _ => pts_nil)
        (fun _ _ _ _ _ => pe_call G2 hr (by rfl) D2.mgf D2.kp D2.b .nil pass0 (pa_cons (pv 1) (pa_cons (pv 5) pa_nil)))) pa_nil)))) (pss_one (ps_ret pe_bl)) pss_nil)
      (pss_one (ps_ret (pe_and (pe_call G3 hr3 (by rfl) D3.mgf D3.kp D3.b .nil pass0 (pa_cons (pv 1) (pa_cons (pv 2) (pa_cons (pe_callB (call_lenT K) (by rfl) T.len PySem.boot_len (pa_cons (pv 4) pa_nil)) pa_nil))))
        (pe_one (pe_call G4 hr3 (by rfl) D4.mgf D4.kp D4.b .nil pass0 (pa_cons (pv 1) (pa_cons (pv 3) pa_nil)))))))))), ?_⟩
    refine ⟨_, rfl, _, _, _, _, true, rfl, .ty _, hv.tyT, kit_ty (by decide +kernel), _, rfl, iteF ?_⟩
    refine ⟨_, rfl, _, _, rfl, hv, rfl, _, rfl, iteF ?_⟩
    refine ⟨_, rfl, _, 0, _, hv, rfl, rfl, fun v0 h0 => ?_⟩
    refine ⟨_, W, rfl, h0, ws.n1, ws.n60, ws.rows, fun H1 s1 => ⟨_, rfl, iteF ?_⟩⟩
    obtain ⟨a, xs, rfl, hS, hA⟩ := (hv.mono (keep_same s1)).inv
    obtain ⟨x1, xs1, rfl, hw, hA⟩ := hA.inv
    obtain ⟨x2, xs2, rfl, hM, hA⟩ := hA.inv
    obtain ⟨x3, xs3, rfl, hC, hA⟩ := hA.inv
    obtain ⟨x4, xs4, rfl, hh, hA⟩ := hA.inv
    have en := hA.inv0
    subst en
    refine ⟨_, rfl, a, _, rfl, hS, rfl, _, _, rfl, _, _, rfl, _, _, rfl, _, _, rfl, rfl, ?_⟩
    refine ⟨_, rfl, _, _, _, _, true, rfl, .ty _, hh.tyT, kit_ty (by decide +kernel), _, rfl, iteF ?_⟩
    have e1 : decide ((1 : Int) ≤ ((hs.map dSpot).length : Nat)) = true := decide_eq_true (by rw [List.length_map]; have := ws.k1; omega)
    have e6 : decide ((((hs.map dSpot).length : Nat) : Int) ≤ 6) = true := decide_eq_true (by rw [List.length_map]; have := ws.k6; omega)
    refine ⟨_, rfl, _, _, rfl, hh, _, _, rfl, rfl, _, rfl, ?_⟩
    rw [e1]
    refine iteT ⟨_, _, rfl, rfl, _, rfl, ?_⟩
    rw [e6]
    refine iteF ?_
    obtain ⟨b, ys, rfl, hS4, hA4⟩ := hh.inv
    have ly : ys.length = hs.length := by rw [hA4.1, List.length_map]
    refine ⟨_, rfl, b, rfl, ⟨ys, hS4⟩, fun D hD => ?_⟩
    refine lc_tup (K := K) (a := b) (xs := ys) (fun i H2 => Same H1 H2 ∧ i ≤ ys.length ∧ H2 D = some (.lst ((List.replicate i true).map V.bl))) ⟨same_new hD, Nat.zero_le _, upd_same⟩ (fun i H2 _ p => Evl.ex_t p.1 hS4) ?_ ?_
    · rintro i x H2 hx ⟨s2, hi, hL⟩
      obtain ⟨d, hd, hxd⟩ := hA4.turn hx
      have hi1 := (List.getElem?_eq_some_iff.mp hx).1
      obtain ⟨sp, er, ed⟩ := map_get hd
      subst ed
      refine ⟨rfl, _, rfl, _, rfl, _, _, W, sp, rfl, hw.mono (keep_same s2), hxd.mono (keep_same s2), ws.sp sp (List.mem_of_getElem? er), ?_⟩
      have := ws.k6
      refine ⟨_, hL, by rw [List.length_map, List.length_replicate]; exact small1000 (by omega), Evl.Ex.mut s2 hD, hi1, ?_⟩
      rw [upd_same, rep_snoc]
    · rintro H2 ⟨s2, _, hL⟩
      refine ⟨D, _, rfl, SqL.of hL, ?_⟩
      rw [all_rep]
      refine ⟨_, rfl, iteF ?_⟩
      have w2 := hw.mono (keep_same s2)
      have m2 := hM.mono (keep_same s2)
      have c2 := hC.mono (keep_same s2)
      have h2 := hh.mono (keep_same s2)
      refine ⟨_, rfl, _, rfl, _, rfl, _, _, rfl, h2, _, _, W, M, hs.length, ?_, w2, m2, ws.ml, by rw [ws.ml]; exact ws.n60, ws.mks, fun H3 s3 => ⟨_, rfl, iteT ?_⟩⟩
      · rw [List.length_map]; rfl
      · exact ⟨_, rfl, _, rfl, _, _, W, C, rfl, w2.mono (keep_same s3), c2.mono (keep_same s3), ws.cl, by rw [ws.cl]; exact ws.n60, ws.cnt, fun H4 s4 => k _ (((s1.trans s2).trans s3).trans s4)⟩
theorem scNeedState : FnScope ["thing"] ["thing"] (defScope sNeedState) := ⟨rfl, rfl, rfl, by decide +kernel, rfl, by decide +kernel, by decide +kernel⟩
theorem ok_needstate {f f1 : Addr} {fd fd1 : FuncData} (F : Fun K "need_state" "need_state" sNeedState f fd) (T : Bt mg) (G1 : FnOk P w K mg base CX0 5 f1 fd1 ["thing"] (spIsState K)) (D1 : Dn K mg "is_state" f1 fd1 ["thing"]) :
    FnOk P w K mg base CX0 6 f fd ["thing"] (spNeedState K) := by
  refine F.ok scNeedState (fun vs H Q E h => ?_) (fun cdv A outer s H vs Q E hr h => ?_)
  · obtain ⟨v, W, M, C, hs, rfl, _⟩ := h
    rfl
  · obtain ⟨v, W, M, C, hs, rfl, hv, ws, k⟩ := h
    refine ⟨_, pss_one (ps_if (pt_not (pt_val (pe_call G1 hr (by rfl) D1.mgf D1.kp D1.b .nil pass0 (pa_cons (pv 0) pa_nil)))) (pss_one ps_never) pss_nil), ?_⟩
    exact ⟨_, rfl, _, W, M, C, hs, rfl, hv, ws, fun H1 s1 => ⟨_, rfl, iteF (k _ s1)⟩⟩
theorem scStopped : FnScope ["spot"] ["spot"] (defScope sStopped) := ⟨rfl, rfl, rfl, by decide +kernel, rfl, by decide +kernel, by decide +kernel⟩
theorem ok_stopped {f : Addr} {fd : FuncData} (F : Fun K "has_stopped" "has_stopped" sStopped f fd) (T : Bt mg) : FnOk P w K mg base CX0 1 f fd ["spot"] (spStopped K) := by
  refine F.ok scStopped (fun vs H Q E h => ?_) (fun cdv A outer s H vs Q E hr h => ?_)
  · obtain ⟨v, sp, rfl, _⟩ := h
    rfl
  · obtain ⟨v, sp, rfl, hv, k⟩ := h
    refine ⟨_, pss_one (ps_ret (pe_not (pe_callB call_isi (by rfl) T.isi (by decide +kernel) (pa_cons (pv 0) (pa_cons (pe_bltn (v := .ty "tuple") (by rfl) T.tuple (by decide +kernel) rfl) pa_nil))))), ?_⟩
    cases sp with
    | root r => exact ⟨_, rfl, _, _, _, _, false, rfl, .ty _, hv.tyI, kit_ty (by decide +kernel), _, rfl, k⟩
    | «at» x b => exact ⟨_, rfl, _, _, _, _, true, rfl, .ty _, hv.tyT, kit_ty (by decide +kernel), _, rfl, k⟩
end
end Tb
end
section
set_option Elab.async false
set_option linter.all false
set_option maxRecDepth 100000
set_option maxHeartbeats 2000000
/-! ways: is_fit, back_of, all_ways. -/
namespace Tb
open PySem PySem.Spec PyProof.Rows L2
/-! ### data that can be compared -/
def Sh (n : Nat) (d : PyData) : Prop := d.canLay0 = true ∧ d.depth ≤ n
theorem sh_nat {n : Nat} (k : Nat) : Sh n (dNat k) := ⟨by simp [dNat, PyData.canLay0], by simp [dNat, PyData.depth]⟩
theorem sh_int {n : Nat} (k : Int) : Sh n (.int k) := ⟨by simp [PyData.canLay0], by simp [PyData.depth]⟩
theorem sh_none {n : Nat} : Sh n .none := ⟨by simp [PyData.canLay0], by simp [PyData.depth]⟩
theorem sh_str {n : Nat} {x : Str} (h : PyData.canLay0 (.str x) = true) : Sh n (.str x) := ⟨h, by simp [PyData.depth]⟩
theorem lay_all {ds : List PyData} (h : ∀ d, d ∈ ds → d.canLay0 = true) : PyData.canLayAll0 ds = true := by
  induction ds with
  | nil => simp [PyData.canLayAll0]
  | cons d ds ih => simp [PyData.canLayAll0, h d (by simp), ih fun d hd => h d (List.mem_cons_of_mem _ hd)]
theorem depth_all {n : Nat} {ds : List PyData} (h : ∀ d, d ∈ ds → d.depth ≤ n) : PyData.depthAll ds ≤ n := by
  induction ds with
  | nil => simp [PyData.depthAll]
  | cons d ds ih =>
    have h1 := h d (by simp)
    have h2 := ih fun d hd => h d (List.mem_cons_of_mem _ hd)
    simp [PyData.depthAll]
    omega
theorem sh_list {n : Nat} {ds : List PyData} (h : ∀ d, d ∈ ds → Sh n d) : Sh (n + 1) (.list ds) :=
  ⟨by simp [PyData.canLay0, lay_all fun d hd => (h d hd).1], by have := depth_all fun d hd => (h d hd).2; simp [PyData.depth]; omega⟩
theorem sh_tup {n : Nat} {ds : List PyData} (h : ∀ d, d ∈ ds → Sh n d) : Sh (n + 1) (.tuple ds) :=
  ⟨by simp [PyData.canLay0, lay_all fun d hd => (h d hd).1], by have := depth_all fun d hd => (h d hd).2; simp [PyData.depth]; omega⟩
theorem Sh.ok {n : Nat} {d : PyData} (h : Sh n d) (hn : n ≤ 64 := by decide) : SeqAt.shaped d = true := by
  unfold SeqAt.shaped
  rw [h.1, decide_eq_true (Nat.le_trans h.2 hn)]
  rfl
theorem sh_nats (l : List Nat) : Sh 1 (.list (l.map dNat)) := sh_list fun d hd => by
  obtain ⟨k, _, e⟩ := List.mem_map.mp hd
  rw [← e]
  exact sh_nat k
theorem sh_natsT (l : List Nat) : Sh 1 (dNats l) := sh_tup fun d hd => by
  obtain ⟨k, _, e⟩ := List.mem_map.mp hd
  rw [← e]
  exact sh_nat k
theorem eqv_nil (ds : List PyData) : PyData.eqv (.list ds) (.list []) = ds.isEmpty := by
  cases ds <;> simp [PyData.eqv, PyData.eqvAll]
theorem eqv_nilT (ds : List PyData) : PyData.eqv (.tuple ds) (.tuple []) = ds.isEmpty := by
  cases ds <;> simp [PyData.eqv, PyData.eqvAll]
section
variable {K : PySem.W.Frag} {H : Hp}
theorem tpAll_nats (l : List Nat) : TpAll K H (l.map vNat) (l.map dNat) := .map l fun x _ => tp_nat x
theorem dp_list {p : Addr} {xs : List V} {ds : List PyData} (h : SqL K H p xs) (t : TpAll K H xs ds) : Dp K H (.ref p) (.list ds) := .lst h t.dp
theorem inV_nats {x : Nat} {l : List Nat} : inV (vNat x) (l.map vNat) = decide (x ∈ l) := by
  unfold inV
  induction l with
  | nil => simp
  | cons y l ih =>
    have e : eqV (vNat y) (vNat x) = decide (x = y) := by
      show (((y : Nat) : Int) == ((x : Nat) : Int)) = decide (x = y)
      by_cases h : x = y
      · subst h; simp
      · rw [decide_eq_false h]
        simp
        omega
    rw [List.map_cons, List.any_cons, ih, e]
    by_cases h1 : x = y
    · simp [h1]
    · by_cases h2 : x ∈ l
      · simp [h1, h2]
      · simp [h1, h2]
theorem flat_nats (l : List Nat) : (l.map vNat).all flatV = true := by
  rw [List.all_eq_true]
  intro v hv
  obtain ⟨k, _, e⟩ := List.mem_map.mp hv
  rw [← e]
  rfl
theorem tp_state {v : V} {W : Web} {M C : List Nat} {hs : List Spot} (h : Tp K H v (dState W M C hs)) :
    ∃ a x1 x2 x3 x4, v = .ref a ∧ SqT K H a [x1, x2, x3, x4] ∧ Tp K H x1 (dWeb W) ∧ Tp K H x2 (dNats M) ∧ Tp K H x3 (dNats C) ∧ Tp K H x4 (.tuple (hs.map dSpot)) := by
  obtain ⟨a, xs, e, hS, hA⟩ := h.inv
  obtain ⟨x1, xs1, rfl, hw, hA⟩ := hA.inv
  obtain ⟨x2, xs2, rfl, hM, hA⟩ := hA.inv
  obtain ⟨x3, xs3, rfl, hC, hA⟩ := hA.inv
  obtain ⟨x4, xs4, rfl, hh, hA⟩ := hA.inv
  have en := hA.inv0
  subst en
  exact ⟨a, x1, x2, x3, x4, e, hS, hw, hM, hC, hh⟩
theorem web_get {W : Web} {x : Nat} (h : x < W.length) : (W.map dRow)[x]? = some (dRow (rowAt W x)) := get_map (row_get h)
end
/-! ### a walker's stand, read back out of the state -/
def spotOf (root : Nat) : List (Nat × Nat) → Spot
  | [] => .root root
  | (x, _) :: R => .at x (R.head?.map (·.1))
structure BackIn (W : Web) (M C : List Nat) (hs : List Spot) (i root : Nat) (S : List (Nat × Nat)) : Prop where
  sp : hs[i]? = some (spotOf root S)
  stop : S = [] → M[root]? = some (i + 1)
  nd : (S.map (·.1)).Nodup
  mine : ∀ p ∈ S, M[p.1]? = some (i + 1) ∧ p.1 < W.length
  bel : ∀ y d b, (y, (d, b)) ∈ below S.tail → C[y]? = some d ∧ (rowAt W y)[d]? = some b
  len : S.length ≤ 60
theorem below_at : ∀ {R : List (Nat × Nat)} {k y d : Nat}, R[k]? = some (y, d) → (y, (d, (R[k + 1]?).map (·.1))) ∈ below R
  | [], k, y, d, h => by simp at h
  | p :: R, 0, y, d, h => by
    obtain ⟨a, b⟩ := p
    simp at h
    obtain ⟨rfl, rfl⟩ := h
    simp only [below]
    rw [show ((a, b) :: R)[0 + 1]? = R.head? from by cases R <;> rfl]
    exact List.mem_cons_self
  | p :: R, k + 1, y, d, h => by
    have := below_at (R := R) (k := k) (y := y) (d := d) (by simpa using h)
    obtain ⟨a, b⟩ := p
    simp only [below]
    exact List.mem_cons_of_mem _ (by simpa using this)
abbrev sFit : Stmt := top 28
abbrev sBack : Stmt := top 29
abbrev sWays : Stmt := top 30
def spFit (K : PySem.W.Frag) : Sp := fun vs H Q _ => ∃ v me x p W M C hs found, vs = [v, vNat me, vNat x, .ref p] ∧ Tp K H v (dState W M C hs) ∧ M[x]? = some me ∧ x < W.length ∧ H p = some (.lst (found.map vNat)) ∧ x ∉ found ∧
  (found = [] ∨ ∃ d : Nat, C[x]? = some d ∧ d < (rowAt W x).length) ∧ ∀ H', Same H H' → Q (.bl true) H'
def spBack (K : PySem.W.Frag) : Sp := fun vs H Q _ => ∃ v i root W M C hs S, vs = [v, vNat (i + 1)] ∧ Tp K H v (dState W M C hs) ∧ BackIn W M C hs i root S ∧
  ∀ H' p, Same H H' → H p = none → H' p = some (.lst ((S.map (·.1)).map vNat)) → Q (.ref p) H'
def wayOf (S : List (Nat × Nat)) : List Nat := (S.map (·.1)).reverse
def spWays (K : PySem.W.Frag) : Sp := fun vs H Q _ => ∃ v W M C hs, ∃ roots : List Nat, ∃ Ss : List (List (Nat × Nat)), vs = [v] ∧ Tp K H v (dState W M C hs) ∧ hs.length = Ss.length ∧ hs.length ≤ 6 ∧ roots.length = Ss.length ∧ (∀ (i : Nat) S r, Ss[i]? = some S → roots[i]? = some r → BackIn W M C hs i r S) ∧
  ∀ H' p ys, Same H H' → H p = none → H' p = some (.lst ys) → TpAll K H' ys ((Ss.map wayOf).map dNats) → Q (.ref p) H'
section
variable {P : Program} {w : World} {K : PySem.W.Frag} {mg : Str → Option Value} {base : Heap}
abbrev nFit : List Str := ["state", "walker", "node", "found", "ties", "marks", "counts", "heres"]
theorem scFit : FnScope nFit ["state", "walker", "node", "found"] (defScope sFit) := ⟨rfl, rfl, rfl, by decide +kernel, rfl, by decide +kernel, by decide +kernel⟩
theorem ok_fit {f : Addr} {fd : FuncData} (F : Fun K "is_fit" "is_fit" sFit f fd) (T : Bt mg) : FnOk P w K mg base CX0 1 f fd ["state", "walker", "node", "found"] (spFit K) := by
  refine F.ok scFit (fun vs H Q E h => ?_) (fun cdv A outer s H vs Q E hr h => ?_)
  · obtain ⟨v, me, x, p, W, M, C, hs, found, rfl, _⟩ := h
    rfl
  · obtain ⟨v, me, x, p, W, M, C, hs, found, rfl, hv, hM, hx, hp, hnin, hf, k⟩ := h
    refine ⟨_, pss_cons (ps_asg (pv 0) (pg_tup rfl (pgs_cons (pg_name (i := 4) scFit.nd rfl (Or.inl rfl)) (pgs_cons (pg_name (i := 5) scFit.nd rfl (Or.inl rfl)) (pgs_cons (pg_name (i := 6) scFit.nd rfl (Or.inl rfl)) (pgs_cons (pg_name (i := 7) scFit.nd rfl (Or.inl rfl)) pgs_nil))))))
      (pss_cons (ps_if (PW.pt (pw_or (pt_cmpR op_ne (pe_ix (ix_D K) (pv 5) (pv 2) (fun _ _ => rfl)) (pv 1) (nomark _)) (pw_or1 (pt_cmpR op_in_seq (pv 2) (pv 3) (by rfl))))) (pss_one (ps_ret pe_bl)) pss_nil)
      (pss_one (ps_ret (pe_or (pe_cmpR (op_eqD hr.units) (pv 3) (pe_lst pa_nil) (nomark _)) (pe_one (pe_cmpR op_lt (pe_ix (ix_D K) (pv 6) (pv 2) (fun _ _ => rfl)) (pe_callB (call_lenT K) (by rfl) T.len PySem.boot_len (pa_cons (pe_ix (ix_D K) (pv 4) (pv 2) (fun _ _ => rfl)) pa_nil)) (nomark _))))))), ?_⟩
    obtain ⟨a, x1, x2, x3, x4, rfl, hS, h1, h2, h3, h4⟩ := tp_state hv
    refine ⟨_, rfl, a, _, rfl, hS, rfl, _, _, rfl, _, _, rfl, _, _, rfl, _, _, rfl, rfl, ?_⟩
    refine ⟨_, rfl, _, rfl, _, x, _, h2, rfl, get_map hM, fun m1 hm1 => ?_⟩
    have em := nat_val hm1
    subst em
    refine ⟨_, rfl, rfl, _, rfl, ?_⟩
    rw [decide_eq_true rfl]
    refine iteF ⟨_, rfl, _, rfl, p, _, rfl, .inl (SqL.of hp), rfl, flat_nats _, _, rfl, ?_⟩
    rw [inV_nats, decide_eq_false hnin]
    refine iteF ?_
    refine ⟨_, rfl, Nat.zero_le _, fun q hq => ?_⟩
    refine ⟨.list (found.map dNat), .list [], dp_list (SqL.of (same_new hq _ _ hp)) (tpAll_nats found), .lst (SqL.of upd_same) .nil, (sh_nats found).ok, (sh_nats []).ok, _, rfl, ?_⟩
    rw [eqv_nil]
    cases found with
    | nil => exact iteT (k _ (same_new hq))
    | cons y l =>
      rcases hf with hf | ⟨d, hd, hlt⟩
      · cases hf
      · refine iteF ?_
        refine ⟨_, rfl, _, rfl, _, x, _, h3.mono (keep_new hq), rfl, get_map hd, fun c1 hc1 => ?_⟩
        have ec := nat_val hc1
        subst ec
        refine ⟨_, rfl, _, rfl, _, x, _, h1.mono (keep_new hq), rfl, web_get hx, fun r1 hr1 => ?_⟩
        refine ⟨_, _, rfl, hr1, _, _, rfl, rfl, ?_⟩
        show Q (V.bl (decide ((d : Int) < (((rowAt W x).map dTie).length : Nat)))) _
        rw [decide_eq_true (by rw [List.length_map]; omega)]
        exact k _ (same_new hq)
abbrev nBack : List Str := ["state", "walker", "ties", "marks", "counts", "heres", "here", "found", "node", "behind"]
theorem scBack : FnScope nBack ["state", "walker"] (defScope sBack) := ⟨rfl, rfl, rfl, by decide +kernel, rfl, by decide +kernel, by decide +kernel⟩
theorem ok_back {f f1 f2 : Addr} {fd fd1 fd2 : FuncData} (F : Fun K "back_of" "back_of" sBack f fd) (T : Bt mg) (G1 : FnOk P w K mg base CX0 1 f1 fd1 ["spot"] (spStopped K)) (D1 : Dn K mg "has_stopped" f1 fd1 ["spot"])
    (G2 : FnOk P w K mg base CX0 1 f2 fd2 ["state", "walker", "node", "found"] (spFit K)) (D2 : Dn K mg "is_fit" f2 fd2 ["state", "walker", "node", "found"]) : FnOk P w K mg base CX0 2 f fd ["state", "walker"] (spBack K) := by
  refine F.ok scBack (fun vs H Q E h => ?_) (fun cdv A outer s H vs Q E hr h => ?_)
  · obtain ⟨v, i, root, W, M, C, hs, S, rfl, _⟩ := h
    rfl
  · obtain ⟨v, i, root, W, M, C, hs, S, rfl, hv, B, k⟩ := h
    refine ⟨_, (pss_cons (ps_asg (pv 0) (pg_tup rfl (pgs_cons (pg_name (i := 2) scBack.nd rfl (Or.inl rfl)) (pgs_cons (pg_name (i := 3) scBack.nd rfl (Or.inl rfl)) (pgs_cons (pg_name (i := 4) scBack.nd rfl (Or.inl rfl)) (pgs_cons (pg_name (i := 5) scBack.nd rfl (Or.inl rfl)) pgs_nil))))))
      (pss_cons (ps_set (i := 6) scBack.nd rfl (Or.inl rfl) (pe_ix (ix_D K) (pv 5) (pe_op op_sub (pv 1) pe_int) (fun _ _ => rfl)))
      (pss_cons (ps_if (pt_val (pe_call G1 hr (by rfl) D1.mgf D1.kp D1.b .nil pass0 (pa_cons (pv 6) pa_nil))) (pss_cons (ps_if (pt_cmpR op_ne (pe_ix (ix_D K) (pv 3) (pv 6) (fun _ _ => rfl)) (pv 1) (nomark _)) (pss_one ps_never) pss_nil)
      (pss_one (ps_ret (pe_lst pa_nil)))) pss_nil)
      (pss_cons (ps_set (i := 7) scBack.nd rfl (Or.inl rfl) (pe_lst pa_nil))
      (pss_cons (ps_asg (pv 6) (pg_tup rfl (pgs_cons (pg_name (i := 8) scBack.nd rfl (Or.inl rfl)) (pgs_cons (pg_name (i := 9) scBack.nd rfl (Or.inl rfl)) pgs_nil))))
      (pss_cons (ps_while PassesOwn.never (pt_cmpR op_notN (pv 8) pe_non (nomark _)) (pss_cons (ps_if (pt_not (pt_val (pe_call G2 hr (by rfl) D2.mgf D2.kp D2.b .nil pass0 (pa_cons (pv 0) (pa_cons (pv 1) (pa_cons (pv 8) (pa_cons (pv 7) pa_nil))))))) (pss_one ps_never) pss_nil)
      (pss_cons (ps_expr (pe_bm PySem.F.plainAttrs_list PySem.F.slot_list_append PySem.F.type_list_append mt_append (pv 7) (pa_cons (pv 8) pa_nil)))
      (pss_one (ps_set (i := 8) scBack.nd rfl (Or.inl rfl) (pe_ifExp (pt_cmpR op_eq (pe_callB call_len_seq (by rfl) T.len PySem.boot_len (pa_cons (pv 7) pa_nil)) pe_int (nomark _)) (pv 9) (pe_ix (ix_D K) (pe_ix (ix_D K) (pv 2) (pv 8) (fun _ _ => rfl)) (pe_ix (ix_D K) (pv 4) (pv 8) (fun _ _ => rfl)) (fun _ _ => rfl))))))))
      (pss_one (ps_ret (pv 7))))))))), ?_⟩
    obtain ⟨a, x1, x2, x3, x4, rfl, hS, h1, h2, h3, h4⟩ := tp_state hv
    refine ⟨_, rfl, a, _, rfl, hS, rfl, _, _, rfl, _, _, rfl, _, _, rfl, _, _, rfl, rfl, ?_⟩
    have ei : V.int (((i + 1 : Nat) : Int) - 1) = V.int ((i : Nat) : Int) := by congr 1; omega
    refine ⟨_, rfl, _, rfl, _, _, rfl, rfl, _, i, _, h4, ei, get_map B.sp, fun sv hsv => ?_⟩
    refine ⟨_, rfl, _, _, rfl, hsv, _, rfl, ?_⟩
    cases S with
    | nil =>
      refine iteT ?_
      have es := nat_val (n := root) hsv
      subst es
      refine ⟨_, rfl, _, rfl, _, root, _, h2, rfl, get_map (B.stop rfl), fun m1 hm1 => ?_⟩
      have em := nat_val hm1
      subst em
      refine ⟨_, rfl, rfl, _, rfl, ?_⟩
      rw [decide_eq_true rfl]
      refine iteF ⟨Nat.zero_le _, fun p hp => ?_⟩
      exact k _ p (same_new hp) hp upd_same
    | cons top R =>
      obtain ⟨x0, c0⟩ := top
      refine iteF ⟨Nat.zero_le _, fun p hp => ?_⟩
      have hsv' : Tp K (upd H p (.lst [])) sv (.tuple [dNat x0, dTie (R.head?.map (·.1))]) := hsv.mono (keep_new hp)
      obtain ⟨b, ys, rfl, hSs, hAs⟩ := hsv'.inv
      obtain ⟨y1, ys1, rfl, g1, hAs⟩ := hAs.inv
      obtain ⟨y2, ys2, rfl, g2', hAs⟩ := hAs.inv
      have en := hAs.inv0
      subst en
      have ey1 := nat_val g1
      subst ey1
      have ey2 := tie_val g2'
      subst ey2
      refine ⟨_, rfl, b, _, rfl, hSs, rfl, _, _, rfl, _, _, rfl, rfl, ?_⟩
      have hnode : ∀ j, ((x0, c0) :: R)[j]?.map (·.1) = none → ((x0, c0) :: R).length ≤ j := fun j e => by
        rw [Option.map_eq_none_iff] at e
        simpa using e
      refine while_by (fun σ H1 => ∃ j, σ = [some (.ref a), some (vNat (i + 1)), some x1, some x2, some x3, some x4, some (.ref b), some (.ref p), some (vTie ((((x0, c0) :: R)[j]?).map (·.1))), some (vTie (R.head?.map (·.1)))] ∧ j ≤ ((x0, c0) :: R).length ∧ Same H H1 ∧
          H1 p = some (.lst ((((((x0, c0) :: R).take j).map (·.1))).map vNat)))
        (fun σ H1 => match H1 p with | some (.lst l) => 61 - l.length | _ => 0) ⟨0, rfl, Nat.zero_le _, same_new hp, upd_same⟩ ?_ (fun σ H Q Q' m q => ?_)
      · rintro σ H1 ⟨j, rfl, hj, s1, hL⟩
        refine ⟨_, rfl, rfl, _, rfl, ?_⟩
        cases ej : ((x0, c0) :: R)[j]? with
        | none =>
          refine iteF ?_
          have hjl := hnode j (by rw [ej]; rfl)
          rw [List.take_of_length_le hjl] at hL
          exact ⟨_, rfl, k _ p s1 hp hL⟩
        | some q =>
          obtain ⟨x, c⟩ := q
          refine iteT ?_
          have hmem := List.mem_of_getElem? ej
          have hjl := (List.getElem?_eq_some_iff.mp ej).1
          obtain ⟨hMx, hxl⟩ := B.mine (x, c) hmem
          refine ⟨_, rfl, _, rfl, _, rfl, _, rfl, _, i + 1, x, p, W, M, C, hs, _, rfl, hv.mono (keep_same s1), hMx, hxl, hL, ?_, ?_, fun H2 s2 => ⟨_, rfl, iteF ?_⟩⟩
          · intro hin
            have hnd := B.nd
            obtain ⟨j', hj', e'⟩ := List.getElem_of_mem hin
            have hj2 : j' < j := by
              have : j' < (((x0, c0) :: R).take j).length := by simpa using hj'
              rw [List.length_take] at this
              omega
            have g1 : (((x0, c0) :: R).map (·.1))[j']? = some x := by
              have h5 : ((((x0, c0) :: R).take j).map (·.1))[j']? = some x := by rw [List.getElem?_eq_getElem hj', e']
              rw [List.map_take, List.getElem?_take, if_pos hj2] at h5
              exact h5
            have g2 : (((x0, c0) :: R).map (·.1))[j]? = some x := by rw [List.getElem?_map, ej]; rfl
            have := nd_ix hnd g1 g2
            omega
          · cases j with
            | zero => exact .inl rfl
            | succ j =>
              refine .inr ⟨c, ?_⟩
              have hb := below_at (R := R) (k := j) (y := x) (d := c) (by simpa using ej)
              obtain ⟨g1, g2⟩ := B.bel _ _ _ hb
              exact ⟨g1, (List.getElem?_eq_some_iff.mp g2).1⟩
          · have hL2 := s2 _ _ hL
            have hlen60 := B.len
            have hll : ((((((x0, c0) :: R).take j).map (·.1))).map vNat).length = j := by
              rw [List.length_map, List.length_map, List.length_take]
              omega
            refine ⟨_, rfl, .inl ⟨rfl, _, SqL.of hL2⟩, _, rfl, p, _, _, rfl, rfl, hL2, by rw [hll]; exact small1000 (by omega), ?_⟩
            have eL : ((((((x0, c0) :: R).take j).map (·.1))).map vNat) ++ [vNat x] = ((((((x0, c0) :: R).take (j + 1)).map (·.1))).map vNat) := by
              rw [List.take_add_one, ej]
              simp
            show tSeq _ _ _ _ (upd H2 p (.lst (((((((x0, c0) :: R).take j).map (·.1))).map vNat) ++ [vNat x])))
            rw [eL]
            have hll2 : ((((((x0, c0) :: R).take (j + 1)).map (·.1))).map vNat).length = j + 1 := by
              rw [List.length_map, List.length_map, List.length_take]
              omega
            have s3 : Same H (upd H2 p (.lst ((((((x0, c0) :: R).take (j + 1)).map (·.1))).map vNat))) := Evl.Ex.mut (s1.trans s2) hp
            have k3 : Keep K H (upd H2 p (.lst ((((((x0, c0) :: R).take (j + 1)).map (·.1))).map vNat))) := keep_same s3
            have fin : ∀ t : Option Nat, t = (((x0, c0) :: R)[j + 1]?).map (·.1) →
                (∃ j', ([some (.ref a), some (vNat (i + 1)), some x1, some x2, some x3, some x4, some (.ref b), some (.ref p), some (vTie t), some (vTie (R.head?.map (·.1)))] : L2.St) = [some (.ref a), some (vNat (i + 1)), some x1, some x2, some x3, some x4, some (.ref b), some (.ref p), some (vTie ((((x0, c0) :: R)[j']?).map (·.1))), some (vTie (R.head?.map (·.1)))] ∧ j' ≤ ((x0, c0) :: R).length ∧
                  Same H (upd H2 p (.lst ((((((x0, c0) :: R).take (j + 1)).map (·.1))).map vNat))) ∧ (upd H2 p (.lst ((((((x0, c0) :: R).take (j + 1)).map (·.1))).map vNat))) p = some (.lst ((((((x0, c0) :: R).take j').map (·.1))).map vNat))) ∧
                (match (upd H2 p (.lst ((((((x0, c0) :: R).take (j + 1)).map (·.1))).map vNat))) p with | some (.lst l) => 61 - l.length | _ => 0) < (match H1 p with | some (.lst l) => 61 - l.length | _ => 0) := fun t et => by
              subst et
              refine ⟨⟨j + 1, rfl, hjl, s3, upd_same⟩, ?_⟩
              rw [upd_same, hL]
              show 61 - ((((((x0, c0) :: R).take (j + 1)).map (·.1))).map vNat).length < 61 - ((((((x0, c0) :: R).take j).map (·.1))).map vNat).length
              rw [hll2, hll]
              omega
            refine ⟨_, rfl, p, _, rfl, .inl (SqL.of upd_same), rfl, _, rfl, ?_⟩
            rw [hll2]
            by_cases hj0 : j = 0
            · subst hj0
              refine iteT ⟨_, rfl, ?_⟩
              exact fin _ (by cases R <;> rfl)
            · have e1 : decide (V.int ((j + 1 : Nat) : Int) = V.int 1) = false := decide_eq_false (by intro z; cases z; omega)
              rw [e1]
              refine iteF ?_
              obtain ⟨j0, rfl⟩ : ∃ j0, j = j0 + 1 := ⟨j - 1, by omega⟩
              have hb := below_at (R := R) (k := j0) (y := x) (d := c) (by simpa using ej)
              obtain ⟨g1, g2⟩ := B.bel _ _ _ hb
              refine ⟨_, rfl, _, rfl, _, x, _, h1.mono k3, rfl, web_get hxl, fun r1 hr1 => ?_⟩
              refine ⟨_, rfl, _, rfl, _, x, _, h3.mono k3, rfl, get_map g1, fun c1 hc1 => ?_⟩
              have ec := nat_val hc1
              subst ec
              refine ⟨_, c, _, hr1, rfl, get_map g2, fun t1 ht1 => ?_⟩
              have et := tie_val ht1
              subst et
              exact fin _ (by simp)
      · obtain ⟨v, hv', h5, k', e', q'⟩ := q
        exact ⟨v, hv', h5, k', e', m _ _ q'⟩
end
end Tb
end
section
set_option Elab.async false
set_option linter.all false
set_option maxRecDepth 100000
set_option maxHeartbeats 2000000
/-! Rules beside the layer: an attribute as a target, dict.update, repr. -/
namespace Tb
open PySem PySem.Spec PyProof.Rows L2
section
variable {X : Cx}
/-- o.f among the targets of an unpacking -/
def gFld (K : PySem.W.Frag) (ta : TE) (f : Str) : TG := fun y σ H Q => ta σ H fun x H2 => ∃ a C dx fs, x = .ref a ∧ H2 a = some (.ins C dx fs) ∧ Cls K C ∧ NoAttr K C f ∧ fs.length < 1000 ∧ Q σ (upd H2 a (.ins C dx (putF f y fs)))
theorem pg_fld {o : Expr} {f : Str} {pos : Pos} {ta : TE} (ha : PE X o ta) : PG X (.Attribute o f pos) (gFld X.K ta f) := by
  refine ⟨fun pins s σ H y u Q I ry h => ?_⟩
  rw [assign_Attribute]
  refine wpAny_bind (wpAny_holding (thn (ha.run pins s σ H _ I h) fun ov s2 ⟨x, H2, I2, rx, a, C, dx, fs, ex, ea, c, n, l, q2⟩ => ?_))
  subst ex
  obtain rfl : ov = Value.ref a := rx
  refine wpAny_bind (wpAny_standAt (wpAny_bind (wpAny_holding ?_)))
  exact setattr_ok I2 ea c n l ry fun s3 I3 => wpAny_release ⟨σ, _, I3, q2⟩
/-- d.update(e), e another dict -/
def rDUpd : V → List V → Hp → VK → Prop := fun x vs H Q => ∃ (a b : Addr) (kvs more : List (Key × V)), x = .ref a ∧ vs = [.ref b] ∧ H a = some (.dK kvs) ∧ H b = some (.dK more) ∧ a ≠ b ∧ kvs.length + more.length ≤ sizeLine ∧ Q .non (upd H a (.dK (mergeK kvs more)))
theorem mtd_update : MtR X "dict.update" rDUpd := by
  intro pins s σ H x vs v us Q I rx rv h
  obtain ⟨a, b, kvs, more, rfl, rfl, ea, eb, hne, hz, q⟩ := h
  obtain rfl : v = Value.ref a := rx
  cases rv with
  | cons r rr =>
    cases rr
    obtain rfl : _ = Value.ref b := r
    obtain ⟨z, hd, vs, rel, dd⟩ := dk_of I.hok ea
    obtain ⟨z2, hd2, vs2, rel2, dd2⟩ := dk_of I.hok eb
    have l1 : kvs.length = vs.length := rel.length
    have l2 : more.length = vs2.length := rel2.length
    refine call_meetsIn PySem.F.slot_dict_update dd.typeIs PySem.F.entry_dict_update (PySem.F.args_dict_update_2 _ _) (meets_dict_update (mixKind X.prog X.w) a b hne hd2) ⟨vs, vs2, dd, dd2, by rw [← l1, ← l2]; exact hz, fun h' dd' _ hs => ?_⟩
    have he : ∃ q, h'.get? a = some q := let ⟨q, _, _, hq, _⟩ := dd'; ⟨q, hq⟩
    exact ⟨.non, _, d_write (t' := s.toks) I (by rw [ea]; exact True.intro) hs he (dk_new (Nat.le_trans (length_mergeK more kvs) hz) hd (KV.merge rel2 rel) dd'), rfl, q⟩
/-- repr(b), b True or False -/
def rReprB : List V → Hp → VK → Prop := fun xs H Q => ∃ b, xs = [.bl b] ∧ Q (.str (if b then "True" else "False")) H
theorem call_reprB : CallR X (.builtin "repr") rReprB := by
  intro pins s σ H xs us Q I r h
  obtain ⟨b, rfl, q⟩ := h
  cases r with
  | cons r rr =>
    cases rr
    obtain rfl : _ = Value.bool b := r
    exact P.repr_of_bool ⟨.str (if b then "True" else "False"), H, I.tok _, ⟨_, rfl⟩, q⟩
/-- repr(t), t data of tuples, no other repr under way -/
def rReprT (K : PySem.W.Frag) : List V → Hp → VK → Prop := fun xs H Q => ∃ v ds, xs = [v] ∧ Tp K H v (.tuple ds) ∧ (PyData.tuple ds).showable = true ∧ (PyData.tuple ds).hasDict = false ∧ (PyData.tuple ds).depth ≤ 60 ∧ (PyData.tuple ds).shown.length ≤ sizeLine ∧
  Q (.str (PyData.tuple ds).shown) H
theorem call_reprT (K : PySem.W.Frag) (hg : X.A.guards = some []) (hu : X.A.units + 64 < cLine) (hK : X.K = K := by rfl) : CallR X (.builtin "repr") (rReprT K) := by
  subst hK
  intro pins s σ H xs us Q I r h
  obtain ⟨v, ds, rfl, hv, h1, h2, h3, h4, q⟩ := h
  cases r with
  | cons r rr =>
    cases rr
    obtain ⟨a, ys, rfl, _⟩ := hv.inv
    obtain ⟨as, hr⟩ := Dp.reads I _ _ _ hv.dp r
    obtain rfl : _ = Value.ref a := r
    refine repr_of_reads' hr h1 (fun z => by rw [h2] at z; cases z) hg (by omega) (fun b o e => e) (fun h' u tk hk => ?_) h4
    exact ⟨.str _, H, I.kept (t' := tk) hk, ⟨_, rfl⟩, q⟩
theorem pe_fldK (K : PySem.W.Frag) {e : Expr} {f : Str} {pos : Pos} {ta : TE} (he : PE X e ta) (hb : attributeBase e f X.env (eval e X.env) = eval e X.env := by rfl) (hK : X.K = K := by rfl) : PE X (.Attribute e f pos) (tFld K ta f) := by
  subst hK
  exact pe_fld he hb
theorem ix_listK (K : PySem.W.Frag) (hK : X.K = K := by rfl) : IxR X (rIxL K) := by
  subst hK
  exact ix_list
end
end Tb
end
section
set_option Elab.async false
set_option linter.all false
set_option maxRecDepth 100000
set_option maxHeartbeats 2000000
/-! ways: all_ways, web_by, roots_by. -/
namespace Tb
open PySem PySem.Spec PyProof.Rows L2
theorem pe_revK {X : Cx} (K : PySem.W.Frag) {e : Expr} {te : TE} {k : Nat} {p1 p2 p3 pos : Pos} (he : PE X e te) (hK : X.K = K := by rfl) : PE X (.Subscript e (.Slice none none (some (.UnaryOp .USub (.Constant (.int 1) k p1) p2)) p3) pos) (tRevL K te) := by
  subst hK
  exact pe_revL he
/-- a list of lists, each of them its own -/
structure LL2 (H : Hp) (l : Addr) (as : List Addr) (xss : List (List V)) : Prop where
  lst : H l = some (.lst (as.map V.ref))
  nd : as.Nodup
  out : l ∉ as
  len : as.length = xss.length
  at_ : ∀ (i : Nat) a xs, as[i]? = some a → xss[i]? = some xs → H a = some (.lst xs)
/-- their data -/
def LD (K : PySem.W.Frag) (H : Hp) (xss : List (List V)) (dss : List (List PyData)) : Prop := xss.length = dss.length ∧ ∀ (i : Nat) xs ds, xss[i]? = some xs → dss[i]? = some ds → TpAll K H xs ds
theorem LD.mono {K : PySem.W.Frag} {H H' : Hp} {xss : List (List V)} {dss : List (List PyData)} (h : LD K H xss dss) (k : Keep K H H') : LD K H' xss dss := ⟨h.1, fun i xs ds a b => (h.2 i xs ds a b).mono k⟩
theorem LL2.keep {H H' : Hp} {l : Addr} {as : List Addr} {xss : List (List V)} (h : LL2 H l as xss) (k : ∀ b o, b = l ∨ b ∈ as → H b = some o → H' b = some o) : LL2 H' l as xss :=
  ⟨k _ _ (.inl rfl) h.lst, h.nd, h.out, h.len, fun i a xs ha hx => k _ _ (.inr (List.mem_of_getElem? ha)) (h.at_ i a xs ha hx)⟩
theorem LL2.same {H H' : Hp} {l : Addr} {as : List Addr} {xss : List (List V)} (h : LL2 H l as xss) (k : Same H H') : LL2 H' l as xss := h.keep fun b o _ e => k b o e
theorem LL2.get {H : Hp} {l : Addr} {as : List Addr} {xss : List (List V)} (h : LL2 H l as xss) {i : Nat} {xs : List V} (hx : xss[i]? = some xs) : ∃ a, as[i]? = some a ∧ H a = some (.lst xs) := by
  have hi : i < as.length := by rw [h.len]; exact (List.getElem?_eq_some_iff.mp hx).1
  exact ⟨as[i], List.getElem?_eq_getElem hi, h.at_ i _ _ (List.getElem?_eq_getElem hi) hx⟩
theorem LL2.set {H : Hp} {l : Addr} {as : List Addr} {xss : List (List V)} (h : LL2 H l as xss) {i : Nat} {a : Addr} (ha : as[i]? = some a) (ys : List V) : LL2 (upd H a (.lst ys)) l as (xss.set i ys) := by
  have hla : l ≠ a := fun e => h.out (e ▸ List.mem_of_getElem? ha)
  refine ⟨by rw [upd_ne hla]; exact h.lst, h.nd, h.out, by rw [List.length_set]; exact h.len, fun j b xs hb hx => ?_⟩
  by_cases hj : i = j
  · subst hj
    rw [ha] at hb
    cases hb
    have hi : i < xss.length := by rw [← h.len]; exact (List.getElem?_eq_some_iff.mp ha).1
    rw [List.getElem?_set_self hi] at hx
    cases hx
    exact upd_same
  · rw [List.getElem?_set_ne hj] at hx
    have hba : b ≠ a := fun e => hj (nd_ix h.nd ha (e ▸ hb))
    rw [upd_ne hba]
    exact h.at_ j b xs hb hx
theorem dWeb_eq (W : Web) : dWeb W = .tuple ((W.map (·.map dTie)).map .tuple) := by
  unfold dWeb dRow
  rw [List.map_map]
  rfl
section
variable {K : PySem.W.Frag}
theorem tpAll_ties {H : Hp} {xs : List V} {r : Row} (h : TpAll K H xs (r.map dTie)) : xs = r.map vTie := by
  induction r generalizing xs with
  | nil => exact h.inv0
  | cons t r ih =>
    obtain ⟨v, ys, rfl, h1, h2⟩ := h.inv
    rw [tie_val h1, ih h2]
    rfl
theorem tpAll_natsV {H : Hp} {xs : List V} {r : List Nat} (h : TpAll K H xs (r.map dNat)) : xs = r.map vNat := by
  induction r generalizing xs with
  | nil => exact h.inv0
  | cons t r ih =>
    obtain ⟨v, ys, rfl, h1, h2⟩ := h.inv
    rw [nat_val h1, ih h2]
    rfl
theorem tpAll_rowV {H : Hp} (r : Row) : TpAll K H (r.map vTie) (r.map dTie) := .map r fun t _ => tp_tie t
theorem ld_web {H : Hp} {xss : List (List V)} {W : Web} (h : LD K H xss (W.map (·.map dTie))) : xss = W.map (·.map vTie) := by
  apply List.ext_getElem?
  intro i
  rw [List.getElem?_map]
  have hl := h.1
  rw [List.length_map] at hl
  cases e : W[i]? with
  | none =>
    have : xss.length ≤ i := by rw [hl]; simpa using e
    rw [List.getElem?_eq_none this]
    rfl
  | some r =>
    have hi : i < xss.length := by rw [hl]; exact (List.getElem?_eq_some_iff.mp e).1
    rw [List.getElem?_eq_getElem hi]
    have := h.2 i xss[i] (r.map dTie) (List.getElem?_eq_getElem hi) (by rw [List.getElem?_map, e]; rfl)
    rw [tpAll_ties this]
    rfl
theorem web_ld {H : Hp} (W : Web) : LD K H (W.map (·.map vTie)) (W.map (·.map dTie)) := by
  refine ⟨by simp, fun i xs ds a b => ?_⟩
  obtain ⟨r, hr, rfl⟩ := map_get a
  rw [List.getElem?_map, hr] at b
  cases b
  exact tpAll_rowV r
/-- what a block over J does -/
def tLcJ (J : It) (g : TG) (tt : TT) (te : TE) (vs : List Nat) (σ : L2.St) (H1 : Hp) (Qd : Addr → Hp → Prop) : Prop := ∀ D, H1 D = none → ∃ W : Nat → Nat → Hp → Prop, (∃ m, W 0 m (upd H1 D (.lst []))) ∧ ∀ i m H, W i m H →
  (J.stop i H ∧ Qd D H) ∨ (J.go i H ∧ ∃ Nx : Hp → Prop, (∀ H', Nx H' → ∃ m', m' < m ∧ W (i + 1) m' H') ∧ ∀ x H', J.yld i H x H' → g x (wipe σ vs) H' fun σ2 H2 => wipe σ2 vs = wipe σ vs ∧ tt σ2 H2 fun b H3 =>
    if b = true then te σ2 H3 fun y H4 => ∃ acc, H4 D = some (.lst acc) ∧ acc.length < sizeLine ∧ Nx (upd H4 D (.lst (acc ++ [y]))) else Nx H3)
/-- [list(x) for x in ..] -/
theorem lc_lists {J : It} {G : Hp → Prop} {xs : List V} {dss : List (List PyData)} {σ : L2.St} {H : Hp} {Q : Addr → Hp → Prop} {j : Nat} (w : Walk J xs.length G (YAt xs)) (hG : ∀ H', Same H H' → G H') (hx : TpAll K H xs (dss.map .tuple)) (hlen : xs.length ≤ 100)
    (hj : j < σ.length)
    (k : ∀ l as xss H', Same H H' → H l = none → (∀ a, a ∈ as → H a = none) → LL2 H' l as xss → LD K H' xss dss → Q l H') :
    tLcJ J (gName j) tYes (tCB (rLstD K) (tCons (tVar j) tNil)) [j] σ H Q := by
  intro D hD
  have hxd : xs.length = dss.length := by rw [hx.1, List.length_map]
  refine lc_it w (fun i H1 => Same H H1 ∧ ∃ as xss, LL2 H1 D as xss ∧ as.length = i ∧ (∀ a, a ∈ as → H a = none) ∧ LD K H1 xss (dss.take i))
    ⟨same_new hD, [], [], ⟨upd_same, by simp, by simp, rfl, fun i a xs h _ => by simp at h⟩, rfl, by simp, ⟨by simp, fun i a b h _ => by simp at h⟩⟩ (fun i H1 _ p => hG _ p.1) ?_ ?_
  · rintro i x H1 H2 hi ⟨s1, as, xss, hL, hli, hfr, hld⟩ ⟨rfl, hxi⟩
    obtain ⟨d, hd, hxd1⟩ := hx.turn hxi
    obtain ⟨ds, hds, rfl⟩ := map_get hd
    refine ⟨?_, ?_⟩
    · show ((wipe σ [j]).set j (some x)).set j none = wipe σ [j]
      apply List.ext_getElem?
      intro m
      show (((σ.set j none).set j (some x)).set j none)[m]? = (σ.set j none)[m]?
      simp [List.set_set]
    · refine ⟨x, ?_, ?_⟩
      · show ((σ.set j none).set j (some x))[j]? = some (some x)
        rw [List.getElem?_set_self (by simpa using hj)]
      · refine ⟨x, ds, rfl, hxd1.mono (keep_same s1), fun l ys hl hys => ?_⟩
        have hDl : D ≠ l := ne_of_none hL.lst hl
        refine ⟨as.map V.ref, by rw [upd_ne hDl]; exact hL.lst, by rw [List.length_map]; exact small1000 (by omega), ?_⟩
        have hlas : l ∉ as := fun hm => by
          obtain ⟨n, hn⟩ := List.mem_iff_getElem?.mp hm
          obtain ⟨xs', hx'⟩ : ∃ xs', xss[n]? = some xs' := ⟨xss[n]'(by rw [← hL.len]; exact (List.getElem?_eq_some_iff.mp hn).1), List.getElem?_eq_getElem _⟩
          have := hL.at_ n l xs' hn hx'
          rw [hl] at this
          cases this
        have s2 : Same H (upd (upd H2 l (.lst ys)) D (.lst (as.map V.ref ++ [V.ref l]))) := Evl.Ex.mut (s1.trans (same_new hl)) hD
        refine ⟨s2, as ++ [l], xss ++ [ys], ⟨by rw [upd_same]; simp, ?_, ?_, by simp [hL.len], fun n a zs ha hz => ?_⟩, by simp [hli], ?_, ?_⟩
        · rw [List.nodup_append]
          refine ⟨hL.nd, by simp, fun a ha b hb e => ?_⟩
          simp at hb
          subst hb
          subst e
          exact hlas ha
        · intro hm
          rcases List.mem_append.mp hm with hm | hm
          · exact hL.out hm
          · simp at hm
            exact hDl hm
        · by_cases hn : n < as.length
          · rw [List.getElem?_append_left hn] at ha
            rw [List.getElem?_append_left (by rw [← hL.len]; exact hn)] at hz
            have g1 : a ≠ D := fun e => hL.out (e ▸ List.mem_of_getElem? ha)
            have g2 : a ≠ l := fun e => hlas (e ▸ List.mem_of_getElem? ha)
            rw [upd_ne g1, upd_ne g2]
            exact hL.at_ n a zs ha hz
          · rw [List.getElem?_append_right (by omega)] at ha
            rw [List.getElem?_append_right (by rw [← hL.len]; omega), ← hL.len] at hz
            have hn0 : n - as.length = 0 := by
              have := (List.getElem?_eq_some_iff.mp ha).1
              simp at this
              omega
            rw [hn0] at ha hz
            simp at ha hz
            subst ha; subst hz
            rw [upd_ne hDl.symm, upd_same]
        · intro a ha
          rcases List.mem_append.mp ha with ha | ha
          · exact hfr a ha
          · simp at ha
            subst ha
            exact s1.free hl
        · have kk : Keep K H2 (upd (upd H2 l (.lst ys)) D (.lst (as.map V.ref ++ [V.ref l]))) := (keep_new hl).trans (keep_upd (by rw [upd_ne hDl]; exact hL.lst) rfl)
          have ed : dss.take (i + 1) = dss.take i ++ [ds] := by rw [List.take_add_one, hds]; rfl
          rw [ed]
          have hl1 := hld.1
          refine ⟨by simp at hl1 ⊢; omega, fun n a b ha hb => ?_⟩
          by_cases hn : n < xss.length
          · rw [List.getElem?_append_left hn] at ha
            rw [List.getElem?_append_left (by rw [← hl1]; exact hn)] at hb
            exact (hld.2 n a b ha hb).mono kk
          · rw [List.getElem?_append_right (by omega)] at ha
            rw [List.getElem?_append_right (by rw [← hl1]; omega), ← hl1] at hb
            have hn0 : n - xss.length = 0 := by
              have := (List.getElem?_eq_some_iff.mp ha).1
              simp at this
              omega
            rw [hn0] at ha hb
            simp at ha hb
            subst ha; subst hb
            exact hys.mono kk
  · rintro H1 ⟨s1, as, xss, hL, hli, hfr, hld⟩
    refine k D as xss H1 s1 hD hfr hL ?_
    rw [List.take_of_length_le (by omega)] at hld
    exact hld
/-- [tuple(x) for x in ..], x lists -/
theorem lc_tuples {l : Addr} {as : List Addr} {xss : List (List V)} {dss : List (List PyData)} {σ : L2.St} {H : Hp} {Q : Addr → Hp → Prop} {j : Nat} (hL : LL2 H l as xss) (hld : LD K H xss dss) (hlen : as.length ≤ 100) (hj : j < σ.length)
    (k : ∀ p ys H', Same H H' → H p = none → H' p = some (.lst ys) → TpAll K H' ys (dss.map .tuple) → Q p H') :
    tLcJ (Itl K l) (gName j) tYes (tCB (rTupD K) (tCons (tVar j) tNil)) [j] σ H Q := by
  intro D hD
  have h1 := hL.len
  have h2 := hld.1
  refine lc_it (walk_list (K := K) (a := l) (xs := as.map V.ref)) (fun i H1 => Same H H1 ∧ ∃ ys, H1 D = some (.lst ys) ∧ TpAll K H1 ys ((dss.take i).map .tuple)) ⟨same_new hD, [], upd_same, .nil⟩ (fun i H1 _ p => .inl (.inl (p.1 _ _ hL.lst))) ?_ ?_
  · rintro i x H1 H2 hi ⟨s1, ys, hD1, ht⟩ ⟨rfl, hxi⟩
    rw [List.length_map] at hi
    obtain ⟨a, ha, rfl⟩ := map_get hxi
    obtain ⟨xs, hxs⟩ : ∃ xs, xss[i]? = some xs := ⟨xss[i]'(by omega), List.getElem?_eq_getElem _⟩
    obtain ⟨ds, hds⟩ : ∃ ds, dss[i]? = some ds := ⟨dss[i]'(by omega), List.getElem?_eq_getElem _⟩
    have hA := hL.at_ i a xs ha hxs
    refine ⟨?_, ?_⟩
    · show ((wipe σ [j]).set j (some (V.ref a))).set j none = wipe σ [j]
      apply List.ext_getElem?
      intro m
      show (((σ.set j none).set j (some (V.ref a))).set j none)[m]? = (σ.set j none)[m]?
      simp [List.set_set]
    · refine ⟨.ref a, ?_, ?_⟩
      · show ((σ.set j none).set j (some (V.ref a)))[j]? = some (some (V.ref a))
        rw [List.getElem?_set_self (by simpa using hj)]
      · refine ⟨a, xs, ds, rfl, SqL.of (s1 _ _ hA), (hld.2 i xs ds hxs hds).mono (keep_same s1), fun v H3 s3 hv => ?_⟩
        have hD3 := s3 _ _ hD1
        have hly := ht.1
        rw [List.length_map, List.length_take] at hly
        refine ⟨ys, hD3, small1000 (by omega), Evl.Ex.mut (s1.trans s3) hD, ys ++ [v], upd_same, ?_⟩
        have kk : Keep K H3 (upd H3 D (.lst (ys ++ [v]))) := keep_upd hD3 rfl
        have ed : dss.take (i + 1) = dss.take i ++ [ds] := by rw [List.take_add_one, hds]; rfl
        rw [ed, List.map_append]
        exact (ht.mono ((keep_same s3).trans kk)).append (.one (hv.mono kk))
  · rintro H1 ⟨s1, ys, hD1, ht⟩
    rw [List.length_map, List.take_of_length_le (by omega)] at ht
    exact k D ys H1 s1 hD hD1 ht
end
/-! ### the law's and the program's stores into a web -/
abbrev MutWeb (H : Hp) (l : Addr) (as : List Addr) (W : Web) : Prop := LL2 H l as (W.map (·.map vTie))
theorem set_row {W : Web} {x c : Nat} {t : Option Nat} (hx : x < W.length) : (W.map (·.map vTie)).set x (((rowAt W x).map vTie).set c (vTie t)) = (W.modify x (·.set c t)).map (·.map vTie) := by
  apply List.ext_getElem?
  intro i
  rw [List.getElem?_map, List.getElem?_modify, List.getElem?_set, List.getElem?_map]
  by_cases h : x = i
  · subst h
    rw [if_pos rfl, if_pos (by simpa using hx), row_get hx]
    simp
  · simp [h]
theorem MutWeb.put {H : Hp} {l : Addr} {as : List Addr} {W : Web} (h : MutWeb H l as W) {x c : Nat} {a : Addr} {t : Option Nat} (ha : as[x]? = some a) (hx : x < W.length) : MutWeb (upd H a (.lst (((rowAt W x).map vTie).set c (vTie t)))) l as (W.modify x (·.set c t)) := by
  have := LL2.set h ha (((rowAt W x).map vTie).set c (vTie t))
  rw [set_row hx] at this
  exact this
theorem MutWeb.row {H : Hp} {l : Addr} {as : List Addr} {W : Web} (h : MutWeb H l as W) {x : Nat} (hx : x < W.length) : ∃ a, as[x]? = some a ∧ H a = some (.lst ((rowAt W x).map vTie)) := by
  refine LL2.get h (i := x) ?_
  rw [List.getElem?_map, row_get hx]
  rfl
theorem ixN_nat {n j : Nat} (h : j < n) : ixN n (j : Int) = some j := by
  unfold ixN
  rw [if_pos (by omega), if_pos (by omega)]
  simp
/-- one store -/
def upf (C : List Nat) (l : Web) (p : Nat × Nat) : Web := l.modify p.1 (·.set (C.getD p.1 0) (some p.2))
def prs (way : List Nat) : List (Nat × Nat) := way.zip way.tail
theorem upf_len (C : List Nat) (l : Web) (p : Nat × Nat) : (upf C l p).length = l.length := by simp [upf]
theorem fold_len (C : List Nat) (ps : List (Nat × Nat)) (l : Web) : (ps.foldl (upf C) l).length = l.length := by
  induction ps generalizing l with
  | nil => rfl
  | cons p ps ih => rw [List.foldl_cons, ih, upf_len]
theorem upf_row (C : List Nat) (l : Web) (p : Nat × Nat) (x : Nat) : (rowAt (upf C l p) x).length = (rowAt l x).length := by
  unfold rowAt upf
  rw [List.getD_eq_getElem?_getD, List.getD_eq_getElem?_getD, List.getElem?_modify]
  cases e : l[x]? with
  | none => simp [e]
  | some r =>
    by_cases h : p.1 = x
    · simp [h, e]
    · simp [h, e]
theorem fold_row (C : List Nat) (ps : List (Nat × Nat)) (l : Web) (x : Nat) : (rowAt (ps.foldl (upf C) l) x).length = (rowAt l x).length := by
  induction ps generalizing l with
  | nil => rfl
  | cons p ps ih => rw [List.foldl_cons, ih, upf_row]
theorem cutD_tail (ds : List PyData) : cutD ds (some 1) none = ds.tail := by
  unfold cutD
  have : HT.sIx ds.length 0 (some 1) = min 1 ds.length := HT.sIx_nat ds.length 0 1
  rw [this, HT.sIx_none]
  cases ds with
  | nil => rfl
  | cons d ds =>
    have : min 1 (d :: ds).length = 1 := by simp
    rw [this]
    simp
abbrev sWebBy : Stmt := top 31
abbrev sRoots : Stmt := top 32
def spWebBy (K : PySem.W.Frag) : Sp := fun vs H Q _ => ∃ v p W M C hs ys, ∃ ws : List (List Nat), vs = [v, .ref p] ∧ Tp K H v (dState W M C hs) ∧ H p = some (.lst ys) ∧ TpAll K H ys (ws.map dNats) ∧ ws.length ≤ 6 ∧ W.length ≤ 60 ∧
  (∀ way, way ∈ ws → ∀ q, q ∈ prs way → q.1 < W.length ∧ q.1 < C.length ∧ C.getD q.1 0 < (rowAt W q.1).length) ∧ ∀ v' H', Same H H' → Tp K H' v' (dWeb ((ws.map prs).flatten.foldl (upf C) W)) → Q v' H'
def spRoots (K : PySem.W.Frag) : Sp := fun vs H Q _ => ∃ v p W M C hs ys, ∃ ws : List (List Nat), ∃ roots : List Nat, vs = [v, .ref p] ∧ Tp K H v (dState W M C hs) ∧ H p = some (.lst ys) ∧ TpAll K H ys (ws.map dNats) ∧ ws.length = hs.length ∧ ws.length = roots.length ∧ ws.length ≤ 6 ∧
  (∀ (i : Nat) way h r, ws[i]? = some way → hs[i]? = some h → roots[i]? = some r → (way = [] → h = .root r) ∧ (way ≠ [] → way[0]? = some r)) ∧ ∀ v' H', Same H H' → Tp K H' v' (dNats roots) → Q v' H'
section
variable {P : Program} {w : World} {K : PySem.W.Frag} {mg : Str → Option Value} {base : Heap}
abbrev nWays : List Str := ["state", "walker"]
theorem scWays : FnScope nWays ["state"] (defScope sWays) := ⟨rfl, rfl, rfl, by decide +kernel, rfl, by decide +kernel, by decide +kernel⟩
theorem ok_ways {f f1 : Addr} {fd fd1 : FuncData} (F : Fun K "all_ways" "all_ways" sWays f fd) (T : Bt mg) (G1 : FnOk P w K mg base CX0 2 f1 fd1 ["state", "walker"] (spBack K)) (D1 : Dn K mg "back_of" f1 fd1 ["state", "walker"]) :
    FnOk P w K mg base CX0 3 f fd ["state"] (spWays K) := by
  refine F.ok scWays (fun vs H Q E h => ?_) (fun cdv A outer s H vs Q E hr h => ?_)
  · obtain ⟨v, W, M, C, hs, roots, Ss, rfl, _⟩ := h
    rfl
  · obtain ⟨v, W, M, C, hs, roots, Ss, rfl, hv, hl, h6, hrl, hB, k⟩ := h
    refine ⟨_, (pss_one (ps_ret (pe_lc (own := [("walker", 1)]) (g := (gName 1)) (tt := tYes) rfl scWays.nd (pi_range2 rfl T.range (pa_cons pe_int (pa_cons (pe_op op_add (pe_callB (call_lenT K) (by rfl) T.len PySem.boot_len (pa_cons (pe_ix (ix_D K) (pv 0) pe_int (fun _ _ => rfl)) pa_nil)) pe_int) pa_nil))) (blkOk_by (N := nWays) (sc := defScope sWays) (by decide +kernel)) (fun _ _ _ _ _ => (pg_name (i := 1) scWays.nd rfl (Or.inl rfl))) (fun _ _ _ _ _ => pts_nil) (fun _ _ _ _ _ => (pe_callTy (call_tupD K) (by rfl) T.tuple (by decide +kernel) (pa_cons (pe_revK K (pe_call G1 hr (by rfl) D1.mgf D1.kp D1.b .nil pass0 (pa_cons (pv 0) (pa_cons (pv 1) pa_nil)))) pa_nil)))))), ?_⟩
    refine ⟨_, rfl, _, 3, _, hv, rfl, rfl, fun v3 h3 => ?_⟩
    refine ⟨_, _, rfl, h3, _, _, rfl, rfl, _, _, rfl, ?_⟩
    have el : ((hs.map dSpot).length : Int) = (Ss.length : Int) := by rw [List.length_map, hl]
    have en : (((hs.map dSpot).length : Int) + 1 - 1).toNat = Ss.length := by rw [el]; omega
    refine ⟨by omega, fun D hD => ?_⟩
    rw [en]
    refine lc_it (walk_range (lo := 1) (n := Ss.length)) (fun i H1 => Same H H1 ∧ ∃ ys, H1 D = some (.lst ys) ∧ TpAll K H1 ys (((Ss.take i).map wayOf).map dNats)) ⟨same_new hD, [], upd_same, .nil⟩ (fun _ _ _ _ => trivial) ?_ ?_
    · rintro i x H1 H2 hi ⟨s1, ys, hD1, ht⟩ ⟨rfl, hx⟩
      have ex : x = vNat (i + 1) := by rw [hx]; show V.int _ = V.int _; congr 1; omega
      subst ex
      obtain ⟨S, hS⟩ : ∃ S, Ss[i]? = some S := ⟨Ss[i], List.getElem?_eq_getElem hi⟩
      obtain ⟨r, hr'⟩ : ∃ r, roots[i]? = some r := ⟨roots[i]'(by omega), List.getElem?_eq_getElem _⟩
      refine ⟨rfl, _, rfl, _, rfl, _, i, r, W, M, C, hs, S, rfl, hv.mono (keep_same s1), hB i S r hS hr', fun H3 p s3 hp hp3 => ?_⟩
      refine ⟨p, _, rfl, SqL.of hp3, fun q hq => ?_⟩
      refine ⟨q, _, (wayOf S).map dNat, rfl, SqL.of upd_same, ?_, fun v' H4 s4 hv4 => ?_⟩
      · rw [← List.map_reverse]
        exact tpAll_nats _
      · have hD4 := s4 _ _ (same_new hq _ _ (s3 _ _ hD1))
        have s34 : Same H2 H4 := (s3.trans (same_new hq)).trans s4
        have hly := ht.1
        rw [List.length_map, List.length_map, List.length_take] at hly
        refine ⟨ys, hD4, small1000 (by omega), Evl.Ex.mut (s1.trans s34) hD, ys ++ [v'], upd_same, ?_⟩
        have kk : Keep K H4 (upd H4 D (.lst (ys ++ [v']))) := keep_upd hD4 rfl
        have ed : Ss.take (i + 1) = Ss.take i ++ [S] := by rw [List.take_add_one, hS]; rfl
        rw [ed, List.map_append, List.map_append]
        exact (ht.mono ((keep_same s34).trans kk)).append (.one (hv4.mono kk))
    · rintro H1 ⟨s1, ys, hD1, ht⟩
      rw [List.take_length] at ht
      exact k H1 D ys s1 hD hD1 ht
abbrev nWebBy : List Str := ["state", "ways", "rows", "way", "node", "behind", "row"]
theorem scWebBy : FnScope nWebBy ["state", "ways"] (defScope sWebBy) := ⟨rfl, rfl, rfl, by decide +kernel, rfl, by decide +kernel, by decide +kernel⟩
theorem ok_webby {f : Addr} {fd : FuncData} (F : Fun K "web_by" "web_by" sWebBy f fd) (T : Bt mg) : FnOk P w K mg base CX0 1 f fd ["state", "ways"] (spWebBy K) := by
  refine F.ok scWebBy (fun vs H Q E h => ?_) (fun cdv A outer s H vs Q E hr h => ?_)
  · obtain ⟨v, p, W, M, C, hs, ys, ws, rfl, _⟩ := h
    rfl
  · obtain ⟨v, p, W, M, C, hs, ys, ws, rfl, hv, hp, hys, h6, h60, hok, k⟩ := h
    refine ⟨_, (pss_cons (ps_setLc (i := 2) (own := [("row", 6)]) (g := (gName 6)) (tt := tYes) rfl scWebBy.nd rfl rfl (sw_true rfl rfl rfl (by decide +kernel)) (pi_tup (pe_ix (ix_D K) (pv 0) pe_int (fun _ _ => rfl))) (blkOk_by (N := nWebBy) (sc := defScope sWebBy) (by decide +kernel)) (fun _ _ _ _ _ => (pg_name (i := 6) scWebBy.nd rfl (Or.inl rfl))) (fun _ _ _ _ _ => pts_nil) (fun _ _ _ _ _ => (pe_callTy (call_lstD K) (by rfl) T.list (by decide +kernel) (pa_cons (pv 6) pa_nil))))
      (pss_cons (ps_for PassesOwn.never rfl (pi_list (pv 1)) (pg_name (i := 3) scWebBy.nd rfl (Or.inl rfl)) (pss_one (ps_for PassesOwn.never rfl (RZ.pi_zipA (by rfl) T.zip (pa_cons (pv 3) (pa_cons (pe_slice (sl_D K) (pv 3) (po_some pe_int) po_none) pa_nil))) (pg_tup rfl (pgs_cons (pg_name (i := 4) scWebBy.nd rfl (Or.inl rfl)) (pgs_cons (pg_name (i := 5) scWebBy.nd rfl (Or.inl rfl)) pgs_nil))) (pss_one (ps_asg (pv 5) (pg_sub (pe_ix ix_list (pv 2) (pv 4) (fun _ _ => rfl)) (pe_ix (ix_D K) (pe_ix (ix_D K) (pv 0) pe_int (fun _ _ => rfl)) (pv 4) (fun _ _ => rfl)) set_list))))))
      (pss_one (ps_ret (pe_callTy (call_tupD K) (by rfl) T.tuple (by decide +kernel) (pa_cons (pe_lc (own := [("row", 6)]) (g := (gName 6)) (tt := tYes) rfl scWebBy.nd (pi_list (pv 2)) (blkOk_by (N := nWebBy) (sc := defScope sWebBy) (by decide +kernel)) (fun _ _ _ _ _ => (pg_name (i := 6) scWebBy.nd rfl (Or.inl rfl))) (fun _ _ _ _ _ => pts_nil) (fun _ _ _ _ _ => (pe_callTy (call_tupD K) (by rfl) T.tuple (by decide +kernel) (pa_cons (pv 6) pa_nil)))) pa_nil)))))), ?_⟩
    refine ⟨_, rfl, _, 0, _, hv, rfl, rfl, fun v0 h0 => ?_⟩
    rw [dWeb_eq] at h0
    obtain ⟨a, xs, rfl, hS, hA⟩ := h0.inv
    have hxl : xs.length = W.length := by rw [hA.1]; simp
    refine ⟨a, rfl, ⟨xs, hS⟩, ?_⟩
    show tLcJ (Itt K a) (gName 6) tYes (tCB (rLstD K) (tCons (tVar 6) tNil)) [6] _ _ _
    refine lc_lists (K := K) (walk_tup (K := K) (a := a) (xs := xs)) (fun H' s' => Evl.ex_t s' hS) hA (by omega) (by show 6 < 7; decide) fun l as xss H1 s1 hl has hL hld => ?_
    have exs := ld_web hld
    subst exs
    have npl : p ≠ l := ne_of_none hp hl
    -- the loops
    have hq : ∀ H2, Same H H2 → Keep K H1 H2 → SqL K H2 p ys := fun H2 s2 _ => SqL.of (s2 _ _ hp)
    have nfresh : ∀ b, b = l ∨ b ∈ as → H b = none := fun b hb => hb.elim (fun e => by rw [e]; exact hl) (has b)
    refine ⟨_, rfl, p, rfl, ⟨ys, SqL.of (s1 _ _ hp)⟩, ?_⟩
    refine for_it (walk_list (K := K) (a := p) (xs := ys)) (fun i σ H2 => ∃ y3 y4 y5 y6, σ = [some v, some (.ref p), some (.ref l), y3, y4, y5, y6] ∧ Same H H2 ∧ MutWeb H2 l as (((ws.take i).map prs).flatten.foldl (upf C) W))
      ⟨_, _, _, _, rfl, s1, hL⟩ (fun i σ H2 _ h2 => by obtain ⟨_, _, _, _, _, s2, _⟩ := h2; exact SqL.of (s2 _ _ hp)) ?_ ?_
    · rintro i x σ H2 H3 hi ⟨y3, y4, y5, y6, rfl, s2, hW⟩ ⟨rfl, hxi⟩
      obtain ⟨d, hd, hxd⟩ := hys.turn hxi
      obtain ⟨way, hway, rfl⟩ := map_get hd
      have hx3 : Tp K H3 x (.tuple (way.map dNat)) := hxd.mono (keep_same s2)
      have eway : ws.take (i + 1) = ws.take i ++ [way] := by rw [List.take_add_one, hway]; rfl
      refine ⟨_, rfl, _, rfl, _, rfl, _, hx3, fun v2 H4 s4 hv2 => ?_⟩
      have ec : cutD (way.map dNat) (some 1) none = way.tail.map dNat := by rw [cutD_tail, List.map_tail]
      rw [ec] at hv2
      obtain ⟨b1, zs1, rfl, g1, t1⟩ := (hx3.mono (keep_same s4)).inv
      obtain ⟨b2, zs2, rfl, g2, t2⟩ := hv2.inv
      have e1 := tpAll_natsV t1
      have e2 := tpAll_natsV t2
      subst e1 e2
      refine ⟨b1, b2, _, _, rfl, .inr ⟨g1, g2, ?_⟩⟩
      have hn : (prs way).length = min (way.map vNat).length (way.tail.map vNat).length := by simp [prs]
      refine for_it (walk_zipT hn) (fun j σ H5 => ∃ y4 y5 y6, σ = [some v, some (.ref p), some (.ref l), some (.ref b1), y4, y5, y6] ∧ Same H H5 ∧ SqT K H5 b1 (way.map vNat) ∧ SqT K H5 b2 (way.tail.map vNat) ∧
          MutWeb H5 l as (((prs way).take j).foldl (upf C) (((ws.take i).map prs).flatten.foldl (upf C) W)))
        ⟨_, _, _, rfl, s2.trans s4, g1, g2, LL2.same hW s4⟩ (fun j σ H5 _ h5 => by obtain ⟨_, _, _, _, _, q1, q2, _⟩ := h5; exact ⟨q1, q2⟩) ?_ ?_
      · rintro j x σ H5 H6 hj ⟨y4, y5, y6, rfl, s5, q1, q2, hW5⟩ ⟨T1, xv, yv, rfl, hT, rfl, hxv, hyv⟩
        obtain ⟨xn, hxn, rfl⟩ := map_get hxv
        obtain ⟨yn, hyn, rfl⟩ := map_get hyv
        have hpr : (prs way)[j]? = some (xn, yn) := by
          unfold prs
          rw [List.getElem?_zip_eq_some]
          exact ⟨hxn, hyn⟩
        obtain ⟨h1, h2, h3⟩ := hok way (List.mem_of_getElem? hway) _ (List.mem_of_getElem? hpr)
        have s6 := s5.trans (same_new (o := .tup [vNat xn, vNat yn]) hT)
        have hW6 := LL2.same hW5 (same_new (o := .tup [vNat xn, vNat yn]) hT)
        generalize hWc : (((prs way).take j).foldl (upf C) (((ws.take i).map prs).flatten.foldl (upf C) W)) = Wc at hW6
        have hlc : Wc.length = W.length := by rw [← hWc, fold_len, fold_len]
        have hrc : (rowAt Wc xn).length = (rowAt W xn).length := by rw [← hWc, fold_row, fold_row]
        obtain ⟨ra, hra, hHa⟩ := MutWeb.row hW6 (x := xn) (by rw [hlc]; exact h1)
        refine g2_ok (SqT.of upd_same) ⟨_, rfl, _, rfl, _, rfl, l, _, _, _, rfl, rfl, SqL.of hW6.lst, atI_nat (get_mapV hra), ?_⟩
        refine ⟨_, rfl, _, 2, _, hv.mono (keep_same s6), rfl, rfl, fun v2 hv2 => ?_⟩
        have hC : C[xn]? = some (C.getD xn 0) := by rw [List.getD_eq_getElem?_getD, List.getElem?_eq_getElem h2]; rfl
        refine ⟨_, rfl, _, xn, _, hv2, rfl, get_map hC, fun v3 hv3 => ?_⟩
        have e3 := nat_val hv3
        subst e3
        refine ⟨ra, _, _, _, rfl, rfl, hHa, ixN_nat (by rw [List.length_map, hrc]; exact h3), ?_⟩
        have hfr : H ra = none := has ra (List.mem_of_getElem? hra)
        have etk : (prs way).take (j + 1) = (prs way).take j ++ [(xn, yn)] := by rw [List.take_add_one, hpr]; rfl
        refine ⟨_, _, _, rfl, Evl.Ex.mut s6 hfr, keep_upd hHa rfl _ _ (keep_new hT _ _ q1), keep_upd hHa rfl _ _ (keep_new hT _ _ q2), ?_⟩
        rw [etk, List.foldl_append, hWc]
        exact MutWeb.put hW6 (t := some yn) hra (by rw [hlc]; exact h1)
      · rintro σ H5 ⟨y4, y5, y6, rfl, s5, q1, q2, hW5⟩
        refine ⟨_, _, _, _, rfl, s5, ?_⟩
        rw [List.take_length] at hW5
        rw [eway, List.map_append, List.flatten_append, List.foldl_append]
        simpa using hW5
    · rintro σ H2 ⟨y3, y4, y5, y6, rfl, s2, hW⟩
      have hyl : ys.length = ws.length := by rw [hys.1, List.length_map]
      rw [hyl, List.take_length] at hW
      refine ⟨_, rfl, l, rfl, ⟨_, SqL.of hW.lst⟩, ?_⟩
      show tLcJ (Itl K l) (gName 6) tYes (tCB (rTupD K) (tCons (tVar 6) tNil)) [6] _ _ _
      refine lc_tuples (K := K) hW (web_ld _) (by rw [hW.len, List.length_map, fold_len]; omega) (by show 6 < 7; decide) fun q zs H3 s3 hq hq3 ht => ?_
      refine ⟨q, zs, _, rfl, SqL.of hq3, ht, fun v' H4 s4 hv4 => k v' H4 ((s2.trans s3).trans s4) ?_⟩
      rw [dWeb_eq]
      exact hv4
abbrev nRoots : List Str := ["state", "ways", "way", "here"]
theorem scRoots : FnScope nRoots ["state", "ways"] (defScope sRoots) := ⟨rfl, rfl, rfl, by decide +kernel, rfl, by decide +kernel, by decide +kernel⟩
theorem ok_roots {f : Addr} {fd : FuncData} (F : Fun K "roots_by" "roots_by" sRoots f fd) (T : Bt mg) : FnOk P w K mg base CX0 1 f fd ["state", "ways"] (spRoots K) := by
  refine F.ok scRoots (fun vs H Q E h => ?_) (fun cdv A outer s H vs Q E hr h => ?_)
  · obtain ⟨v, p, W, M, C, hs, ys, ws, roots, rfl, _⟩ := h
    rfl
  · obtain ⟨v, p, W, M, C, hs, ys, ws, roots, rfl, hv, hp, hys, hlh, hlr, h6, hok, k⟩ := h
    refine ⟨_, (pss_one (ps_ret (pe_callTy (call_tupD K) (by rfl) T.tuple (by decide +kernel) (pa_cons (pe_lc (own := [("way", 2), ("here", 3)]) (g := (gTup K 2 (gCons (gName 2) (gCons (gName 3) gNil)))) (tt := tYes) rfl scRoots.nd (pi_zipM (by rfl) T.zip (pa_cons (pv 1) (pa_cons (pe_ix (ix_D K) (pv 0) pe_int (fun _ _ => rfl)) pa_nil))) (blkOk_by (N := nRoots) (sc := defScope sRoots) (by decide +kernel)) (fun _ _ _ _ _ => (pg_tup rfl (pgs_cons (pg_name (i := 2) scRoots.nd rfl (Or.inl rfl)) (pgs_cons (pg_name (i := 3) scRoots.nd rfl (Or.inl rfl)) pgs_nil)))) (fun _ _ _ _ _ => pts_nil) (fun _ _ _ _ _ => (pe_ifExp (pt_cmpR (op_eqT K hr.units) (pv 2) (pe_tup pa_nil) (nomark _)) (pv 3) (pe_ix (ix_D K) (pv 2) pe_int (fun _ _ => rfl))))) pa_nil)))), ?_⟩
    refine ⟨_, rfl, _, rfl, _, 3, _, hv, rfl, rfl, fun v3 h3 => ?_⟩
    obtain ⟨a, xs, rfl, hS, hA⟩ := h3.inv
    have hxl : xs.length = hs.length := by rw [hA.1, List.length_map]
    have hyl : ys.length = ws.length := by rw [hys.1, List.length_map]
    refine ⟨p, a, ys, xs, rfl, SqL.of hp, hS, fun D hD => ?_⟩
    refine lc_it (walk_zipM (by omega)) (fun i H1 => Same H H1 ∧ H1 D = some (.lst ((roots.take i).map vNat))) ⟨same_new hD, upd_same⟩ (fun i H1 _ p1 => ⟨SqL.of (p1.1 _ _ hp), Evl.ex_t p1.1 hS⟩) ?_ ?_
    · rintro i x H1 H2 hi ⟨s1, hD1⟩ ⟨T1, xv, yv, rfl, hT, rfl, hxv, hyv⟩
      obtain ⟨d, hd, hxd⟩ := hys.turn hxv
      obtain ⟨way, hway, rfl⟩ := map_get hd
      obtain ⟨d, hd, hyd⟩ := hA.turn hyv
      obtain ⟨sp, hsp, rfl⟩ := map_get hd
      obtain ⟨r, hr'⟩ : ∃ r, roots[i]? = some r := ⟨roots[i]'(by omega), List.getElem?_eq_getElem _⟩
      obtain ⟨o1, o2⟩ := hok i way sp r hway hsp hr'
      have s2 := s1.trans (same_new (o := .tup [xv, yv]) hT)
      have hD2 := same_new (o := .tup [xv, yv]) hT _ _ hD1
      have er : (roots.take i).map vNat ++ [vNat r] = (roots.take (i + 1)).map vNat := by rw [List.take_add_one, hr']; simp
      have fin : ∀ H3, Same (upd H1 T1 (.tup [xv, yv])) H3 → ∃ acc, H3 D = some (.lst acc) ∧ acc.length < sizeLine ∧ (Same H (upd H3 D (.lst (acc ++ [vNat r]))) ∧ (upd H3 D (.lst (acc ++ [vNat r]))) D = some (.lst ((roots.take (i + 1)).map vNat))) := fun H3 s3 => by
        refine ⟨_, s3 _ _ hD2, by rw [List.length_map, List.length_take]; exact small1000 (by omega), Evl.Ex.mut (s2.trans s3) hD, ?_⟩
        rw [upd_same, er]
      refine g2_ok (SqT.of upd_same) ⟨rfl, _, rfl, Nat.zero_le _, fun q hq => ?_⟩
      have hx3 : Tp K (upd (upd H1 T1 (.tup [xv, yv])) q (.tup [])) xv (dNats way) := (hxd.mono (keep_same s2)).mono (keep_new hq)
      refine ⟨_, .tuple [], hx3, .tup (.inl (.inl upd_same)) rfl (fun _ _ _ z _ => by simp at z), (sh_natsT way).ok, (sh_natsT []).ok, _, rfl, ?_⟩
      unfold dNats
      rw [eqv_nilT]
      cases way with
      | nil =>
        refine iteT ⟨_, rfl, ?_⟩
        have e := o1 rfl
        subst e
        have ey := nat_val (n := r) hyd
        subst ey
        exact fin _ (same_new hq)
      | cons x0 rest =>
        refine iteF ⟨_, rfl, _, 0, _, hx3, rfl, rfl, fun v0 hv0 => ?_⟩
        have e0 := o2 (by simp)
        simp at e0
        subst e0
        have ev := nat_val hv0
        subst ev
        exact fin _ (same_new hq)
    · rintro H1 ⟨s1, hD1⟩
      rw [hyl, hlr, List.take_length] at hD1
      refine ⟨D, _, _, rfl, SqL.of hD1, tpAll_nats roots, fun v' H2 s2 hv2 => k v' H2 (s1.trans s2) hv2⟩
end
end Tb
end
section
set_option Elab.async false
set_option linter.all false
set_option maxRecDepth 100000
set_option maxHeartbeats 2000000
/-! Moment: seen_of, need_counts, need_closed, tie_of. -/
namespace Tb
open PySem PySem.Spec PyProof.Rows L2
abbrev sMInit : Stmt := inClass (top 34) 0
abbrev sSeen : Stmt := inClass (top 34) 1
abbrev sNeedC : Stmt := inClass (top 34) 2
abbrev sClosed : Stmt := inClass (top 34) 3
abbrev sDeedsBy : Stmt := inClass (top 34) 4
abbrev sDeed : Stmt := inClass (top 34) 5
abbrev sTieOf : Stmt := inClass (top 34) 6
abbrev sTurns : Stmt := inClass (top 34) 7
abbrev sNext : Stmt := inClass (top 34) 8
def mNames : List Str := ["seen_of", "need_counts", "need_closed", "deeds_by", "deed", "tie_of", "turns", "next_one"]
/-- the class as the module has made it -/
structure MoC (K : PySem.W.Frag) (mg : Str → Option Value) (C : Addr) : Prop where
  cl : Cls K C
  nM : NoAttr K C "own_marks"
  nW : NoAttr K C "ways"
  nR : NoAttr K C "own_roots"
  nB : NoAttr K C "own_web"
  nS : NoAttr K C "stays"
  nN : NoAttr K C "seen"
  nD : NoAttr K C "deeds"
  mgC : mg "Moment" = some (.ref C)
/-- a Moment at p, as far as its __init__ has brought it -/
structure MoP (K : PySem.W.Frag) (H : Hp) (C p dx : Addr) (fs : List (Str × V)) (m : V) (w : Addr) (r b : V) (s : Addr) (M : List Nat) (W : Web) (roots : List Nat) (ws : List (List Nat)) : Prop where
  ob : H p = some (.ins C dx fs)
  fM : fs.lookup ("own_marks" : Str) = some m
  fW : fs.lookup ("ways" : Str) = some (.ref w)
  fR : fs.lookup ("own_roots" : Str) = some r
  fB : fs.lookup ("own_web" : Str) = some b
  fS : fs.lookup ("stays" : Str) = some (.ref s)
  no : ∀ x, x ∈ mNames → fs.lookup x = none
  m_ : Tp K H m (dNats M)
  w_ : ∃ ys, H w = some (.lst ys) ∧ TpAll K H ys (ws.map dNats)
  r_ : Tp K H r (dNats roots)
  b_ : Tp K H b (dWeb W)
  s_ : ∃ kvs : List (Key × V), H s = some (.dK kvs) ∧ ∀ x : Nat, valV kvs (.inl (x : Int)) = if x ∈ ws.flatten then some (.bl true) else none
theorem MoP.same {K : PySem.W.Frag} {H H' : Hp} {C p dx : Addr} {fs : List (Str × V)} {m : V} {w : Addr} {r b : V} {s : Addr} {M : List Nat} {W : Web} {roots : List Nat} {ws : List (List Nat)} (h : MoP K H C p dx fs m w r b s M W roots ws) (e : Same H H') :
    MoP K H' C p dx fs m w r b s M W roots ws := by
  obtain ⟨h1, h2, h3, h4, h5, h6, h7, h8, ⟨ys, h9, h9'⟩, h10, h11, ⟨kvs, h12, h13⟩⟩ := h
  exact ⟨e _ _ h1, h2, h3, h4, h5, h6, h7, h8.mono (keep_same e), ⟨ys, e _ _ h9, h9'.mono (keep_same e)⟩, h10.mono (keep_same e), h11.mono (keep_same e), ⟨kvs, e _ _ h12, h13⟩⟩
def lastsOf (ws : List (List Nat)) : List Nat := ws.filterMap (·.getLast?)
def seenV (W : Web) (M C : List Nat) (ws : List (List Nat)) (x : Nat) : Nat :=
  if x ∈ ws.flatten then C.getD x 0 + (if x ∈ lastsOf ws then 0 else 1) else (rowAt W x).length * (if 0 < M.getD x 0 then 1 else 0)
def dDeed : Deed → PyData
  | .skip x c => .tuple [.str "skip", dNat x, dNat c]
  | .down x c => .tuple [.str "down", dNat x, dNat c]
  | .up x => .tuple [.str "up", dNat x]
  | .stop x => .tuple [.str "stop", dNat x]
def tieD (W : Web) : Deed → Option Nat
  | .skip x c => tieAt W x c
  | .down x c => tieAt W x c
  | _ => none
def DeedIn (W : Web) : Deed → Prop
  | .skip x c => x < W.length ∧ c < (rowAt W x).length
  | .down x c => x < W.length ∧ c < (rowAt W x).length ∧ ∃ t, tieAt W x c = some t
  | _ => True
def spSeen (K : PySem.W.Frag) (Cl : Addr) : Sp := fun vs H Q _ => ∃ p dx fs m w r b s M W roots ws c, ∃ C : List Nat, ∃ x : Nat, vs = [.ref p, c, vNat x] ∧ MoP K H Cl p dx fs m w r b s M W roots ws ∧ Tp K H c (dNats C) ∧ x < C.length ∧ x < W.length ∧ x < M.length ∧ ws.length ≤ 6 ∧ (rowAt W x).length ≤ 8 ∧
  ∀ H', Same H H' → Q (vNat (seenV W M C ws x)) H'
def spNeedC (K : PySem.W.Frag) (Cl : Addr) : Sp := fun vs H Q _ => ∃ p dx fs m w r b s M W roots ws c, ∃ C : List Nat, vs = [.ref p, c] ∧ MoP K H Cl p dx fs m w r b s M W roots ws ∧ Tp K H c (dNats C) ∧ (∀ x, x < C.length → C.getD x 0 ≠ 0 → x ∈ ws.flatten) ∧
  ∀ H', Same H H' → Q .non H'
def spClosed (K : PySem.W.Frag) (Cl : Addr) : Sp := fun vs H Q _ => ∃ p dx fs m w r b s M W roots ws, ∃ ls : Addr, ∃ S : List Nat, vs = [.ref p] ∧ MoP K H Cl p dx fs m w r b s M W roots ws ∧ fs.lookup ("seen" : Str) = some (.ref ls) ∧ H ls = some (.lst (S.map vNat)) ∧ S.length = W.length ∧
  (∀ x c t, x < W.length → c < S.getD x 0 → tieAt W x c = some t → t < M.length ∧ M.getD t 0 ≠ 0) ∧ ∀ H', Same H H' → Q .non H'
def spTieOf (K : PySem.W.Frag) (Cl : Addr) : Sp := fun vs H Q _ => ∃ p dx fs m w r b s M W roots ws v, ∃ d : Deed, vs = [.ref p, v] ∧ MoP K H Cl p dx fs m w r b s M W roots ws ∧ Tp K H v (dDeed d) ∧ DeedIn W d ∧ Q (vTie (tieD W d)) H
section
variable {P : Program} {w : World} {K : PySem.W.Frag} {mg : Str → Option Value} {base : Heap}
abbrev nSeen : List Str := ["self", "counts", "node", "way"]
theorem scSeen : FnScope nSeen ["self", "counts", "node"] (defScope sSeen) := ⟨rfl, rfl, rfl, by decide +kernel, rfl, by decide +kernel, by decide +kernel⟩
theorem ok_seen {f Cl : Addr} {fd : FuncData} (F : Fun K "seen_of" "Moment.seen_of" sSeen f fd) (T : Bt mg) (TC : MoC K mg Cl) : FnOk P w K mg base CX0 1 f fd ["self", "counts", "node"] (spSeen K Cl) := by
  refine F.ok scSeen (fun vs H Q E h => ?_) (fun cdv A outer s H vs Q E hr h => ?_)
  · obtain ⟨p, dx, fs, m, w, r, b, s, M, W, roots, ws, c, C, x, rfl, _⟩ := h
    rfl
  · obtain ⟨p, dx, fs, m, w', r, b, st, M, W, roots, ws, c, C, x, rfl, hm, hc, hxC, hxW, hxM, h6, h8, k⟩ := h
    refine ⟨_, (pss_cons (ps_if (pt_cmp (pc_din (hu_of hr) (pv 2) (pe_fld (pv 0) rfl))) (pss_one (ps_ret (pe_op op_add (pe_ix (ix_D K) (pv 1) (pv 2) (fun _ _ => rfl)) (pe_callTy call_int1 (by rfl) T.int (by decide +kernel) (pa_cons (pe_cmpR op_notIn_seq (pv 2) (pe_lc (own := [("way", 3)]) (g := (gName 3)) rfl scSeen.nd (pi_list (pe_fld (pv 0) rfl)) (blkOk_by (N := nSeen) (sc := defScope sSeen) (by decide +kernel)) (fun _ _ _ _ _ => (pg_name (i := 3) scSeen.nd rfl (Or.inl rfl))) (fun _ _ _ _ _ => (pts_one (pt_cmpR (op_neT K hr.units) (pv 3) (pe_tup pa_nil) (nomark _)))) (fun _ _ _ _ _ => (pe_ix (ix_Dl K) (pv 3) (pe_un un_neg pe_int) (fun _ _ => rfl)))) (by rfl)) pa_nil))))) pss_nil)
      (pss_one (ps_ret (pe_op op_mul (pe_callB (call_lenT K) (by rfl) T.len PySem.boot_len (pa_cons (pe_ix (ix_D K) (pe_fld (pv 0) rfl) (pv 2) (fun _ _ => rfl)) pa_nil)) (pe_callTy call_int1 (by rfl) T.int (by decide +kernel) (pa_cons (pe_cmpR op_gt (pe_ix (ix_D K) (pe_fld (pv 0) rfl) (pv 2) (fun _ _ => rfl)) pe_int (nomark _)) pa_nil)))))), ?_⟩
    obtain ⟨kvs, hd, hval⟩ := hm.s_
    refine ⟨_, rfl, _, rfl, p, Cl, dx, _, _, rfl, hm.ob, TC.cl, TC.nS, hm.fS, st, _, rfl, DGet.k (k := Sum.inl (x : Int)) hd, _, rfl, ?_⟩
    rw [hval x]
    by_cases hin : x ∈ ws.flatten
    · rw [if_pos hin]
      refine iteT ?_
      have hCx : C[x]? = some (C.getD x 0) := by rw [List.getD_eq_getElem?_getD, List.getElem?_eq_getElem hxC]; rfl
      refine ⟨_, rfl, _, rfl, _, x, _, hc, rfl, get_map hCx, fun c1 hc1 => ?_⟩
      have ec := nat_val hc1
      subst ec
      refine ⟨_, rfl, _, rfl, p, Cl, dx, _, _, rfl, hm.ob, TC.cl, TC.nW, hm.fW, ?_⟩
      obtain ⟨ys, hw, hys⟩ := hm.w_
      have hyl : ys.length = ws.length := by rw [hys.1, List.length_map]
      refine ⟨w', rfl, ⟨ys, SqL.of hw⟩, fun D hD => ?_⟩
      refine lc_it (walk_list (K := K) (a := w') (xs := ys)) (fun i H1 => Same H H1 ∧ H1 D = some (.lst ((lastsOf (ws.take i)).map vNat))) ⟨same_new hD, upd_same⟩ (fun i H1 _ q => SqL.of (q.1 _ _ hw)) ?_ ?_
      · rintro i y H1 H2 hi ⟨s1, hD1⟩ ⟨rfl, hyi⟩
        obtain ⟨d, hd', hyd⟩ := hys.turn hyi
        obtain ⟨way, hway, rfl⟩ := map_get hd'
        have hy2 := hyd.mono (keep_same s1)
        have etk : ws.take (i + 1) = ws.take i ++ [way] := by rw [List.take_add_one, hway]; rfl
        have ll : (lastsOf (ws.take i)).length ≤ i := by
          unfold lastsOf
          refine Nat.le_trans (List.length_filterMap_le _ _) ?_
          rw [List.length_take]
          omega
        refine ⟨rfl, _, rfl, Nat.zero_le _, fun q hq => ?_⟩
        refine ⟨_, .tuple [], hy2.mono (keep_new hq), .tup (.inl (.inl upd_same)) rfl (fun _ _ _ z _ => by simp at z), (sh_natsT way).ok, (sh_natsT []).ok, _, rfl, ?_⟩
        unfold dNats
        rw [eqv_nilT]
        cases hw2 : way.getLast? with
        | none =>
          have e0 : way = [] := List.getLast?_eq_none_iff.mp hw2
          subst e0
          refine iteF ⟨s1.trans (same_new hq), ?_⟩
          rw [etk]
          have : lastsOf (ws.take i ++ [[]]) = lastsOf (ws.take i) := by unfold lastsOf; simp
          rw [this]
          exact same_new hq _ _ hD1
        | some z =>
          have hne : way ≠ [] := fun e => by rw [e] at hw2; cases hw2
          have e0 : (way.map dNat).isEmpty = false := by cases way with | nil => exact absurd rfl hne | cons _ _ => rfl
          rw [e0]
          refine iteT ⟨_, rfl, _, rfl, _, dNat z, hy2.mono (keep_new hq), rfl, by rw [List.getLast?_map, hw2]; rfl, fun v hv => ?_⟩
          have ev := nat_val hv
          subst ev
          refine ⟨_, same_new hq _ _ hD1, by rw [List.length_map]; exact small1000 (by omega), Evl.Ex.mut (s1.trans (same_new hq)) hD, ?_⟩
          rw [upd_same, etk]
          have : lastsOf (ws.take i ++ [way]) = lastsOf (ws.take i) ++ [z] := by unfold lastsOf; rw [List.filterMap_append]; simp [hw2]
          rw [this, List.map_append]
          rfl
      · rintro H1 ⟨s1, hD1⟩
        rw [hyl, List.take_length] at hD1
        refine ⟨D, _, rfl, .inl (SqL.of hD1), rfl, flat_nats _, .inr ⟨_, rfl, _, _, rfl, rfl, ?_⟩⟩
        rw [inV_nats]
        have hs : seenV W M C ws x = C.getD x 0 + (if x ∈ lastsOf ws then 0 else 1) := by unfold seenV; rw [if_pos hin]
        have k' := k H1 s1
        rw [hs] at k'
        by_cases hl : x ∈ lastsOf ws
        · rw [if_pos hl] at k'
          rw [decide_eq_true hl]
          exact k'
        · rw [if_neg hl] at k'
          rw [decide_eq_false hl]
          exact k'
    · rw [if_neg hin]
      refine iteF ?_
      refine ⟨_, rfl, p, Cl, dx, _, _, rfl, hm.ob, TC.cl, TC.nB, hm.fB, _, rfl, _, x, _, hm.b_, rfl, web_get hxW, fun r1 hr1 => ?_⟩
      have hMx : M[x]? = some (M.getD x 0) := by rw [List.getD_eq_getElem?_getD, List.getElem?_eq_getElem hxM]; rfl
      refine ⟨_, _, rfl, hr1, _, rfl, p, Cl, dx, _, _, rfl, hm.ob, TC.cl, TC.nM, hm.fM, _, rfl, _, x, _, hm.m_, rfl, get_map hMx, fun m1 hm1 => ?_⟩
      have em := nat_val hm1
      subst em
      refine ⟨_, _, rfl, rfl, .inr ⟨_, rfl, _, _, rfl, rfl, .inl ⟨by rw [List.length_map]; omega, by rw [List.length_map]; omega⟩, ?_⟩⟩
      have hs : seenV W M C ws x = (rowAt W x).length * (if 0 < M.getD x 0 then 1 else 0) := by unfold seenV; rw [if_neg hin]
      have k' := k H (Same.refl H)
      rw [hs] at k'
      show Q (V.int ((((rowAt W x).map dTie).length : Nat) * (if (decide ((0 : Int) < (M.getD x 0 : Nat))) = true then 1 else 0))) H
      rw [List.length_map]
      by_cases h0 : 0 < M.getD x 0
      · rw [if_pos h0] at k'
        rw [if_pos (decide_eq_true (by omega))]
        have e : ((rowAt W x).length : Int) * 1 = (((rowAt W x).length * 1 : Nat) : Int) := by simp
        rw [e]
        exact k'
      · rw [if_neg h0] at k'
        rw [if_neg (by rw [decide_eq_false (by omega)]; decide)]
        have e : ((rowAt W x).length : Int) * 0 = (((rowAt W x).length * 0 : Nat) : Int) := by simp
        rw [e]
        exact k'
abbrev nNeedC : List Str := ["self", "counts", "node", "count"]
theorem scNeedC : FnScope nNeedC ["self", "counts"] (defScope sNeedC) := ⟨rfl, rfl, rfl, by decide +kernel, rfl, by decide +kernel, by decide +kernel⟩
theorem ok_needc {f Cl : Addr} {fd : FuncData} (F : Fun K "need_counts" "Moment.need_counts" sNeedC f fd) (T : Bt mg) (TC : MoC K mg Cl) : FnOk P w K mg base CX0 1 f fd ["self", "counts"] (spNeedC K Cl) := by
  refine F.ok scNeedC (fun vs H Q E h => ?_) (fun cdv A outer s H vs Q E hr h => ?_)
  · obtain ⟨p, dx, fs, m, w, r, b, s, M, W, roots, ws, c, C, rfl, _⟩ := h
    rfl
  · obtain ⟨p, dx, fs, m, w', r, b, st, M, W, roots, ws, c, C, rfl, hm, hc, hok, k⟩ := h
    refine ⟨_, (pss_one (ps_for PassesOwn.never rfl (pi_enumT (by rfl) T.enumerate (pa_cons (pv 1) pa_nil)) (pg_tup rfl (pgs_cons (pg_name (i := 2) scNeedC.nd rfl (Or.inl rfl)) (pgs_cons (pg_name (i := 3) scNeedC.nd rfl (Or.inl rfl)) pgs_nil))) (pss_one (ps_if (PW.pt (pw_and (pt_cmpR op_ne (pv 3) pe_int (nomark _)) (pw_and1 (pt_cmp (pc_dnotin (hu_of hr) (pv 2) (pe_fld (pv 0) rfl)))))) (pss_one ps_never) pss_nil)))), ?_⟩
    obtain ⟨a, xs, rfl, hS, hA⟩ := hc.inv
    refine ⟨_, rfl, a, xs, rfl, hS, ?_⟩
    refine for_it (walk_enumT (K := K) (a := a) (xs := xs)) (fun i σ H1 => ∃ y2 y3, σ = [some (.ref p), some (.ref a), y2, y3] ∧ Same H H1) ⟨_, _, rfl, Same.refl H⟩ (fun i σ H1 _ q => by obtain ⟨_, _, _, s1⟩ := q; exact Evl.ex_t s1 hS) ?_ ?_
    · rintro i y σ H1 H2 hi ⟨y2, y3, rfl, s1⟩ ⟨T1, xv, yv, rfl, hT, rfl, hxv, hyv⟩
      cases hxv
      obtain ⟨d, hd, hyd⟩ := hA.turn hyv
      obtain ⟨cv, hcv, rfl⟩ := map_get hd
      have ey := nat_val hyd
      subst ey
      have s2 := s1.trans (same_new (o := .tup [.int (i : Nat), vNat cv]) hT)
      refine g2_ok (SqT.of upd_same) ?_
      have hm2 := hm.same s2
      obtain ⟨kvs, hdk, hval⟩ := hm2.s_
      refine ⟨_, rfl, rfl, _, rfl, ?_⟩
      by_cases h0 : cv = 0
      · subst h0
        rw [show (!decide (vNat 0 = V.int 0)) = false from by simp [vNat]]
        exact iteF (iteF ⟨_, _, rfl, s2⟩)
      · rw [show (!decide (vNat cv = V.int 0)) = true from by simp [vNat]; omega]
        refine iteT ⟨_, rfl, _, rfl, p, Cl, dx, _, _, rfl, hm2.ob, TC.cl, TC.nS, hm2.fS, st, _, rfl, DGet.k (k := Sum.inl (i : Int)) hdk, _, rfl, ?_⟩
        rw [hval i]
        have hil : i < C.length := (List.getElem?_eq_some_iff.mp hcv).1
        have hin : i ∈ ws.flatten := hok i hil (by rw [List.getD_eq_getElem?_getD, hcv]; exact h0)
        rw [if_pos hin]
        exact iteF ⟨_, _, rfl, s2⟩
    · rintro σ H1 ⟨y2, y3, rfl, s1⟩
      exact k _ s1
abbrev nClosed : List Str := ["self", "node", "row", "tie"]
theorem scClosed : FnScope nClosed ["self"] (defScope sClosed) := ⟨rfl, rfl, rfl, by decide +kernel, rfl, by decide +kernel, by decide +kernel⟩
theorem cutD_take (ds : List PyData) (n : Nat) : cutD ds none (some (n : Int)) = ds.take n := by
  unfold cutD
  rw [HT.sIx_none, HT.sIx_nat, List.drop_zero, Nat.sub_zero]
  rcases Nat.le_total n ds.length with h | h
  · rw [Nat.min_eq_left h]
  · rw [Nat.min_eq_right h, List.take_length, List.take_of_length_le h]
theorem ok_closed {f Cl : Addr} {fd : FuncData} (F : Fun K "need_closed" "Moment.need_closed" sClosed f fd) (T : Bt mg) (TC : MoC K mg Cl) : FnOk P w K mg base CX0 1 f fd ["self"] (spClosed K Cl) := by
  refine F.ok scClosed (fun vs H Q E h => ?_) (fun cdv A outer s H vs Q E hr h => ?_)
  · obtain ⟨p, dx, fs, m, w, r, b, s, M, W, roots, ws, ls, S, rfl, _⟩ := h
    rfl
  · obtain ⟨p, dx, fs, m, w', r, b, st, M, W, roots, ws, ls, S, rfl, hm, hfs, hls, hSl, hok, k⟩ := h
    refine ⟨_, (pss_one (ps_for PassesOwn.never rfl (pi_enumT (by rfl) T.enumerate (pa_cons (pe_fld (pv 0) rfl) pa_nil)) (pg_tup rfl (pgs_cons (pg_name (i := 1) scClosed.nd rfl (Or.inl rfl)) (pgs_cons (pg_name (i := 2) scClosed.nd rfl (Or.inl rfl)) pgs_nil))) (pss_one (ps_for PassesOwn.never rfl (pi_tup (pe_slice (sl_D K) (pv 2) po_none (po_some (pe_ix ix_list (pe_fld (pv 0) rfl) (pv 1) (fun _ _ => rfl))))) (pg_name (i := 3) scClosed.nd rfl (Or.inl rfl)) (pss_one (ps_if (PW.pt (pw_and (pt_cmpR op_notN (pv 3) pe_non (nomark _)) (pw_and1 (pt_cmpR op_eq (pe_ix (ix_D K) (pe_fld (pv 0) rfl) (pv 3) (fun _ _ => rfl)) pe_int (nomark _))))) (pss_one ps_never) pss_nil)))))), ?_⟩
    obtain ⟨a, xs, eb, hS, hA⟩ := hm.b_.inv
    subst eb
    refine ⟨_, rfl, p, Cl, dx, _, _, rfl, hm.ob, TC.cl, TC.nB, hm.fB, a, xs, rfl, hS, ?_⟩
    refine for_it (walk_enumT (K := K) (a := a) (xs := xs)) (fun i σ H1 => ∃ y1 y2 y3, σ = [some (.ref p), y1, y2, y3] ∧ Same H H1) ⟨_, _, _, rfl, Same.refl H⟩ (fun i σ H1 _ q => by obtain ⟨_, _, _, _, s1⟩ := q; exact Evl.ex_t s1 hS) ?_ ?_
    · rintro i y σ H1 H2 hi ⟨y1, y2, y3, rfl, s1⟩ ⟨T1, xv, yv, rfl, hT, rfl, hxv, hyv⟩
      cases hxv
      obtain ⟨d, hd, hyd⟩ := hA.turn hyv
      obtain ⟨row, hrow, rfl⟩ := map_get hd
      have s2 := s1.trans (same_new (o := .tup [.int (i : Nat), yv]) hT)
      have hiW : i < W.length := (List.getElem?_eq_some_iff.mp hrow).1
      have erow : rowAt W i = row := by unfold rowAt; rw [List.getD_eq_getElem?_getD, hrow]; rfl
      refine g2_ok (SqT.of upd_same) ?_
      have hm2 := hm.same s2
      have hSi : S[i]? = some (S.getD i 0) := by rw [List.getD_eq_getElem?_getD, List.getElem?_eq_getElem (by omega)]; rfl
      refine ⟨_, rfl, _, rfl, p, Cl, dx, _, _, rfl, hm2.ob, TC.cl, TC.nN, hfs, _, rfl, ls, _, _, _, rfl, rfl, SqL.of (s2 _ _ hls), atI_nat (get_mapV hSi), _, rfl, _, hyd.mono (keep_same s2), fun v H3 s3 hv => ?_⟩
      rw [cutD_take, ← List.map_take] at hv
      obtain ⟨b2, zs, rfl, hS2, hA2⟩ := hv.inv
      refine ⟨b2, rfl, ⟨zs, hS2⟩, ?_⟩
      refine for_it (walk_tup (K := K) (a := b2) (xs := zs)) (fun j σ H4 => ∃ y2 y3, σ = [some (.ref p), some (.int (i : Nat)), y2, y3] ∧ H4 = H3) ⟨_, _, rfl, rfl⟩ (fun j σ H4 _ q => by obtain ⟨_, _, _, e⟩ := q; subst e; exact hS2) ?_ ?_
      · rintro j z σ H4 H5 hj ⟨y2, y3, rfl, rfl⟩ ⟨rfl, hzj⟩
        obtain ⟨d, hd, hzd⟩ := hA2.turn hzj
        obtain ⟨t, ht, rfl⟩ := map_get hd
        have et := tie_val hzd
        subst et
        have hm3 := hm2.same s3
        refine ⟨_, rfl, rfl, _, rfl, ?_⟩
        cases t with
        | none => exact iteF (iteF ⟨_, _, rfl, rfl⟩)
        | some t =>
          rw [List.getElem?_take] at ht
          split at ht
          · rename_i hjc
            have htie : tieAt W i j = some t := by
              unfold tieAt
              rw [erow, List.getD_eq_getElem?_getD, ht]
              rfl
            obtain ⟨o1, o2⟩ := hok i j t hiW hjc htie
            have hMt : M[t]? = some (M.getD t 0) := by rw [List.getD_eq_getElem?_getD, List.getElem?_eq_getElem o1]; rfl
            refine iteT ⟨_, rfl, p, Cl, dx, _, _, rfl, hm3.ob, TC.cl, TC.nM, hm3.fM, _, rfl, _, t, _, hm3.m_, rfl, get_map hMt, fun m1 hm1 => ?_⟩
            have em := nat_val hm1
            subst em
            refine ⟨rfl, _, rfl, ?_⟩
            rw [show decide (vNat (M.getD t 0) = V.int 0) = false from by
              apply decide_eq_false
              intro z
              have : ((M.getD t 0 : Nat) : Int) = 0 := by injection z
              omega]
            exact iteF ⟨_, _, rfl, rfl⟩
          · cases ht
      · rintro σ H4 ⟨y2, y3, rfl, rfl⟩
        exact ⟨_, _, _, rfl, s2.trans s3⟩
    · rintro σ H1 ⟨y1, y2, y3, rfl, s1⟩
      exact k _ s1
theorem scTieOf : FnScope ["self", "deed"] ["self", "deed"] (defScope sTieOf) := ⟨rfl, rfl, rfl, by decide +kernel, rfl, by decide +kernel, by decide +kernel⟩
theorem tie_get {W : Web} {x c : Nat} (h : c < (rowAt W x).length) : ((rowAt W x).map dTie)[c]? = some (dTie (tieAt W x c)) := by
  refine get_map ?_
  unfold tieAt
  rw [List.getD_eq_getElem?_getD, List.getElem?_eq_getElem h]
  rfl
theorem ok_tieof {f Cl : Addr} {fd : FuncData} (F : Fun K "tie_of" "Moment.tie_of" sTieOf f fd) (T : Bt mg) (TC : MoC K mg Cl) : FnOk P w K mg base CX0 1 f fd ["self", "deed"] (spTieOf K Cl) := by
  refine F.ok scTieOf (fun vs H Q E h => ?_) (fun cdv A outer s H vs Q E hr h => ?_)
  · obtain ⟨p, dx, fs, m, w, r, b, s, M, W, roots, ws, v, d, rfl, _⟩ := h
    rfl
  · obtain ⟨p, dx, fs, m, w', r, b, st, M, W, roots, ws, v, d, rfl, hm, hv, hin, k⟩ := h
    refine ⟨_, (pss_one (ps_ret (pe_ifExp (pt_cmpR op_eq (pe_callB (call_lenT K) (by rfl) T.len PySem.boot_len (pa_cons (pv 1) pa_nil)) pe_int (nomark _)) (pe_ix (ix_D K) (pe_ix (ix_D K) (pe_fld (pv 0) rfl) (pe_ix (ix_D K) (pv 1) pe_int (fun _ _ => rfl)) (fun _ _ => rfl)) (pe_ix (ix_D K) (pv 1) pe_int (fun _ _ => rfl)) (fun _ _ => rfl)) pe_non))), ?_⟩
    have go : ∀ (k0 : PyData) (x c : Nat), x < W.length → c < (rowAt W x).length → Tp K H v (.tuple [k0, dNat x, dNat c]) → Q (vTie (tieAt W x c)) H →
        (tRet (tIf (tTest (tOp rEq (tCB (rLenT K) (tCons (tVar 1) tNil)) (tC (.int 3)))) (tOp (rIxD K) (tOp (rIxD K) (tFld K (tVar 0) "own_web") (tOp (rIxD K) (tVar 1) (tC (.int 1)))) (tOp (rIxD K) (tVar 1) (tC (.int 2)))) (tC .non)) { nx := fun _ H' => Q .non H', rt := Q } (L2.start ["self", "deed"] [.ref p, v]) H) := by
      intro k0 x c hx hc hv q
      refine ⟨_, rfl, v, _, rfl, hv, rfl, _, rfl, iteT ?_⟩
      refine ⟨_, rfl, p, Cl, dx, _, _, rfl, hm.ob, TC.cl, TC.nB, hm.fB, _, rfl, _, 1, _, hv, rfl, rfl, fun v1 h1 => ?_⟩
      have e1 := nat_val h1
      subst e1
      refine ⟨_, x, _, hm.b_, rfl, web_get hx, fun r1 hr1 => ?_⟩
      refine ⟨_, rfl, _, 2, _, hv, rfl, rfl, fun v2 h2 => ?_⟩
      have e2 := nat_val h2
      subst e2
      refine ⟨_, c, _, hr1, rfl, tie_get hc, fun t1 ht1 => ?_⟩
      have e3 := tie_val ht1
      subst e3
      exact q
    cases d with
    | skip x c => exact go _ x c hin.1 hin.2 hv k
    | down x c => exact go _ x c hin.1 hin.2.1 hv k
    | up x => exact ⟨_, rfl, v, _, rfl, hv, rfl, _, rfl, iteF k⟩
    | stop x => exact ⟨_, rfl, v, _, rfl, hv, rfl, _, rfl, iteF k⟩
end
end Tb
end
section
set_option Elab.async false
set_option linter.all false
set_option maxRecDepth 100000
set_option maxHeartbeats 4000000
/-! Moment: deed. -/
namespace Tb
open PySem PySem.Spec PyProof.Rows L2
/-! ### lists of lists -/
theorem dpAll_of {K : PySem.W.Frag} {H : Hp} : ∀ {xs : List V} {ds : List PyData}, xs.length = ds.length → (∀ (i : Nat) v d, xs[i]? = some v → ds[i]? = some d → Dp K H v d) → DpAll K H xs ds
  | [], [], _, _ => .nil
  | [], d :: ds, h, _ => by simp at h
  | x :: xs, [], h, _ => by simp at h
  | x :: xs, d :: ds, h, g => .cons (g 0 x d rfl rfl) (dpAll_of (by simpa using h) fun i v e a b => g (i + 1) v e (by simpa using a) (by simpa using b))
theorem dp_ll {K : PySem.W.Frag} {H : Hp} {l : Addr} {as : List Addr} {xss : List (List V)} {dss : List (List PyData)} (h : LL2 H l as xss) (hd : LD K H xss dss) : Dp K H (.ref l) (.list (dss.map .list)) := by
  have h1 := h.len
  have h2 := hd.1
  refine .lst (SqL.of h.lst) (dpAll_of (by simp; omega) fun i v d hv hd' => ?_)
  obtain ⟨a, ha, rfl⟩ := map_get hv
  obtain ⟨ds, hds, rfl⟩ := map_get hd'
  obtain ⟨xs, hxs⟩ : ∃ xs, xss[i]? = some xs := by
    have : i < as.length := (List.getElem?_eq_some_iff.mp ha).1
    exact ⟨xss[i]'(by omega), List.getElem?_eq_getElem _⟩
  exact dp_list (SqL.of (h.at_ i a xs ha hxs)) (hd.2 i xs ds hxs hds)
theorem LL2.pop {H : Hp} {l a : Addr} {as : List Addr} {xss : List (List V)} {xs : List V} (h : LL2 H l (as ++ [a]) (xss ++ [xs])) : LL2 (upd H l (.lst (as.map V.ref))) l as xss := by
  have hl := h.len
  simp at hl
  refine ⟨upd_same, (List.nodup_append.mp h.nd).1, fun hm => h.out (List.mem_append_left _ hm), hl, fun i b ys hb hy => ?_⟩
  have hbl : b ≠ l := fun e => h.out (List.mem_append_left _ (e ▸ List.mem_of_getElem? hb))
  rw [upd_ne hbl]
  refine h.at_ i b ys ?_ ?_
  · rw [List.getElem?_append_left (List.getElem?_eq_some_iff.mp hb).1]; exact hb
  · rw [List.getElem?_append_left (List.getElem?_eq_some_iff.mp hy).1]; exact hy
theorem LL2.push {H : Hp} {l q : Addr} {as : List Addr} {xss : List (List V)} {ys : List V} (h : LL2 H l as xss) (hq : H q = some (.lst ys)) (n1 : q ≠ l) (n2 : q ∉ as) : LL2 (upd H l (.lst (as.map V.ref ++ [V.ref q]))) l (as ++ [q]) (xss ++ [ys]) := by
  refine ⟨by rw [upd_same]; simp, ?_, ?_, by simp [h.len], fun i b zs hb hz => ?_⟩
  · rw [List.nodup_append]
    refine ⟨h.nd, by simp, fun a ha b hb e => ?_⟩
    simp at hb
    subst hb; subst e
    exact n2 ha
  · intro hm
    rcases List.mem_append.mp hm with hm | hm
    · exact h.out hm
    · simp at hm
      exact n1 hm.symm
  · by_cases hi : i < as.length
    · rw [List.getElem?_append_left hi] at hb
      rw [List.getElem?_append_left (by rw [← h.len]; exact hi)] at hz
      have g1 : b ≠ l := fun e => h.out (e ▸ List.mem_of_getElem? hb)
      rw [upd_ne g1]
      exact h.at_ i b zs hb hz
    · rw [List.getElem?_append_right (by omega)] at hb
      rw [List.getElem?_append_right (by rw [← h.len]; omega), ← h.len] at hz
      have h0 : i - as.length = 0 := by
        have := (List.getElem?_eq_some_iff.mp hb).1
        simp at this
        omega
      rw [h0] at hb hz
      simp at hb hz
      subst hb; subst hz
      rw [upd_ne n1]
      exact hq
/-! ### the stand and the nodes it has come to, as the program holds them -/
def row2 (p : Nat × Nat) : List V := [vNat p.1, vNat p.2]
def rd2 (p : Nat × Nat) : List PyData := [dNat p.1, dNat p.2]
def rows2 (S : List (Nat × Nat)) : List (List V) := S.reverse.map row2
def rds2 (S : List (Nat × Nat)) : List (List PyData) := S.reverse.map rd2
theorem ld_rows {K : PySem.W.Frag} {H : Hp} (S : List (Nat × Nat)) : LD K H (rows2 S) (rds2 S) := by
  refine ⟨by simp [rows2, rds2], fun i xs ds a b => ?_⟩
  obtain ⟨p, hp, rfl⟩ := map_get a
  obtain ⟨q, hq, rfl⟩ := map_get b
  rw [hp] at hq
  cases hq
  exact .cons (tp_nat _) (.one (tp_nat _))
theorem sh_rows (S : List (Nat × Nat)) : Sh 2 (.list ((rds2 S).map .list)) := sh_list fun d hd => by
  obtain ⟨e, he, rfl⟩ := List.mem_map.mp hd
  obtain ⟨p, _, rfl⟩ := List.mem_map.mp he
  refine sh_list fun d hd => ?_
  simp [rd2] at hd
  rcases hd with rfl | rfl
  · exact sh_nat _
  · exact sh_nat _
theorem rows_cons (p : Nat × Nat) (R : List (Nat × Nat)) : rows2 (p :: R) = rows2 R ++ [row2 p] := by simp [rows2]
/-- nodes as keys -/
def gk (G : List Nat) : List (Key × V) := G.map fun (x : Nat) => (Sum.inl (x : Int), V.bl true)
theorem valV_gk (G : List Nat) (x : Nat) : valV (gk G) (.inl (x : Int)) = if x ∈ G then some (.bl true) else none := by
  induction G with
  | nil => simp [gk, valV]
  | cons y G ih =>
    unfold gk at ih ⊢
    rw [List.map_cons]
    by_cases h : y = x
    · subst h
      rw [valV_pos rfl]
      simp
    · rw [valV_neg (by intro e; apply h; have : ((y : Nat) : Int) = (x : Int) := by injection e
                       omega), ih]
      have : (x ∈ y :: G) ↔ x ∈ G := by simp; omega
      by_cases hx : x ∈ G
      · rw [if_pos hx, if_pos (this.mpr hx)]
      · rw [if_neg hx, if_neg (fun z => hx (this.mp z))]
theorem putK_gk {G : List Nat} {x : Nat} (h : x ∉ G) : putK (gk G) (.inl (x : Int)) (.bl true) = gk (G ++ [x]) := by
  unfold putK
  rw [if_neg]
  · simp [gk]
  · rw [valV_any, valV_gk, if_neg h]
    decide
def spDeed (K : PySem.W.Frag) (Cl : Addr) : Sp := fun vs H Q _ => ∃ p dx fs m w r b s M W roots ws, ∃ me : Nat, ∃ g st : Addr, ∃ as : List Addr, ∃ wk wk' : Wk, ∃ d : Deed, vs = [.ref p, vNat me, .ref g, .ref st] ∧ MoP K H Cl p dx fs m w r b s M W roots ws ∧
  H g = some (.dK (gk wk.G)) ∧ LL2 H st as (rows2 (conv wk.S)) ∧ step W M me wk = some (d, wk') ∧ (∀ x, x ∈ wk.S → x.1 < W.length ∧ x.2 ≤ (rowAt W x.1).length) ∧ TiesIn W ∧ M.length = W.length ∧ wk.G.length ≤ 60 ∧ wk.S.length ≤ 60 ∧
  ∀ v H' as', (∀ b o, H b = some o → b ≠ g → b ≠ st → b ∉ as → H' b = some o) → Keep K H H' → (∀ a, a ∈ as' → a ∈ as ∨ H a = none) → H' g = some (.dK (gk wk'.G)) → LL2 H' st as' (rows2 (conv wk'.S)) → Tp K H' v (dDeed d) → Q v H'
section
variable {P : Program} {w : World} {K : PySem.W.Frag} {mg : Str → Option Value} {base : Heap}
theorem conv_map (p : Nat × Nat) (R : List (Nat × Nat)) : conv (p :: R) = p :: R.map up1 := rfl
theorem conv_pop (p : Nat × Nat) (R : List (Nat × Nat)) : conv ((p.1, p.2 + 1) :: R) = (p :: R).map up1 := rfl
abbrev nDeed : List Str := ["self", "walker", "gone", "stand", "node", "at", "tie"]
theorem scDeed : FnScope nDeed ["self", "walker", "gone", "stand"] (defScope sDeed) := ⟨rfl, rfl, rfl, by decide +kernel, rfl, by decide +kernel, by decide +kernel⟩
theorem ok_deed {f Cl : Addr} {fd : FuncData} (F : Fun K "deed" "Moment.deed" sDeed f fd) (T : Bt mg) (TC : MoC K mg Cl) : FnOk P w K mg base CX0 1 f fd ["self", "walker", "gone", "stand"] (spDeed K Cl) := by
  refine F.ok scDeed (fun vs H Q E h => ?_) (fun cdv A outer s H vs Q E hr h => ?_)
  · obtain ⟨p, dx, fs, m, w, r, b, s, M, W, roots, ws, me, g, st, as, wk, wk', d, rfl, _⟩ := h
    rfl
  · obtain ⟨p, dx, fs, m, w', r, b, sd, M, W, roots, ws, me, g, st, as, wk, wk', d, rfl, hm, hg, hL, hstep, hS, hT, hMl, h60, hs60, k⟩ := h
    refine ⟨_, (pss_cons (ps_asg (pe_ix ix_list (pv 3) (pe_un un_neg pe_int) (fun _ _ => rfl)) (pg_unl rfl (pgs_cons (pg_name (i := 4) scDeed.nd rfl (Or.inl rfl)) (pgs_cons (pg_name (i := 5) scDeed.nd rfl (Or.inl rfl)) pgs_nil))))
      (pss_cons (ps_if (pt_cmpR op_eq (pv 5) (pe_callB (call_lenT K) (by rfl) T.len PySem.boot_len (pa_cons (pe_ix (ix_D K) (pe_fld (pv 0) rfl) (pv 4) (fun _ _ => rfl)) pa_nil)) (nomark _)) (pss_cons (ps_expr (pe_bm0 PySem.F.plainAttrs_list PySem.F.slot_list_pop PySem.F.type_list_pop mt_pop (pv 3)))
      (pss_one (ps_ret (pe_ifExp (pt_cmpR (op_neD hr.units) (pv 3) (pe_lst pa_nil) (nomark _)) (pe_tup (pa_cons pe_str (pa_cons (pv 4) pa_nil))) (pe_tup (pa_cons pe_str (pa_cons (pv 4) pa_nil))))))) pss_nil)
      (pss_cons (ps_asg (pe_op op_add (pv 5) pe_int) (pg_sub (pe_ix ix_list (pv 3) (pe_un un_neg pe_int) (fun _ _ => rfl)) pe_int set_list))
      (pss_cons (ps_set (i := 6) scDeed.nd rfl (Or.inl rfl) (pe_ix (ix_D K) (pe_ix (ix_D K) (pe_fld (pv 0) rfl) (pv 4) (fun _ _ => rfl)) (pv 5) (fun _ _ => rfl)))
      (pss_cons (ps_if (PW.pt (pw_or (pt_cmpR op_isN (pv 6) pe_non (nomark _)) (pw_or (pt_cmpR op_ne (pe_ix (ix_D K) (pe_fld (pv 0) rfl) (pv 6) (fun _ _ => rfl)) (pv 1) (nomark _)) (pw_or1 (pt_cmp (pc_din (hu_of hr) (pv 6) (pv 2))))))) (pss_one (ps_ret (pe_tup (pa_cons pe_str (pa_cons (pv 4) (pa_cons (pv 5) pa_nil)))))) pss_nil)
      (pss_cons (ps_dput (hu_of hr) (pv 2) (pv 6) pe_bl rfl)
      (pss_cons (ps_expr (pe_bm PySem.F.plainAttrs_list PySem.F.slot_list_append PySem.F.type_list_append mt_append (pv 3) (pa_cons (pe_lst (pa_cons (pv 6) (pa_cons pe_int pa_nil))) pa_nil)))
      (pss_one (ps_ret (pe_tup (pa_cons pe_str (pa_cons (pv 4) (pa_cons (pv 5) pa_nil))))))))))))), ?_⟩
    obtain ⟨S, G⟩ := wk
    cases S with
    | nil => simp [step] at hstep
    | cons top R =>
      obtain ⟨x, c⟩ := top
      obtain ⟨hxW, hcl⟩ := hS (x, c) (by simp)
      simp only at hxW hcl hg hL h60 hs60
      rw [conv_map, rows_cons] at hL
      -- as = as0 ++ [a]
      obtain ⟨as0, a, rfl⟩ : ∃ as0 a, as = as0 ++ [a] := by
        have := hL.len
        simp at this
        exact ⟨as.dropLast, as.getLast (by intro e; rw [e] at this; simp at this), (List.dropLast_concat_getLast _).symm⟩
      have hl0 : as0.length = (rows2 (R.map up1)).length := by
        have := hL.len
        simpa using this
      have ha : H a = some (.lst (row2 (x, c))) := hL.at_ as0.length a _ (by simp) (by rw [hl0]; simp)
      have hgst : g ≠ st := ne_of hg hL.lst (by intro z; cases z)
      have hga : g ≠ a := ne_of hg ha (by intro z; cases z)
      have hsta : st ≠ a := fun e => hL.out (e ▸ by simp)
      have hpst : p ≠ st := ne_of hm.ob hL.lst (by intro z; cases z)
      have hpa : p ≠ a := ne_of hm.ob ha (by intro z; cases z)
      have hpg : p ≠ g := ne_of hm.ob hg (by intro z; cases z)
      -- node, at = stand[-1]
      have hlast : ((as0 ++ [a]).map V.ref).getLast? = some (V.ref a) := by simp
      refine ⟨_, rfl, _, rfl, st, _, _, _, rfl, rfl, SqL.of hL.lst, atI_end hlast, a, _, rfl, SqL.of ha, rfl, _, _, rfl, _, _, rfl, rfl, ?_⟩
      -- if at == len(self.own_web[node])
      refine ⟨_, rfl, _, rfl, p, Cl, dx, _, _, rfl, hm.ob, TC.cl, TC.nB, hm.fB, _, rfl, _, x, _, hm.b_, rfl, web_get hxW, fun r1 hr1 => ?_⟩
      refine ⟨_, _, rfl, hr1, rfl, _, rfl, ?_⟩
      have elen : (((rowAt W x).map dTie).length : Nat) = (rowAt W x).length := by rw [List.length_map]
      rw [elen]
      by_cases hc : c = (rowAt W x).length
      · rw [show decide (vNat (x, c).2 = V.int ((rowAt W x).length : Nat)) = true from decide_eq_true (by show V.int (c : Int) = _; rw [hc])]
        -- stand.pop()
        refine iteT ⟨_, rfl, .inl ⟨rfl, _, SqL.of hL.lst⟩, st, _, V.ref a, rfl, rfl, hL.lst, by rw [← List.getLast?_eq_getElem?]; exact hlast, ?_⟩
        have edl : ((as0 ++ [a]).map V.ref).dropLast = as0.map V.ref := by simp
        rw [edl]
        have hL2 := LL2.pop hL
        have kp : Keep K H (upd H st (.lst (as0.map V.ref))) := keep_upd hL.lst rfl
        refine ⟨_, rfl, Nat.zero_le _, fun q hq => ?_⟩
        have hL3 := LL2.same hL2 (same_new (o := .lst []) hq)
        refine ⟨_, .list [], dp_ll hL3 (ld_rows _), .lst (SqL.of upd_same) .nil, (sh_rows _).ok, (sh_nats []).ok, _, rfl, ?_⟩
        rw [eqv_nil]
        have hfr : ∀ b o, H b = some o → b ≠ g → b ≠ st → b ∉ as0 ++ [a] → ∀ t o', (upd (upd H st (.lst (as0.map V.ref))) q (.lst [])) t = none → (upd (upd (upd H st (.lst (as0.map V.ref))) q (.lst [])) t o') b = some o := by
          intro b o e n1 n2 n3 t o' ht
          have e1 : (upd H st (.lst (as0.map V.ref))) b = some o := by rw [upd_ne n2]; exact e
          have e2 := same_new (o := .lst []) hq _ _ e1
          exact same_new ht _ _ e2
        have hGg : ∀ t o', (upd (upd H st (.lst (as0.map V.ref))) q (.lst [])) t = none → (upd (upd (upd H st (.lst (as0.map V.ref))) q (.lst [])) t o') g = some (.dK (gk G)) := by
          intro t o' ht
          refine same_new ht _ _ (same_new hq _ _ ?_)
          rw [upd_ne hgst]
          exact hg
        cases R with
        | nil =>
          simp [step, hc] at hstep
          obtain ⟨rfl, rfl⟩ := hstep
          refine iteF ⟨_, rfl, by show 2 ≤ sizeLine; decide, fun t ht => ?_⟩
          refine k _ _ as0 (fun b o e n1 n2 n3 => hfr b o e n1 n2 n3 t _ ht) (kp.trans ((keep_new hq).trans (keep_new ht))) (fun b hb => .inl (by simp [hb])) (hGg t _ ht) (LL2.same hL3 (same_new ht)) ?_
          exact Tp.of (.inl (.inl upd_same)) (.cons (.str _) (.one (tp_nat x)))
        | cons y R' =>
          obtain ⟨y, d0⟩ := y
          simp [step, hc] at hstep
          obtain ⟨rfl, rfl⟩ := hstep
          have e0 : ((rds2 (((y, d0) :: R').map up1)).map PyData.list).isEmpty = false := by simp [rds2]
          rw [e0]
          refine iteT ⟨_, rfl, by show 2 ≤ sizeLine; decide, fun t ht => ?_⟩
          refine k _ _ as0 (fun b o e n1 n2 n3 => hfr b o e n1 n2 n3 t _ ht) (kp.trans ((keep_new hq).trans (keep_new ht))) (fun b hb => .inl (by simp [hb])) (hGg t _ ht) (LL2.same hL3 (same_new ht)) ?_
          exact Tp.of (.inl (.inl upd_same)) (.cons (.str _) (.one (tp_nat x)))
      · rw [show decide (vNat (x, c).2 = V.int ((rowAt W x).length : Nat)) = false from decide_eq_false (by
          intro z
          have : ((c : Nat) : Int) = ((rowAt W x).length : Int) := by injection z
          omega)]
        have hclt : c < (rowAt W x).length := by omega
        -- stand[-1][1] = at + 1
        refine iteF ⟨_, rfl, _, _, rfl, rfl, _, rfl, _, rfl, st, _, _, _, rfl, rfl, SqL.of hL.lst, atI_end hlast, a, _, _, 1, rfl, rfl, ha, rfl, ?_⟩
        have erow : (row2 (x, c)).set 1 (.int ((c : Int) + 1)) = row2 (x, c + 1) := by
          show [vNat x, V.int ((c : Int) + 1)] = [vNat x, vNat (c + 1)]
          rfl
        show tSeq _ _ _ _ (upd H a (.lst ((row2 (x, c)).set 1 (.int ((c : Int) + 1)))))
        rw [erow]
        have hL2 : LL2 (upd H a (.lst (row2 (x, c + 1)))) st (as0 ++ [a]) (rows2 (conv ((x, c + 1) :: R))) := by
          have := LL2.set hL (i := as0.length) (a := a) (by simp) (row2 (x, c + 1))
          have e : (rows2 (R.map up1) ++ [row2 (x, c)]).set as0.length (row2 (x, c + 1)) = rows2 (conv ((x, c + 1) :: R)) := by
            rw [conv_map, rows_cons, hl0]
            simp
          rw [e] at this
          exact this
        have k1 : Keep K H (upd H a (.lst (row2 (x, c + 1)))) := keep_upd ha rfl
        have hp1 : (upd H a (.lst (row2 (x, c + 1)))) p = some (.ins Cl dx fs) := by rw [upd_ne hpa]; exact hm.ob
        have hg1 : (upd H a (.lst (row2 (x, c + 1)))) g = some (.dK (gk G)) := by rw [upd_ne hga]; exact hg
        -- tie = self.own_web[node][at]
        refine ⟨_, rfl, p, Cl, dx, _, _, rfl, hp1, TC.cl, TC.nB, hm.fB, _, rfl, _, x, _, hm.b_.mono k1, rfl, web_get hxW, fun r2 hr2 => ?_⟩
        refine ⟨_, rfl, _, c, _, hr2, rfl, tie_get hclt, fun t1 ht1 => ?_⟩
        have et := tie_val ht1
        subst et
        have fin : (d = .skip x c ∧ wk' = ⟨(x, c + 1) :: R, G⟩) → ∀ t o', (upd H a (.lst (row2 (x, c + 1)))) t = none → o' = HO.tup [.str "skip", vNat x, vNat c] → Q (.ref t) (upd (upd H a (.lst (row2 (x, c + 1)))) t o') := by
          rintro ⟨rfl, rfl⟩ t o' ht rfl
          refine k _ _ (as0 ++ [a]) (fun b o e n1 n2 n3 => ?_) (k1.trans (keep_new ht)) (fun b hb => .inl hb) (same_new ht _ _ hg1) (LL2.same hL2 (same_new ht)) ?_
          · refine same_new ht _ _ ?_
            have hba : b ≠ a := fun e' => n3 (by rw [e']; simp)
            rw [upd_ne hba]
            exact e
          · exact Tp.of (.inl (.inl upd_same)) (.cons (.str _) (.cons (tp_nat x) (.one (tp_nat c))))
        cases hti : tieAt W x c with
        | none =>
          have hst2 : d = .skip x c ∧ wk' = ⟨(x, c + 1) :: R, G⟩ := by
            simp [step, hc, hti] at hstep
            exact ⟨hstep.1.symm, hstep.2.symm⟩
          refine ⟨_, rfl, rfl, _, rfl, iteT (iteT ⟨_, rfl, _, rfl, by show 3 ≤ sizeLine; decide, fun t ht => ?_⟩)⟩
          exact fin hst2 t _ ht rfl
        | some t =>
          have htW : t < W.length := hT x c t hti
          have hMt : M[t]? = some (markAt M t) := by
            unfold markAt
            rw [List.getD_eq_getElem?_getD, List.getElem?_eq_getElem (by omega)]
            rfl
          refine ⟨_, rfl, rfl, _, rfl, iteF ?_⟩
          refine ⟨_, rfl, p, Cl, dx, _, _, rfl, hp1, TC.cl, TC.nM, hm.fM, _, rfl, _, t, _, hm.m_.mono k1, rfl, get_map hMt, fun m1 hm1 => ?_⟩
          have em := nat_val hm1
          subst em
          refine ⟨_, rfl, rfl, _, rfl, ?_⟩
          by_cases hmk : markAt M t = me
          · rw [show (!decide (vNat (markAt M t) = vNat me)) = false from by rw [hmk]; simp]
            refine iteF ⟨_, rfl, _, rfl, g, _, rfl, DGet.k (k := Sum.inl (t : Int)) hg1, _, rfl, ?_⟩
            rw [valV_gk]
            by_cases htG : t ∈ G
            · rw [if_pos htG]
              have hst2 : d = .skip x c ∧ wk' = ⟨(x, c + 1) :: R, G⟩ := by
                simp [step, hc, hti, htG] at hstep
                exact ⟨hstep.1.symm, hstep.2.symm⟩
              refine iteT ⟨_, rfl, _, rfl, by show 3 ≤ sizeLine; decide, fun q hq => ?_⟩
              exact fin hst2 q _ hq rfl
            · rw [if_neg htG]
              simp [step, hc, hti, hmk, htG] at hstep
              obtain ⟨rfl, rfl⟩ := hstep
              -- gone[tie] = True; stand.append([tie, 0])
              refine iteF ⟨_, rfl, _, rfl, g, _, rfl, DPut.k (k := Sum.inl (t : Int)) hg1 (by unfold gk; rw [List.length_map]; exact small1000 (by omega)), ?_⟩
              rw [putK_gk htG]
              have hL3 : LL2 (upd (upd H a (.lst (row2 (x, c + 1)))) g (.dK (gk (G ++ [t])))) st (as0 ++ [a]) (rows2 (conv ((x, c + 1) :: R))) := by
                refine hL2.keep fun b o hb e => ?_
                have : b ≠ g := by
                  rintro rfl
                  rcases hb with hb | hb
                  · exact hgst hb
                  · obtain ⟨n, hn⟩ := List.mem_iff_getElem?.mp hb
                    obtain ⟨zs, hz⟩ : ∃ zs, (rows2 (conv ((x, c + 1) :: R)))[n]? = some zs := ⟨_, List.getElem?_eq_getElem (by rw [← hL2.len]; exact (List.getElem?_eq_some_iff.mp hn).1)⟩
                    have := hL2.at_ n _ zs hn hz
                    rw [hg1] at this
                    cases this
                rw [upd_ne this]
                exact e
              have k2 : Keep K H (upd (upd H a (.lst (row2 (x, c + 1)))) g (.dK (gk (G ++ [t])))) := k1.trans (keep_upd hg1 rfl)
              refine ⟨_, rfl, .inl ⟨rfl, _, SqL.of hL3.lst⟩, _, rfl, (by show 2 ≤ sizeLine; decide), fun q hq => ?_⟩
              have hL4 := LL2.same hL3 (same_new (o := .lst [vNat t, V.int 0]) hq)
              have hqst : q ≠ st := (ne_of_none hL3.lst hq).symm
              have hqas : q ∉ as0 ++ [a] := fun hm' => by
                obtain ⟨n, hn⟩ := List.mem_iff_getElem?.mp hm'
                obtain ⟨zs, hz⟩ : ∃ zs, (rows2 (conv ((x, c + 1) :: R)))[n]? = some zs := ⟨_, List.getElem?_eq_getElem (by rw [← hL3.len]; exact (List.getElem?_eq_some_iff.mp hn).1)⟩
                have := hL3.at_ n _ zs hn hz
                rw [hq] at this
                cases this
              have hasl : ((as0 ++ [a]).map V.ref).length ≤ 100 := by
                have := hL.len
                simp [rows2] at this ⊢
                simp at hs60
                omega
              refine ⟨st, _, _, rfl, rfl, hL4.lst, Nat.lt_of_le_of_lt hasl (by decide), ?_⟩
              have hL5 := LL2.push hL4 (q := q) (ys := [vNat t, V.int 0]) upd_same hqst hqas
              have k5 : Keep K H (upd (upd (upd (upd H a (.lst (row2 (x, c + 1)))) g (.dK (gk (G ++ [t])))) q (.lst [vNat t, V.int 0])) st (.lst ((as0 ++ [a]).map V.ref ++ [V.ref q]))) := k2.trans ((keep_new hq).trans (keep_upd hL4.lst rfl))
              refine ⟨_, rfl, _, rfl, by show 3 ≤ sizeLine; decide, fun u hu => ?_⟩
              have hgq : g ≠ q := ne_of_none upd_same hq
              refine k _ _ ((as0 ++ [a]) ++ [q]) (fun b o e n1 n2 n3 => ?_) (k5.trans (keep_new hu)) (fun b hb => ?_) ?_ ?_ ?_
              · refine same_new hu _ _ ?_
                rw [upd_ne n2]
                refine same_new hq _ _ ?_
                have hba : b ≠ a := fun e' => n3 (by rw [e']; simp)
                rw [upd_ne n1, upd_ne hba]
                exact e
              · rcases List.mem_append.mp hb with hb | hb
                · exact .inl hb
                · simp at hb
                  subst hb
                  refine .inr ?_
                  have : b ≠ a := fun e => hqas (by rw [e]; simp)
                  rw [upd_ne hgq.symm, upd_ne this] at hq
                  exact hq
              · refine same_new hu _ _ ?_
                rw [upd_ne hgst, upd_ne hgq, upd_same]
              · have e : rows2 (conv ((t, 0) :: (x, c) :: R)) = rows2 (conv ((x, c + 1) :: R)) ++ [[vNat t, V.int 0]] := by
                  rw [conv_map, rows_cons]
                  rfl
                show LL2 _ st _ (rows2 (conv ((t, 0) :: (x, c) :: R)))
                rw [e]
                exact LL2.same hL5 (same_new hu)
              · exact Tp.of (.inl (.inl upd_same)) (.cons (.str _) (.cons (tp_nat x) (.one (tp_nat c))))
          · rw [show (!decide (vNat (markAt M t) = vNat me)) = true from by
              rw [decide_eq_false (by
                intro z
                have : ((markAt M t : Nat) : Int) = (me : Int) := by injection z
                omega)]
              rfl]
            have hst2 : d = .skip x c ∧ wk' = ⟨(x, c + 1) :: R, G⟩ := by
              simp [step, hc, hti, hmk] at hstep
              exact ⟨hstep.1.symm, hstep.2.symm⟩
            refine iteT (iteT ⟨_, rfl, _, rfl, by show 3 ≤ sizeLine; decide, fun q hq => ?_⟩)
            exact fin hst2 q _ hq rfl
end
end Tb
end
section
set_option Elab.async false
set_option linter.all false
set_option maxRecDepth 100000
set_option maxHeartbeats 4000000
/-! Moment: deeds_by. -/
namespace Tb
open PySem PySem.Spec PyProof.Rows L2
/-- what a walker has gone, R, told by the plain going -/
structure DB (W : Web) (M : List Nat) (me root : Nat) (R : List (Deed × Wk)) (st : List Nat) (S way : List Nat) : Prop where
  ch : Chain W M me (start root) R
  inv : WInv W M me root (start root)
  way : way = wayOf (endOf (start root) R).S
  mine : ∀ x c, markAt M x = me → ((x ∈ st ∧ c = S.getD x 0) ↔ (x, c) ∈ conv (endOf (start root) R).S)
  seen : ((endOf (start root) R).S.map fun p => (p.1, S.getD p.1 0)) = conv (endOf (start root) R).S
  own : ∀ x, x < W.length → markAt M x = me → x ∈ (endOf (start root) R).G
  len : R.length ≤ 1000
def spDB (K : PySem.W.Frag) (Cl : Addr) : Sp := fun vs H Q _ => ∃ p dx fs m w r b s M W roots ws, ∃ ls : Addr, ∃ S : List Nat, ∃ i root : Nat, ∃ way : List Nat, ∃ R : List (Deed × Wk), vs = [.ref p, vNat (i + 1)] ∧ MoP K H Cl p dx fs m w r b s M W roots ws ∧ fs.lookup ("seen" : Str) = some (.ref ls) ∧ H ls = some (.lst (S.map vNat)) ∧
  S.length = W.length ∧ M.length = W.length ∧ W.length ≤ 60 ∧ TiesIn W ∧ roots[i]? = some root ∧ ws[i]? = some way ∧ DB W M (i + 1) root R ws.flatten S way ∧
  ∀ H' q ys, Same H H' → H q = none → H' q = some (.lst ys) → TpAll K H' ys (R.map fun x => dDeed x.1) → Q (.ref q) H'
section
variable {P : Program} {w : World} {K : PySem.W.Frag} {mg : Str → Option Value} {base : Heap}
theorem while_via {c : TT} {tb : TS} {D : Ends} {σ : L2.St} {H : Hp} (Pv : L2.St → Hp → Prop) (μ : L2.St → Hp → Nat) (h0 : Pv σ H)
    (hs : ∀ σ H, Pv σ H → ∃ (b : Bool) (P : Hp → Prop), (∀ Q' : Bool → Hp → Prop, (∀ H1, P H1 → Q' b H1) → c σ H Q') ∧
      ∀ H1, P H1 → if b = true then tb { D with nx := fun σ' H' => Pv σ' H' ∧ μ σ' H' < μ σ H, ct := fun σ' H' => Pv σ' H' ∧ μ σ' H' < μ σ H, bk := D.nx } σ H1 else D.nx σ H1) : tWhile c tb D σ H := by
  refine ⟨fun m σ H => m = μ σ H ∧ Pv σ H, ⟨_, rfl, h0⟩, ?_⟩
  rintro m σ H ⟨rfl, p⟩
  obtain ⟨b, P, h1, h2⟩ := hs σ H p
  refine h1 _ fun H1 q => ?_
  have h3 := h2 H1 q
  cases b with
  | true => exact ⟨_, fun σ' H' ⟨p', l⟩ => ⟨_, l, rfl, p'⟩, h3⟩
  | false => exact h3
theorem eqv_same {n : Nat} {d : PyData} (h : Sh n d) : PyData.eqv d d = true := SeqAt.eqv_refl d h.1
theorem nat_of_vNat {a b : Nat} (h : vNat a = vNat b) : a = b := by
  have : ((a : Nat) : Int) = (b : Int) := by injection h
  omega
theorem dec_vNat (a b : Nat) : decide (vNat a = vNat b) = decide (a = b) := by
  by_cases h : a = b
  · subst h; simp
  · rw [decide_eq_false h, decide_eq_false fun e => h (nat_of_vNat e)]
theorem chain_at {W : Web} {M : List Nat} {me : Nat} : ∀ {R : List (Deed × Wk)} {s : Wk} {k : Nat} {d : Deed} {s' : Wk}, Chain W M me s R → R[k]? = some (d, s') → step W M me (endOf s (R.take k)) = some (d, s') ∧ endOf s (R.take (k + 1)) = s'
  | [], _, _, _, _, _, h => by simp at h
  | p :: R, s, 0, d, s', c, h => by
    simp at h
    subst h
    exact ⟨c.1, rfl⟩
  | p :: R, s, k + 1, d, s', c, h => by
    have := chain_at (R := R) (s := p.2) (k := k) c.2 (by simpa using h)
    exact this
theorem sorted_uniq : ∀ {l m : List Int}, l.Perm m → l.Pairwise (· ≤ ·) → m.Pairwise (· ≤ ·) → l = m := by
  intro l m p a b
  exact p.eq_of_pairwise (fun x y _ _ h1 h2 => Int.le_antisymm h1 h2) a b
abbrev nDB : List Str := ["self", "walker", "root", "way", "gone", "stand", "found", "own", "node", "mark"]
theorem scDB : FnScope nDB ["self", "walker"] (defScope sDeedsBy) := ⟨rfl, rfl, rfl, by decide +kernel, rfl, by decide +kernel, by decide +kernel⟩
theorem gk_keys (G : List Nat) : (gk G).map (·.1) = (G.map fun (x : Nat) => (x : Int)).map Sum.inl := by
  unfold gk
  rw [List.map_map, List.map_map]
  rfl
theorem ok_db {f f1 Cl : Addr} {fd fd1 : FuncData} (F : Fun K "deeds_by" "Moment.deeds_by" sDeedsBy f fd) (T : Bt mg) (TC : MoC K mg Cl) (G1 : FnOk P w K mg base CX0 1 f1 fd1 ["self", "walker", "gone", "stand"] (spDeed K Cl)) (b1 : Binds K fd1 ["self", "walker", "gone", "stand"] []) (m1 : Meth K Cl "deed" f1) :
    FnOk P w K mg base CX0 2 f fd ["self", "walker"] (spDB K Cl) := by
  refine F.ok scDB (fun vs H Q E h => ?_) (fun cdv A outer s H vs Q E hr h => ?_)
  · obtain ⟨p, dx, fs, m, w, r, b, s, M, W, roots, ws, ls, S, i, root, way, R, rfl, _⟩ := h
    rfl
  · obtain ⟨p, dx, fs, m, w', r, b, sd, M, W, roots, ws, ls, S, i, root, way, R, rfl, hm, hfs, hls, hSl, hMl, h60, hT, hroot, hway, B, k⟩ := h
    refine ⟨_, (pss_cons (ps_set (i := 2) scDB.nd rfl (Or.inl rfl) (pe_ix (ix_D K) (pe_fld (pv 0) rfl) (pe_op op_sub (pv 1) pe_int) (fun _ _ => rfl)))
      (pss_cons (ps_set (i := 3) scDB.nd rfl (Or.inl rfl) (pe_ix ix_list (pe_fld (pv 0) rfl) (pe_op op_sub (pv 1) pe_int) (fun _ _ => rfl)))
      (pss_cons (ps_set (i := 4) scDB.nd rfl (Or.inl rfl) (pe_disp (pps_cons (pv 2) pe_bl pps_nil) (by rfl) (by rfl) (fun z => by cases z) (by decide)))
      (pss_cons (ps_set (i := 5) scDB.nd rfl (Or.inl rfl) (pe_lst (pa_cons (pe_lst (pa_cons (pv 2) (pa_cons pe_int pa_nil))) pa_nil)))
      (pss_cons (ps_set (i := 6) scDB.nd rfl (Or.inl rfl) (pe_lst pa_nil))
      (pss_cons (ps_while PassesOwn.never (PW.pt (pw_and (pt_cmpR (op_neD hr.units) (pv 5) (pe_lst pa_nil) (nomark _)) (pw_and1 (pt_not (PW.pt (pw_and (pt_cmp (pc_din (hu_of hr) (pe_ix ix_list (pe_ix ix_list (pv 5) (pe_un un_neg pe_int) (fun _ _ => rfl)) pe_int (fun _ _ => rfl)) (pe_fld (pv 0) rfl))) (pw_and1 (pt_cmpR op_eq (pe_ix ix_list (pe_ix ix_list (pv 5) (pe_un un_neg pe_int) (fun _ _ => rfl)) pe_int (fun _ _ => rfl)) (pe_ix ix_list (pe_fldK K (pv 0)) (pe_ix ix_list (pe_ix ix_list (pv 5) (pe_un un_neg pe_int) (fun _ _ => rfl)) pe_int (fun _ _ => rfl)) (fun _ _ => rfl)) (nomark _))))))))) (pss_one (ps_expr (pe_bm PySem.F.plainAttrs_list PySem.F.slot_list_append PySem.F.type_list_append mt_append (pv 6) (pa_cons (pe_meth (pv 0) TC.cl m1 G1 hr b1 .nil pass0 (pa_cons (pv 1) (pa_cons (pv 4) (pa_cons (pv 5) pa_nil)))) pa_nil)))))
      (pss_cons (ps_setLc (i := 7) (own := [("node", 8), ("mark", 9)]) (g := (gTup K 2 (gCons (gName 8) (gCons (gName 9) gNil)))) rfl scDB.nd rfl rfl (sw_true rfl rfl rfl (by decide +kernel)) (pi_enumT (by rfl) T.enumerate (pa_cons (pe_fld (pv 0) rfl) pa_nil)) (blkOk_by (N := nDB) (sc := defScope sDeedsBy) (by decide +kernel)) (fun _ _ _ _ _ => (pg_tup rfl (pgs_cons (pg_name (i := 8) scDB.nd rfl (Or.inl rfl)) (pgs_cons (pg_name (i := 9) scDB.nd rfl (Or.inl rfl)) pgs_nil)))) (fun _ _ _ _ _ => (pts_one (pt_cmpR op_eq (pv 9) (pv 1) (nomark _)))) (fun _ _ _ _ _ => (pv 8)))
      (pss_cons (ps_if (PW.pt (pw_or (pt_cmpR (op_neD hr.units) (pv 5) (pe_lc (own := [("node", 8)]) (g := (gName 8)) (tt := tYes) rfl scDB.nd (pi_tup (pv 3)) (blkOk_by (N := nDB) (sc := defScope sDeedsBy) (by decide +kernel)) (fun _ _ _ _ _ => (pg_name (i := 8) scDB.nd rfl (Or.inl rfl))) (fun _ _ _ _ _ => pts_nil) (fun _ _ _ _ _ => (pe_lst (pa_cons (pv 8) (pa_cons (pe_ix (ix_listK K) (pe_fldK K (pv 0)) (pv 8) (fun _ _ => rfl)) pa_nil))))) (nomark _)) (pw_or1 (pt_cmpR (op_neD hr.units) (pe_callB (call_sortedDI rfl) (by rfl) T.sorted (by decide +kernel) (pa_cons (pv 4) pa_nil)) (pv 7) (nomark _))))) (pss_one ps_never) pss_nil)
      (pss_one (ps_ret (pv 6))))))))))), ?_⟩
    have ei : V.int (((i + 1 : Nat) : Int) - 1) = V.int ((i : Nat) : Int) := by congr 1; omega
    refine ⟨_, rfl, p, Cl, dx, _, _, rfl, hm.ob, TC.cl, TC.nR, hm.fR, _, rfl, _, _, rfl, rfl, _, i, _, hm.r_, ei, get_map hroot, fun v1 h1 => ?_⟩
    have e1 := nat_val h1
    subst e1
    obtain ⟨ys, hw, hys⟩ := hm.w_
    obtain ⟨wv, hwv, hwd⟩ := hys.get (get_map (f := dNats) hway)
    refine ⟨_, rfl, p, Cl, dx, _, _, rfl, hm.ob, TC.cl, TC.nW, hm.fW, _, rfl, _, _, rfl, rfl, w', _, _, wv, rfl, rfl, SqL.of hw, at_of (j := i) (by omega) hwv, ?_⟩
    -- gone, stand, found
    refine fun g hg0 => ⟨_, rfl, upd_same, [(Sum.inl (root : Int), V.bl true)], rfl, (by show 1 ≤ 15; decide), ?_⟩
    have eg : mergeK [] [(Sum.inl (root : Int), V.bl true)] = gk [root] := rfl
    rw [eg]
    generalize hH1 : upd (upd H g (.dK [])) g (.dK (gk [root])) = H1
    have s1 : Same H H1 := by rw [← hH1]; exact Evl.Ex.mut (same_new hg0) hg0
    have hg1 : H1 g = some (.dK (gk [root])) := by rw [← hH1]; exact upd_same
    refine ⟨_, rfl, (by show 2 ≤ sizeLine; decide), fun a ha => ⟨(by show 1 ≤ sizeLine; decide), fun st hst => ⟨Nat.zero_le _, fun fo hfo => ?_⟩⟩⟩
    generalize hH4 : upd (upd (upd H1 a (.lst [vNat root, V.int 0])) st (.lst [V.ref a])) fo (.lst []) = H4
    have nsta : st ≠ a := (ne_of_none upd_same hst).symm
    have hst1 : H1 st = none := by rw [upd_ne nsta] at hst; exact hst
    have hst4 : H4 st = some (.lst [V.ref a]) := by rw [← hH4]; exact same_new hfo _ _ upd_same
    have ha4 : H4 a = some (.lst [vNat root, V.int 0]) := by rw [← hH4]; exact same_new hfo _ _ (same_new hst _ _ upd_same)
    have hfo4 : H4 fo = some (.lst []) := by rw [← hH4]; exact upd_same
    have s14 : Same H1 H4 := by rw [← hH4]; exact ((same_new ha).trans (same_new hst)).trans (same_new hfo)
    have s4 : Same H H4 := s1.trans s14
    have hL4 : LL2 H4 st [a] (rows2 (conv (start root).S)) := by
      refine ⟨hst4, by simp, by simp; exact nsta, rfl, fun n b zs hb hz => ?_⟩
      cases n with
      | zero =>
        cases hb
        cases hz
        exact ha4
      | succ n => simp at hb
    have frA : H a = none := s1.free ha
    have frS : H st = none := s1.free hst1
    have frF : H fo = none := by
      have : H1 fo = none := ((same_new ha).trans (same_new hst)).free hfo
      exact s1.free this
    have nfs : fo ≠ st := fun e => by rw [e, upd_same] at hfo; cases hfo
    have nfa : fo ≠ a := fun e => by
      rw [e, upd_ne nsta.symm, upd_same] at hfo
      cases hfo
    have ngs : g ≠ st := ne_of_none (same_new (o := .lst [vNat root, V.int 0]) ha _ _ hg1) hst
    have hg4 : H4 g = some (.dK (gk [root])) := s14 _ _ hg1
    -- the walk
    let wkj : Nat → Wk := fun j => endOf (start root) (R.take j)
    have hI : ∀ j, j ≤ R.length → WInv W M (i + 1) root (wkj j) := fun j _ => by
      have e := List.take_append_drop j R
      have c1 : Chain W M (i + 1) (start root) (R.take j ++ R.drop j) := by rw [e]; exact B.ch
      exact inv_chain hT B.inv (chain_append.mp c1).1
    have hE : wkj R.length = endOf (start root) R := by
      show endOf (start root) (R.take R.length) = _
      rw [List.take_length]
    have hG60 : ∀ j, j ≤ R.length → (wkj j).G.length ≤ 60 := fun j hj => Nat.le_trans (nodup_le (hI j hj).gnd fun x hx => ((hI j hj).own x hx).2) h60
    have hS60 : ∀ j, j ≤ R.length → (wkj j).S.length ≤ 60 := fun j hj => by
      have := nodup_le (hI j hj).nd (n := W.length) fun x hx => by
        obtain ⟨q, hq, rfl⟩ := List.mem_map.mp hx
        exact ((hI j hj).own _ ((hI j hj).sub q hq)).2
      rw [List.length_map] at this
      omega
    refine while_via (fun σ H' => ∃ j as ds, σ = [some (.ref p), some (vNat (i + 1)), some (vNat root), some wv, some (.ref g), some (.ref st), some (.ref fo), none, none, none] ∧ j ≤ R.length ∧ Same H H' ∧ H' g = some (.dK (gk (wkj j).G)) ∧
        LL2 H' st as (rows2 (conv (wkj j).S)) ∧ (∀ a, a ∈ as → H a = none ∧ a ≠ fo) ∧ H' fo = some (.lst ds) ∧ TpAll K H' ds ((R.take j).map fun x => dDeed x.1))
      (fun σ H' => match H' fo with | some (.lst l) => 1001 - l.length | _ => 0) ⟨0, [a], [], rfl, Nat.zero_le _, s4, hg4, hL4, fun b hb => by simp at hb; subst hb; exact ⟨frA, nfa.symm⟩, hfo4, .nil⟩ ?_
    · rintro σ H5 ⟨j, as, ds, rfl, hj, s5, hg5, hL5, has, hf5, ht5⟩
      have hm5 := hm.same s5
      have nfos : fo ∉ as := fun e => (has fo e).2 rfl
      have h12 := hI j hj
      refine ⟨decide (j < R.length), fun H1 => Same H5 H1, fun Q' hQ' => ?_, fun H6 s56 => ?_⟩
      · -- the test
        refine ⟨_, rfl, Nat.zero_le _, fun q hq => ?_⟩
        have hL6 := LL2.same hL5 (same_new (o := .lst []) hq)
        refine ⟨_, .list [], dp_ll hL6 (ld_rows _), .lst (SqL.of upd_same) .nil, (sh_rows _).ok, (sh_nats []).ok, _, rfl, ?_⟩
        rw [eqv_nil]
        have s6 : Same H (upd H5 q (.lst [])) := s5.trans (same_new hq)
        have hm6 := hm.same s6
        have hls6 := s6 _ _ hls
        have hQ6 := hQ' _ (same_new (o := .lst []) hq)
        generalize hH6 : upd H5 q (.lst []) = H6 at *
        have nyt : j < R.length → ∃ x c r, (wkj j).S = (x, c) :: r ∧ (x, c) ∉ conv (endOf (start root) R).S := fun h => not_yet (k := j) hT B.inv B.ch h
        cases hwS : (wkj j).S with
        | nil =>
          have hjR : ¬ j < R.length := fun h => by
            obtain ⟨x, c, r, e, _⟩ := nyt h
            rw [hwS] at e
            cases e
          rw [decide_eq_false hjR] at hQ6
          exact iteF hQ6
        | cons top rest =>
          obtain ⟨x, c⟩ := top
          rw [hwS, conv_map, rows_cons] at hL6
          obtain ⟨as0, a1, rfl⟩ : ∃ as0 a, as = as0 ++ [a] := by
            have := hL6.len
            simp at this
            exact ⟨as.dropLast, as.getLast (by intro e; rw [e] at this; simp at this), (List.dropLast_concat_getLast _).symm⟩
          have hl0 : as0.length = (rows2 (rest.map up1)).length := by
            have := hL6.len
            simpa using this
          have ha1 : H6 a1 = some (.lst (row2 (x, c))) := hL6.at_ as0.length a1 _ (by simp) (by rw [hl0]; simp)
          have hlast : ((as0 ++ [a1]).map V.ref).getLast? = some (V.ref a1) := by simp
          obtain ⟨kvs, hkd, hval⟩ := hm6.s_
          have hxG := h12.sub (x, c) (by rw [hwS]; simp)
          obtain ⟨hxm, hxW⟩ := h12.own x hxG
          have e0 : (((rds2 (conv ((x, c) :: rest))).map PyData.list).isEmpty) = false := by simp [rds2, conv]
          rw [e0]
          refine iteT ?_
          refine ⟨_, rfl, _, rfl, st, _, _, _, rfl, rfl, SqL.of hL6.lst, atI_end hlast, a1, _, _, vNat x, rfl, rfl, SqL.of ha1, rfl, ?_⟩
          refine ⟨_, rfl, p, Cl, dx, _, _, rfl, hm6.ob, TC.cl, TC.nS, hm6.fS, sd, _, rfl, DGet.k (k := Sum.inl (x : Int)) hkd, _, rfl, ?_⟩
          rw [hval x]
          have hmine := B.mine x c hxm
          by_cases hin : x ∈ ws.flatten
          · rw [if_pos hin]
            refine iteT ?_
            refine ⟨_, rfl, _, rfl, st, _, _, _, rfl, rfl, SqL.of hL6.lst, atI_end hlast, a1, _, _, vNat c, rfl, rfl, SqL.of ha1, rfl, ?_⟩
            refine ⟨_, rfl, p, Cl, dx, _, _, rfl, hm6.ob, TC.cl, TC.nN, hfs, ?_⟩
            have hSx : S[x]? = some (S.getD x 0) := by rw [List.getD_eq_getElem?_getD, List.getElem?_eq_getElem (by omega)]; rfl
            refine ⟨_, rfl, _, rfl, st, _, _, _, rfl, rfl, SqL.of hL6.lst, atI_end hlast, a1, _, _, vNat x, rfl, rfl, SqL.of ha1, rfl, ls, _, _, _, rfl, rfl, SqL.of hls6, atI_nat (get_mapV hSx), rfl, _, rfl, ?_⟩
            rw [dec_vNat]
            by_cases hcs : c = S.getD x 0
            · have hjR : ¬ j < R.length := fun h => by
                obtain ⟨x', c', r', e, hn⟩ := nyt h
                rw [hwS] at e
                cases e
                exact hn (hmine.mp ⟨hin, hcs⟩)
              rw [decide_eq_false hjR] at hQ6
              rw [decide_eq_true hcs]
              exact hQ6
            · have hjR : j < R.length := by
                rcases Nat.lt_or_ge j R.length with h | h
                · exact h
                · exfalso
                  have ej : j = R.length := by omega
                  have eE : endOf (start root) R = wkj j := by rw [ej, hE]
                  rw [eE, hwS] at hmine
                  exact hcs (hmine.mpr (by simp [conv])).2
              rw [decide_eq_true hjR] at hQ6
              rw [decide_eq_false hcs]
              exact hQ6
          · rw [if_neg hin]
            have hjR : j < R.length := by
              rcases Nat.lt_or_ge j R.length with h | h
              · exact h
              · exfalso
                have ej : j = R.length := by omega
                have eE : endOf (start root) R = wkj j := by rw [ej, hE]
                rw [eE, hwS] at hmine
                exact hin (hmine.mpr (by simp [conv])).1
            rw [decide_eq_true hjR] at hQ6
            exact iteF hQ6
      · have s6 : Same H H6 := s5.trans s56
        have hm6 := hm.same s6
        have hL6 := LL2.same hL5 s56
        have hg6 := s56 _ _ hg5
        have hf6 := s56 _ _ hf5
        have ht6 := ht5.mono (keep_same s56)
        by_cases hjR : j < R.length
        · rw [decide_eq_true hjR]
          -- found.append(self.deed(walker, gone, stand))
          obtain ⟨dn, wk', hRj⟩ : ∃ dn wk', R[j]? = some (dn, wk') := ⟨R[j].1, R[j].2, List.getElem?_eq_getElem hjR⟩
          obtain ⟨hstep, hnext⟩ := chain_at B.ch hRj
          refine iteT ⟨_, rfl, .inl ⟨rfl, _, SqL.of hf6⟩, _, rfl, p, dx, _, rfl, hm6.ob, hm6.no _ (by decide), _, rfl, _, rfl, _, rfl, ?_⟩
          refine ⟨p, dx, fs, m, w', r, b, sd, M, W, roots, ws, i + 1, g, st, as, wkj j, wk', dn, rfl, hm6, hg6, hL6, hstep, ?_, hT, hMl, hG60 j hj, hS60 j hj, fun v H7 as' hfr hkp hnew hg7 hL7 hv7 => ?_⟩
          · intro q hq
            exact ⟨((hI j hj).own _ ((hI j hj).sub q hq)).2, (hI j hj).cnt q hq⟩
          · have nfg : fo ≠ g := ne_of hf6 hg6 (by intro z; cases z)
            have hf7 : H7 fo = some (.lst ds) := hfr fo _ hf6 nfg nfs nfos
            have hdl := ht5.1
            rw [List.length_map, List.length_take] at hdl
            have hlR := B.len
            refine ⟨fo, _, _, rfl, rfl, hf7, small1000 (by omega), ?_⟩
            have hfr0 : ∀ bb o, H bb = some o → H7 bb = some o := fun bb o e => by
              have n1 : bb ≠ g := ne_of_none e hg0
              have n2 : bb ≠ st := ne_of_none e frS
              have n3 : bb ∉ as := fun hm' => by rw [(has bb hm').1] at e; cases e
              exact hfr bb o (s6 _ _ e) n1 n2 n3
            have s8 : Same H (upd H7 fo (.lst (ds ++ [v]))) := Evl.Ex.mut hfr0 frF
            have k8 : Keep K H7 (upd H7 fo (.lst (ds ++ [v]))) := keep_upd hf7 rfl
            have nfas' : ∀ bb, bb ∈ as' → H bb = none ∧ bb ≠ fo := fun bb hb => by
              rcases hnew bb hb with hb | hb
              · exact has bb hb
              · refine ⟨s6.free hb, fun e => ?_⟩
                rw [e, hf6] at hb
                cases hb
            have hL8 : LL2 (upd H7 fo (.lst (ds ++ [v]))) st as' (rows2 (conv wk'.S)) := hL7.keep fun bb o hb e => by
              have : bb ≠ fo := by
                rcases hb with hb | hb
                · rw [hb]; exact nfs.symm
                · exact (nfas' bb hb).2
              rw [upd_ne this]
              exact e
            have e9 : wkj (j + 1) = wk' := hnext
            refine ⟨⟨j + 1, as', ds ++ [v], rfl, hjR, s8, ?_, by rw [e9]; exact hL8, nfas', upd_same, ?_⟩, ?_⟩
            · rw [e9, upd_ne nfg.symm]
              exact hg7
            · have e : R.take (j + 1) = R.take j ++ [(dn, wk')] := by rw [List.take_add_one, hRj]; rfl
              rw [e, List.map_append]
              exact ((ht6.mono hkp).mono k8).append (.one (hv7.mono k8))
            · show (match (upd H7 fo (.lst (ds ++ [v]))) fo with | some (.lst l) => 1001 - l.length | _ => 0) < (match H5 fo with | some (.lst l) => 1001 - l.length | _ => 0)
              rw [upd_same, hf5]
              show 1001 - (ds ++ [v]).length < 1001 - ds.length
              rw [List.length_append, List.length_singleton]
              omega
        · rw [decide_eq_false hjR]
          have ej : j = R.length := by omega
          subst ej
          rw [hE] at hg6 hL6
          rw [List.take_length] at ht6
          have hIE : WInv W M (i + 1) root (endOf (start root) R) := by rw [← hE]; exact hI _ (Nat.le_refl _)
          have hGE : (endOf (start root) R).G.length ≤ 60 := by rw [← hE]; exact hG60 _ (Nat.le_refl _)
          have hSE : (endOf (start root) R).S.length ≤ 60 := by rw [← hE]; exact hS60 _ (Nat.le_refl _)
          generalize hEE : endOf (start root) R = E0 at *
          -- own
          obtain ⟨am, xm, em, hSm, hAm⟩ := hm6.m_.inv
          have exm := tpAll_natsV hAm
          subst exm
          refine iteF ⟨_, rfl, p, Cl, dx, _, _, rfl, hm6.ob, TC.cl, TC.nM, hm6.fM, am, _, by rw [em], hSm, fun D hD => ?_⟩
          refine lc_it (walk_enumT (K := K) (a := am) (xs := M.map vNat)) (fun n H7 => Same H6 H7 ∧ H7 D = some (.lst (((List.range n).filter fun y => decide (markAt M y = i + 1)).map vNat))) ⟨same_new hD, upd_same⟩ (fun n H7 _ q => Evl.ex_t q.1 hSm) ?_ ?_
          · rintro n y H7 H8 hn ⟨s67, hD7⟩ ⟨T1, xv, yv, rfl, hT1, rfl, hxv, hyv⟩
            cases hxv
            obtain ⟨mk, hmk, rfl⟩ := map_get hyv
            have emk : markAt M n = mk := by unfold markAt; rw [List.getD_eq_getElem?_getD, hmk]; rfl
            have hnM : n < M.length := (List.getElem?_eq_some_iff.mp hmk).1
            have s8 := s67.trans (same_new (o := .tup [.int (n : Nat), vNat mk]) hT1)
            have hD8 := same_new (o := .tup [.int (n : Nat), vNat mk]) hT1 _ _ hD7
            refine g2_ok (SqT.of upd_same) ⟨rfl, _, rfl, _, rfl, rfl, _, rfl, ?_⟩
            rw [dec_vNat]
            have er : (List.range (n + 1)).filter (fun y => decide (markAt M y = i + 1)) = (List.range n).filter (fun y => decide (markAt M y = i + 1)) ++ (if markAt M n = i + 1 then [n] else []) := by
              rw [List.range_succ, List.filter_append]
              by_cases h : markAt M n = i + 1 <;> simp [h]
            have hln : ((List.range n).filter fun y => decide (markAt M y = i + 1)).length ≤ n := by
              have := List.length_filter_le (fun y => decide (markAt M y = i + 1)) (List.range n)
              simpa using this
            by_cases h : mk = i + 1
            · rw [decide_eq_true h]
              refine iteT ⟨_, rfl, _, hD8, by rw [List.length_map]; exact small1000 (by omega), Evl.Ex.mut s8 hD, ?_⟩
              rw [upd_same, er, if_pos (by rw [emk]; exact h), List.map_append]
              rfl
            · rw [decide_eq_false h]
              refine iteF ⟨s8, ?_⟩
              rw [er, if_neg (by rw [emk]; exact h), List.append_nil]
              exact hD8
          · rintro H7 ⟨s67, hD7⟩
            rw [List.length_map] at hD7
            have s7 := s6.trans s67
            have hm7 := hm.same s7
            have hL7 := LL2.same hL6 s67
            -- the comprehension over the way
            have hwd7 : Tp K H7 wv (dNats way) := hwd.mono (keep_same s7)
            obtain ⟨aw, xw, ewv, hSw, hAw⟩ := hwd7.inv
            subst ewv
            have exw := tpAll_natsV hAw
            subst exw
            refine ⟨_, rfl, _, rfl, aw, rfl, ⟨_, hSw⟩, fun D2 hD2 => ?_⟩
            have hwW : ∀ x, x ∈ way → x < W.length := fun x hx => by
              rw [B.way, hEE] at hx
              obtain ⟨q, hq, rfl⟩ := List.mem_map.mp (List.mem_reverse.mp hx)
              exact (hIE.own _ (hIE.sub q hq)).2
            have hwl : way.length ≤ 60 := by
              rw [B.way, hEE]
              simp [wayOf]
              exact hSE
            refine lc_it (walk_tup (K := K) (a := aw) (xs := way.map vNat)) (fun n H8 => Same H7 H8 ∧ ∃ as2, LL2 H8 D2 as2 ((way.take n).map fun x => [vNat x, vNat (S.getD x 0)])) ⟨same_new hD2, [], upd_same, by simp, by simp, rfl, fun n a zs h _ => by simp at h⟩ (fun n H8 _ q => Evl.ex_t q.1 hSw) ?_ ?_
            · rintro n y H8 H9 hn ⟨s78, as2, hL8⟩ ⟨rfl, hy⟩
              obtain ⟨x, hx, rfl⟩ := map_get hy
              have hxW := hwW x (List.mem_of_getElem? hx)
              have hm8 := hm7.same s78
              have hls8 := s78 _ _ (s7 _ _ hls)
              have hSx : S[x]? = some (S.getD x 0) := by rw [List.getD_eq_getElem?_getD, List.getElem?_eq_getElem (by omega)]; rfl
              refine ⟨rfl, _, rfl, _, rfl, p, Cl, dx, _, _, rfl, hm8.ob, TC.cl, TC.nN, hfs, _, rfl, ls, _, _, _, rfl, rfl, SqL.of hls8, atI_nat (get_mapV hSx), (by show 2 ≤ sizeLine; decide), fun q hq => ?_⟩
              have hL9 := LL2.same hL8 (same_new (o := .lst [vNat x, vNat (S.getD x 0)]) hq)
              have hal : (as2.map V.ref).length ≤ 60 := by
                have := hL8.len
                simp at this ⊢
                omega
              have nq : q ≠ D2 := (ne_of_none hL8.lst hq).symm
              have nqa : q ∉ as2 := fun hm' => by
                obtain ⟨n', hn'⟩ := List.mem_iff_getElem?.mp hm'
                obtain ⟨zs, hz⟩ : ∃ zs, ((way.take n).map fun x => [vNat x, vNat (S.getD x 0)])[n']? = some zs := ⟨_, List.getElem?_eq_getElem (by rw [← hL8.len]; exact (List.getElem?_eq_some_iff.mp hn').1)⟩
                have := hL8.at_ n' _ zs hn' hz
                rw [hq] at this
                cases this
              refine ⟨_, hL9.lst, Nat.lt_of_le_of_lt hal (by decide), Evl.Ex.mut (s78.trans (same_new hq)) hD2, as2 ++ [q], ?_⟩
              have etk : way.take (n + 1) = way.take n ++ [x] := by rw [List.take_add_one, hx]; rfl
              rw [etk, List.map_append]
              exact LL2.push hL9 upd_same nq nqa
            · rintro H8 ⟨s78, as2, hL8⟩
              rw [List.length_map, List.take_length] at hL8
              have hL8' := LL2.same hL7 s78
              have edat : (way.map fun x => [dNat x, dNat (S.getD x 0)]) = rds2 (conv E0.S) := by
                have h1 := B.seen
                rw [hEE] at h1
                rw [← h1, B.way, hEE]
                unfold wayOf rds2
                rw [List.map_reverse, ← List.map_reverse, ← List.map_reverse, List.map_map, ← List.map_reverse, List.map_map]
                rfl
              have hld8 : LD K H8 (way.map fun x => [vNat x, vNat (S.getD x 0)]) (way.map fun x => [dNat x, dNat (S.getD x 0)]) := by
                refine ⟨by simp, fun n xs ds a b => ?_⟩
                obtain ⟨x, hx, rfl⟩ := map_get a
                obtain ⟨x', hx', rfl⟩ := map_get b
                rw [hx] at hx'
                cases hx'
                exact .cons (tp_nat _) (.one (tp_nat _))
              have hd2 := dp_ll hL8 hld8
              rw [edat] at hd2
              refine ⟨_, _, dp_ll hL8' (ld_rows _), hd2, (sh_rows _).ok, (sh_rows _).ok, _, rfl, ?_⟩
              rw [eqv_same (sh_rows _)]
              have hg8 := s78 _ _ (s67 _ _ hg6)
              refine iteF ⟨_, rfl, g, _, E0.G.map fun (x : Nat) => (x : Int), rfl, .inl hg8, gk_keys _, by rw [List.length_map]; omega, fun zs q hperm hpw hq => ?_⟩
              refine ⟨_, rfl, ?_⟩
              have hD8 := s78 _ _ hD7
              have hown : zs = (((List.range M.length).filter fun y => decide (markAt M y = i + 1)).map fun (x : Nat) => (x : Int)) := by
                refine sorted_uniq (hperm.trans (List.Perm.map _ ?_)) hpw ?_
                · rw [List.perm_ext_iff_of_nodup hIE.gnd (List.nodup_range.filter _)]
                  intro x
                  rw [List.mem_filter, List.mem_range, hMl]
                  constructor
                  · intro hx
                    have := hIE.own x hx
                    exact ⟨this.2, decide_eq_true this.1⟩
                  · intro hx
                    have h2 := B.own x hx.1 (of_decide_eq_true hx.2)
                    rw [hEE] at h2
                    exact h2
                · rw [List.pairwise_map]
                  refine List.Pairwise.imp ?_ (List.pairwise_lt_range.filter _)
                  intro a b hab
                  omega
              have evl : zs.map V.int = (((List.range M.length).filter fun y => decide (markAt M y = i + 1)).map vNat) := by
                rw [hown, List.map_map]
                rfl
              refine ⟨.list (((List.range M.length).filter fun y => decide (markAt M y = i + 1)).map dNat), .list (((List.range M.length).filter fun y => decide (markAt M y = i + 1)).map dNat), ?_, ?_, (sh_nats _).ok, (sh_nats _).ok, _, rfl, ?_⟩
              · refine dp_list (SqL.of (xs := (((List.range M.length).filter fun y => decide (markAt M y = i + 1)).map vNat)) ?_) (tpAll_nats _)
                rw [← evl]
                exact upd_same
              · exact dp_list (SqL.of (same_new hq _ _ hD8)) (tpAll_nats _)
              · rw [eqv_same (sh_nats _)]
                have s9 := (s7.trans s78).trans (same_new (o := .lst (zs.map V.int)) hq)
                have s69 := (s67.trans s78).trans (same_new (o := .lst (zs.map V.int)) hq)
                exact iteF ⟨_, rfl, k _ fo ds s9 frF (s69 _ _ hf6) (ht6.mono (keep_same s69))⟩
end
end Tb
end
section
set_option Elab.async false
set_option linter.all false
set_option maxRecDepth 100000
set_option maxHeartbeats 4000000
/-! BadState and its __init__. -/
namespace Tb
open PySem PySem.Spec PyProof.Rows L2
/-- what the module has made of a class over ValueError that another class's __init__ asks -/
structure WebC (K : PySem.W.Frag) (mg : Str → Option Value) (CW : Addr) : Prop where
  mgC : mg "WebError" = some (.ref CW)
  rd : ∃ mc, PySem.W.readsIn K CW mc = true ∧ PySem.W.findCls K (.ref CW) mc "__init__" = some (.val (.builtin "ValueError.__init__"))
  ga : PySem.W.specialIn K (.ref CW) "__getattribute__" = some (some (.builtin "type.__getattribute__"))
section
variable {X : Cx} {e : Expr} {es : List Expr} {ta : TA} {p1 p2 pos : Pos} {CW : Addr}
theorem pe_wbinit {pl : Sem Bool} (T : WebC X.K X.mg CW) (hg : Gl X "WebError") (ha : PA X (e :: es) ta)
    (hc : eval (.Call (.Attribute (.Name "WebError" p1) "__init__" p2) (e :: es) [] pos) X.env = (do
      let ov ← eval (.Name "WebError" p1) X.env
      standAt p2.atName
      let (f, first) ← holding [ov] (getMethod ov "__init__" pl)
      callWith pos f first (backTo pos (starEach (e :: es) X.env)) (backToKw pos (keywordEach [] X.env))) := by rfl)
    (he : starEach (e :: es) X.env = (false, eval e X.env) :: starEach es X.env := by rfl) (hpl : (backTo pos (starEach es X.env)).any (·.1) = false := by rfl) :
    PE X (.Call (.Attribute (.Name "WebError" p1) "__init__" p2) (e :: es) [] pos) (tVeI X.K ta) := by
  refine ⟨fun pins s σ H Q I h => ?_⟩
  obtain ⟨mc, rd, vV⟩ := T.rd
  refine PySem.W.methodCall_KW (ld_glob I hg T.mgC ?_ (by decide)) hc
  refine PySem.W.method_cls I.kIn T.ga (PySem.W.cls_value I.kIn rd vV (by decide +kernel) ?_)
  show wpAny _ _ (callWith pos (Value.builtin "ValueError.__init__") [] (backTo pos (starEach (e :: es) X.env)) []) _ _ _
  refine PyProof.Rows.callWith_method1 (thn (ha.run pos pins _ σ H _ (I.tok _) h) fun us s1 ⟨vs, H1, I1, r1, a, C, ws, ev, hl, T, ea, q⟩ => ?_) he hpl
  subst ev
  cases r1 with
  | @cons _ u0 _ ur ra rw' =>
    obtain rfl : u0 = Value.ref a := ra
    have hlen : ur.length ≤ sizeLine := by
      rw [← Paired.length rw', sizeLine_eq]
      omega
    exact oinit_ok T I1 ea hlen fun s' J => ⟨.non, H1, J, rfl, q⟩
end
abbrev sBadInit : Stmt := inClass (top 4) 0
/-- BadState.__init__: node is kept in the error's own dict -/
def spBadInit (K : PySem.W.Frag) (CB : Addr) : Sp := fun vs H Q _ => ∃ a y, vs = [.ref a, y] ∧ OexC K CB ∧ H a = some (exo a CB none) ∧
  ∀ dx, H dx = none → dx ≠ a → Q .non (upd (upd H dx (exd dx [("node", y)])) a (exo a CB (some dx)))
section
variable {P : Program} {w : World} {K : PySem.W.Frag} {mg : Str → Option Value} {base : Heap}
theorem scBadInit : FnScope ["self", "node"] ["self", "node"] (defScope sBadInit) := ⟨rfl, rfl, rfl, by decide +kernel, rfl, by decide +kernel, by decide +kernel⟩
theorem ok_badinit {f CW CB : Addr} {fd : FuncData} (F : Fun K "__init__" "BadState.__init__" sBadInit f fd) (T : WebC K mg CW) (nN : PySem.W.findIn K (.ref CB) "node" = some none) : FnOk P w K mg base CX0 1 f fd ["self", "node"] (spBadInit K CB) := by
  refine F.ok scBadInit (fun vs H Q E h => ?_) (fun cdv A outer s H vs Q E hr h => ?_)
  · obtain ⟨a, y, rfl, _⟩ := h
    rfl
  · obtain ⟨a, y, rfl, hO, ha, k⟩ := h
    refine ⟨_, pss_cons (ps_expr (pe_wbinit T (by rfl) (pa_cons (pv 0) (pa_cons pe_str pa_nil)))) (pss_one (ps_ost (pv 0) (pv 1))), ?_⟩
    refine ⟨_, rfl, a, CB, _, rfl, (by show 1 ≤ 1000; decide), hO, ha, ?_⟩
    exact ⟨_, rfl, _, rfl, a, CB, rfl, hO, nN, .inl ⟨ha, fun dx n ne => k dx n ne⟩⟩
end
end Tb
end
section
set_option Elab.async false
set_option linter.all false
set_option maxRecDepth 100000
set_option maxHeartbeats 4000000
/-! Moment: next_one, turns. -/
namespace Tb
open PySem PySem.Spec PyProof.Rows L2
/-- dict([(x, True) for x in ..]): the pairs -/
theorem lc_trues {K : PySem.W.Frag} {J : It} {G : Hp → Prop} {l : List Nat} {σ : L2.St} {H : Hp} {Q : Addr → Hp → Prop} {j : Nat} (w : Walk J (l.map vNat).length G (YAt (l.map vNat))) (hG : ∀ H', Same H H' → G H') (hlen : l.length ≤ 100) (hj : j < σ.length)
    (k : ∀ D ps H', Same H H' → H D = none → H' D = some (.lst (ps.map V.ref)) → Paired (fun p kv => SqT K H' p [kV kv.1, kv.2]) ps (gk l) → Q D H') :
    tLcJ J (gName j) tYes (tTup (tCons (tVar j) (tCons (tC (.bl true)) tNil))) [j] σ H Q := by
  intro D hD
  refine lc_it w (fun i H1 => Same H H1 ∧ ∃ ps : List Addr, H1 D = some (.lst (ps.map V.ref)) ∧ Paired (fun p kv => SqT K H1 p [kV kv.1, kv.2]) ps (gk (l.take i))) ⟨same_new hD, [], upd_same, .nil⟩ (fun i H1 _ p => hG _ p.1) ?_ ?_
  · rintro i x H1 H2 hi ⟨s1, ps, hL, hP⟩ ⟨rfl, hxi⟩
    obtain ⟨n, hn, rfl⟩ := map_get hxi
    refine ⟨?_, ?_⟩
    · show ((wipe σ [j]).set j (some (vNat n))).set j none = wipe σ [j]
      apply List.ext_getElem?
      intro m
      show (((σ.set j none).set j (some (vNat n))).set j none)[m]? = (σ.set j none)[m]?
      simp [List.set_set]
    · refine ⟨vNat n, ?_, ?_⟩
      · show ((σ.set j none).set j (some (vNat n)))[j]? = some (some (vNat n))
        rw [List.getElem?_set_self (by simpa using hj)]
      · refine ⟨by show 2 ≤ sizeLine; decide, fun p hp => ?_⟩
        have hpl := hP.length
        have hL2 := same_new (o := .tup [vNat n, .bl true]) hp _ _ hL
        rw [List.length_map] at hi
        refine ⟨_, hL2, ?_, Evl.Ex.mut (s1.trans (same_new hp)) hD, ps ++ [p], ?_, ?_⟩
        · rw [List.length_map, hpl]
          simp [gk]
          exact small1000 (by omega)
        · rw [upd_same]
          simp
        · have etk : l.take (i + 1) = l.take i ++ [n] := by rw [List.take_add_one, hn]; rfl
          have eg : gk (l.take i ++ [n]) = gk (l.take i) ++ [(Sum.inl (n : Int), V.bl true)] := by simp [gk]
          rw [etk, eg]
          have kk : Keep K H2 (upd (upd H2 p (.tup [vNat n, .bl true])) D (.lst (ps.map V.ref ++ [V.ref p]))) := (keep_new hp).trans (keep_upd hL2 rfl)
          have pm : ∀ {as : List Addr} {bs : List (Key × V)}, Paired (fun p kv => SqT K H2 p [kV kv.1, kv.2]) as bs → Paired (fun p kv => SqT K (upd (upd H2 p (.tup [vNat n, .bl true])) D (.lst (ps.map V.ref ++ [V.ref p]))) p [kV kv.1, kv.2]) as bs → True := fun _ _ => trivial
          refine Paired.snoc ?_ ?_
          · have : ∀ {as : List Addr} {bs : List (Key × V)}, Paired (fun p kv => SqT K H2 p [kV kv.1, kv.2]) as bs → Paired (fun q kv => SqT K (upd (upd H2 p (.tup [vNat n, .bl true])) D (.lst (ps.map V.ref ++ [V.ref p]))) q [kV kv.1, kv.2]) as bs := by
              intro as bs h
              induction h with
              | nil => exact .nil
              | cons a b ih => exact .cons (kk _ _ a) ih
            exact this hP
          · exact (keep_upd hL2 rfl) _ _ (SqT.of upd_same)
  · rintro H1 ⟨s1, ps, hL, hP⟩
    rw [List.length_map, List.take_length] at hP
    exact k D ps H1 s1 hD hL hP
theorem key_ne {a b : Nat} (h : a ≠ b) : (Sum.inl (a : Int) : Key) ≠ Sum.inl (b : Int) := fun e => h (by
  have : (a : Int) = (b : Int) := by injection e
  omega)
theorem valV_putN (kvs : List (Key × V)) (k j : Nat) (y : V) : valV (putK kvs (.inl (k : Int)) y) (.inl (j : Int)) = if j = k then some y else valV kvs (.inl (j : Int)) := by
  rw [valV_put]
  by_cases h : j = k
  · rw [if_pos h, if_pos (by rw [h])]
  · rw [if_neg h, if_neg (key_ne h)]
theorem valV_merge (kvs : List (Key × V)) (l : List Nat) (t : Nat) : valV (mergeK kvs (gk l)) (.inl (t : Int)) = if t ∈ l then some (.bl true) else valV kvs (.inl (t : Int)) := by
  induction l generalizing kvs with
  | nil => simp [gk, mergeK]
  | cons x l ih =>
    have e : mergeK kvs (gk (x :: l)) = mergeK (putK kvs (.inl (x : Int)) (.bl true)) (gk l) := rfl
    rw [e, ih, valV_putN]
    by_cases h1 : t ∈ l
    · simp [h1]
    · by_cases h2 : t = x <;> simp [h1, h2]
/-- the deeds of the walkers, in the list of lists at ld -/
structure DsA (K : PySem.W.Frag) (H : Hp) (fs : List (Str × V)) (W : Web) (D : List (List Deed)) (ld : Addr) (das : List Addr) (xss : List (List V)) : Prop where
  f : fs.lookup ("deeds" : Str) = some (.ref ld)
  l : LL2 H ld das xss
  d : LD K H xss (D.map (·.map dDeed))
  k6 : D.length ≤ 6
  ok : ∀ row, row ∈ D → row.length ≤ 1000 ∧ ∀ d, d ∈ row → DeedIn W d
theorem DsA.same {K : PySem.W.Frag} {H H' : Hp} {fs : List (Str × V)} {W : Web} {D : List (List Deed)} {ld : Addr} {das : List Addr} {xss : List (List V)} (h : DsA K H fs W D ld das xss) (e : Same H H') : DsA K H' fs W D ld das xss :=
  ⟨h.f, h.l.same e, h.d.mono (keep_same e), h.k6, h.ok⟩
theorem DsA.row {K : PySem.W.Frag} {H : Hp} {fs : List (Str × V)} {W : Web} {D : List (List Deed)} {ld : Addr} {das : List Addr} {xss : List (List V)} (h : DsA K H fs W D ld das xss) {i : Nat} (hi : i < D.length) :
    ∃ a xs, das[i]? = some a ∧ H a = some (.lst xs) ∧ TpAll K H xs ((rowD D i).map dDeed) := by
  have h1 := h.l.len
  have h2 := h.d.1
  rw [List.length_map] at h2
  obtain ⟨xs, hxs⟩ : ∃ xs, xss[i]? = some xs := ⟨xss[i]'(by omega), List.getElem?_eq_getElem _⟩
  obtain ⟨a, ha, hH⟩ := h.l.get hxs
  refine ⟨a, xs, ha, hH, h.d.2 i xs _ hxs ?_⟩
  rw [List.getElem?_map]
  unfold rowD
  rw [List.getD_eq_getElem?_getD, List.getElem?_eq_getElem hi]
  rfl
theorem rowD_mem {D : List (List Deed)} {i : Nat} (hi : i < D.length) : rowD D i ∈ D := by
  unfold rowD
  rw [List.getD_eq_getElem?_getD, List.getElem?_eq_getElem hi]
  exact List.getElem_mem hi
def doneL (D : List (List Deed)) (dn : Nat → Nat) : List Nat := (List.range D.length).map dn
theorem doneL_get {D : List (List Deed)} {dn : Nat → Nat} {i : Nat} (hi : i < D.length) : (doneL D dn)[i]? = some (dn i) := by
  unfold doneL
  rw [List.getElem?_map, List.getElem?_range hi]
  rfl
def spNext (K : PySem.W.Frag) (Cl : Addr) : Sp := fun vs H Q _ => ∃ p dx fs m w r b s M W roots ws, ∃ D : List (List Deed), ∃ ld : Addr, ∃ das : List Addr, ∃ xss, ∃ da th : Addr, ∃ dn : Nat → Nat, ∃ kvs : List (Key × V), vs = [.ref p, .ref da, .ref th] ∧ MoP K H Cl p dx fs m w r b s M W roots ws ∧
  DsA K H fs W D ld das xss ∧ H da = some (.lst ((doneL D dn).map vNat)) ∧ H th = some (.dK kvs) ∧ (∀ t : Nat, valV kvs (.inl (t : Int)) = if thB W roots D dn t = true then some (.bl true) else none) ∧
  ∀ H', Same H H' → Q (vTie (nextOne W roots D dn)) H'
def spTurns (K : PySem.W.Frag) (Cl CB : Addr) : Sp := fun vs H Q E => ∃ p dx fs m w r b s M W roots ws, ∃ D : List (List Deed), ∃ ld : Addr, ∃ das : List Addr, ∃ xss, vs = [.ref p] ∧ MoP K H Cl p dx fs m w r b s M W roots ws ∧
  DsA K H fs W D ld das xss ∧ roots.length = D.length ∧ ∀ dn, Goes W roots D dn → Stuck W roots D dn →
    (firstLeft D dn = none → ∀ H' q, Same H H' → H q = none → H' q = some (.lst ((order W roots D).map fun i => vNat (i + 1))) → Q (.ref q) H') ∧
    (∀ i d, firstLeft D dn = some i → (rowD D i)[dn i]? = some d → ∀ H' dx, Same H H' → H dx = none → H' dx = some (.xd [("node", vTie (tieD W d))]) → E (.ref CB) (some dx) H')
section
variable {P : Program} {w : World} {K : PySem.W.Frag} {mg : Str → Option Value} {base : Heap}
abbrev nNext : List Str := ["self", "done", "there", "at", "deeds", "deed", "tie"]
theorem scNext : FnScope nNext ["self", "done", "there"] (defScope sNext) := ⟨rfl, rfl, rfl, by decide +kernel, rfl, by decide +kernel, by decide +kernel⟩
def kindD : Deed → Str
  | .skip _ _ => "skip"
  | .down _ _ => "down"
  | .up _ => "up"
  | .stop _ => "stop"
theorem deed0 {H : Hp} {v : V} {d : Deed} (h : Tp K H v (dDeed d)) : ∃ ds, Tp K H v (.tuple ds) ∧ ds[0]? = some (.str (kindD d)) := by
  cases d <;> exact ⟨_, h, rfl⟩
theorem ok_next {f f1 Cl : Addr} {fd fd1 : FuncData} (F : Fun K "next_one" "Moment.next_one" sNext f fd) (T : Bt mg) (TC : MoC K mg Cl) (G1 : FnOk P w K mg base CX0 1 f1 fd1 ["self", "deed"] (spTieOf K Cl)) (b1 : Binds K fd1 ["self", "deed"] []) (m1 : Meth K Cl "tie_of" f1) :
    FnOk P w K mg base CX0 2 f fd ["self", "done", "there"] (spNext K Cl) := by
  refine F.ok scNext (fun vs H Q E h => ?_) (fun cdv A outer s H vs Q E hr h => ?_)
  · obtain ⟨p, dx, fs, m, w, r, b, s, M, W, roots, ws, D, ld, das, xss, da, th, dn, kvs, rfl, _⟩ := h
    rfl
  · obtain ⟨p, dx, fs, m, w', r, b, sd, M, W, roots, ws, D, ld, das, xss, da, th, dn, kvs, rfl, hm, hD, hda, hth, hval, k⟩ := h
    refine ⟨_, (pss_cons (ps_for PassesOwn.never rfl (pi_enum (by rfl) T.enumerate (pa_cons (pe_fld (pv 0) rfl) pa_nil)) (pg_tup rfl (pgs_cons (pg_name (i := 3) scNext.nd rfl (Or.inl rfl)) (pgs_cons (pg_name (i := 4) scNext.nd rfl (Or.inl rfl)) pgs_nil))) (pss_one (ps_if (pt_cmpR op_lt (pe_ix ix_list (pv 1) (pv 3) (fun _ _ => rfl)) (pe_callB call_len_seq (by rfl) T.len PySem.boot_len (pa_cons (pv 4) pa_nil)) (nomark _)) (pss_cons (ps_set (i := 5) scNext.nd rfl (Or.inl rfl) (pe_ix ix_list (pv 4) (pe_ix ix_list (pv 1) (pv 3) (fun _ _ => rfl)) (fun _ _ => rfl)))
      (pss_cons (ps_set (i := 6) scNext.nd rfl (Or.inl rfl) (pe_meth (pv 0) TC.cl m1 G1 hr b1 .nil pass0 (pa_cons (pv 5) pa_nil)))
      (pss_one (ps_if (PW.pt (pw_or (pt_cmpR op_ne (pe_ix (ix_D K) (pv 5) pe_int (fun _ _ => rfl)) pe_str (nomark _)) (pw_or (pt_cmpR op_isN (pv 6) pe_non (nomark _)) (pw_or1 (pt_cmp (pc_din (hu_of hr) (pv 6) (pv 2))))))) (pss_one (ps_ret (pv 3))) pss_nil)))) pss_nil)))
      (pss_one (ps_ret pe_non))), ?_⟩
    refine ⟨_, rfl, p, Cl, dx, _, _, rfl, hm.ob, TC.cl, TC.nD, hD.f, ld, _, rfl, SqL.of hD.l.lst, ?_⟩
    have hdl : das.length = D.length := by rw [hD.l.len, hD.d.1, List.length_map]
    refine for_it (walk_enum (K := K) (a := ld) (xs := das.map V.ref)) (fun i σ H1 => (∃ y3 y4 y5 y6, σ = [some (.ref p), some (.ref da), some (.ref th), y3, y4, y5, y6]) ∧ Same H H1 ∧ ∀ j, j < i → en W roots D dn j = false)
      ⟨⟨_, _, _, _, rfl⟩, Same.refl H, fun j hj => absurd hj (Nat.not_lt_zero j)⟩ (fun i σ H1 _ q => SqL.of (q.2.1 _ _ hD.l.lst)) ?_ ?_
    · rintro i x σ H1 H2 hi ⟨⟨y3, y4, y5, y6, rfl⟩, s1, hno⟩ ⟨T1, xv, yv, rfl, hT1, rfl, hxv, hyv⟩
      rw [List.length_map] at hi
      have hiD : i < D.length := by omega
      cases hxv
      obtain ⟨a, ha, rfl⟩ := map_get hyv
      have s2 := s1.trans (same_new (o := .tup [.int (i : Nat), V.ref a]) hT1)
      have hm2 := hm.same s2
      obtain ⟨a', xs, ha', hHa, hxs⟩ := (hD.same s2).row hiD
      rw [ha] at ha'
      cases ha'
      have hxl : xs.length = (rowD D i).length := by rw [hxs.1, List.length_map]
      refine g2_ok (SqT.of upd_same) ?_
      refine ⟨_, rfl, _, rfl, da, _, _, _, rfl, rfl, SqL.of (s2 _ _ hda), atI_nat (get_mapV (doneL_get hiD)), _, rfl, a, _, rfl, .inl (SqL.of hHa), _, _, rfl, rfl, _, rfl, ?_⟩
      by_cases hlt : dn i < (rowD D i).length
      · rw [decide_eq_true (show (dn i : Int) < (xs.length : Nat) by omega)]
        obtain ⟨d, hd⟩ : ∃ d, (rowD D i)[dn i]? = some d := ⟨_, List.getElem?_eq_getElem hlt⟩
        obtain ⟨v, hv, hvd⟩ := hxs.get (get_map (f := dDeed) hd)
        refine iteT ⟨_, rfl, _, rfl, _, rfl, da, _, _, _, rfl, rfl, SqL.of (s2 _ _ hda), atI_nat (get_mapV (doneL_get hiD)), a, _, _, v, rfl, rfl, SqL.of hHa, atI_nat hv, ?_⟩
        have hDin : DeedIn W d := (hD.ok _ (rowD_mem hiD)).2 d (List.mem_of_getElem? hd)
        refine ⟨_, rfl, p, dx, _, rfl, hm2.ob, hm2.no _ (by decide), _, rfl, p, dx, fs, m, w', r, b, sd, M, W, roots, ws, v, d, rfl, hm2, hvd, hDin, ?_⟩
        have hen : en W roots D dn i = enD W roots D dn d := by unfold en; rw [hd]
        have hthere : ∀ b : Bool, en W roots D dn i = b → (b = true → Q (vNat i) (upd H1 T1 (.tup [.int (i : Nat), V.ref a]))) ∧ (b = false → ∀ j, j < i + 1 → en W roots D dn j = false) := fun b hb => by
          refine ⟨fun hbt => ?_, fun hbf j hj => ?_⟩
          · have hno1 : nextOne W roots D dn = some i := find_range hno hiD (by rw [hb]; exact hbt)
            have := k _ s2
            rw [hno1] at this
            exact this
          · rcases Nat.lt_or_ge j i with h | h
            · exact hno j h
            · have : j = i := by omega
              subst this
              rw [hb]; exact hbf
        obtain ⟨ds0, hds0, hd0⟩ := deed0 hvd
        refine ⟨_, rfl, _, 0, _, hds0, rfl, hd0, fun v0 h0 => ?_⟩
        have e0 := h0.str_inv
        subst e0
        refine ⟨rfl, _, rfl, ?_⟩
        cases d with
        | skip x c =>
          rw [show (!decide (V.str (kindD (.skip x c)) = V.str "skip")) = false from by simp [kindD]]
          refine iteF ⟨_, rfl, rfl, _, rfl, ?_⟩
          cases ht : tieAt W x c with
          | none =>
            rw [show decide (vTie (tieD W (.skip x c)) = V.non) = true from by show decide (vTie (tieAt W x c) = _) = _; rw [ht]; rfl]
            have he : enD W roots D dn (.skip x c) = true := by unfold enD wt; simp only [ht]
            exact iteT (iteT ⟨_, rfl, (hthere true (hen.trans he)).1 rfl⟩)
          | some t =>
            rw [show decide (vTie (tieD W (.skip x c)) = V.non) = false from by show decide (vTie (tieAt W x c) = _) = _; rw [ht]; exact decide_eq_false (by intro z; cases z)]
            have he : enD W roots D dn (.skip x c) = thB W roots D dn t := by unfold enD wt; simp only [ht]
            refine iteF ⟨_, rfl, _, rfl, th, valV kvs (.inl (t : Int)), rfl, ?_, _, rfl, ?_⟩
            · have : vTie (tieD W (.skip x c)) = kV (.inl (t : Int)) := by show vTie (tieAt W x c) = _; rw [ht]; rfl
              rw [this]
              exact DGet.k (s2 _ _ hth)
            · rw [hval t]
              cases hb : thB W roots D dn t with
              | true => exact iteT ⟨_, rfl, (hthere true (by rw [hen, he, hb])).1 rfl⟩
              | false => exact iteF ⟨⟨_, _, _, _, rfl⟩, s2, (hthere false (by rw [hen, he, hb])).2 rfl⟩
        | down x c =>
          rw [show (!decide (V.str (kindD (.down x c)) = V.str "skip")) = true from by show (!decide (V.str "down" = V.str "skip")) = true; decide +kernel]
          exact iteT (iteT ⟨_, rfl, (hthere true (by rw [hen]; rfl)).1 rfl⟩)
        | up x =>
          rw [show (!decide (V.str (kindD (.up x)) = V.str "skip")) = true from by show (!decide (V.str "up" = V.str "skip")) = true; decide +kernel]
          exact iteT (iteT ⟨_, rfl, (hthere true (by rw [hen]; rfl)).1 rfl⟩)
        | stop x =>
          rw [show (!decide (V.str (kindD (.stop x)) = V.str "skip")) = true from by show (!decide (V.str "stop" = V.str "skip")) = true; decide +kernel]
          exact iteT (iteT ⟨_, rfl, (hthere true (by rw [hen]; rfl)).1 rfl⟩)
      · rw [decide_eq_false (show ¬ (dn i : Int) < (xs.length : Nat) by omega)]
        refine iteF ⟨⟨_, _, _, _, rfl⟩, s2, fun j hj => ?_⟩
        rcases Nat.lt_or_ge j i with h | h
        · exact hno j h
        · have : j = i := by omega
          subst this
          unfold en
          rw [List.getElem?_eq_none (by omega)]
    · rintro σ H1 ⟨⟨y3, y4, y5, y6, rfl⟩, s1, hno⟩
      rw [List.length_map, hdl] at hno
      have hno1 : nextOne W roots D dn = none := find_range_none hno
      have := k _ s1
      rw [hno1] at this
      exact this
abbrev nTurns : List Str := ["self", "found", "there", "done", "walker", "deed", "at", "deeds", "root"]
theorem scTurns : FnScope nTurns ["self"] (defScope sTurns) := ⟨rfl, rfl, rfl, by decide +kernel, rfl, by decide +kernel, by decide +kernel⟩
theorem ok_turns {f f1 f2 f3 Cl CB : Addr} {fd fd1 fd2 fd3 : FuncData} (F : Fun K "turns" "Moment.turns" sTurns f fd) (T : Bt mg) (TC : MoC K mg Cl) (G1 : FnOk P w K mg base CX0 1 f1 fd1 ["self", "deed"] (spTieOf K Cl)) (b1 : Binds K fd1 ["self", "deed"] []) (m1 : Meth K Cl "tie_of" f1)
    (G2 : FnOk P w K mg base CX0 2 f2 fd2 ["self", "done", "there"] (spNext K Cl)) (b2 : Binds K fd2 ["self", "done", "there"] []) (m2 : Meth K Cl "next_one" f2)
    (G3 : FnOk P w K mg base CX0 1 f3 fd3 ["self", "node"] (spBadInit K CB)) (b3 : Binds K fd3 ["self", "node"] []) (TO : OexC K CB) (iC : PySem.W.findIn K (.ref CB) "__init__" = some (some (.ref f3))) (tI : PySem.W.typeIn K (.ref f3) = some (.type "function")) (mgB : mg "BadState" = some (.ref CB)) :
    FnOk P w K mg base (L2.CX P w) 3 f fd ["self"] (spTurns K Cl CB) := by
  refine F.okX scTurns (fun vs H Q E h => ?_) (fun cdv A outer s H vs Q E hr h => ?_)
  · obtain ⟨p, dx, fs, m, w, r, b, s, M, W, roots, ws, D, ld, das, xss, rfl, _⟩ := h
    rfl
  · obtain ⟨p, dx, fs, m, w', r, b, sd, M, W, roots, ws, D, ld, das, xss, rfl, hm, hD, hrl, k⟩ := h
    have hr1 := hr.mono (by decide : 1 ≤ 2)
    refine ⟨_, (pss_cons (ps_set (i := 1) scTurns.nd rfl (Or.inl rfl) (pe_lst pa_nil))
      (pss_cons (ps_set (i := 2) scTurns.nd rfl (Or.inl rfl) (pe_callTy (call_dictP rfl) (by rfl) T.dict (by decide +kernel) (pa_cons (pe_lc (own := [("root", 8)]) (g := (gName 8)) (tt := tYes) rfl scTurns.nd (pi_tup (pe_fld (pv 0) rfl)) (blkOk_by (N := nTurns) (sc := defScope sTurns) (by decide +kernel)) (fun _ _ _ _ _ => (pg_name (i := 8) scTurns.nd rfl (Or.inl rfl))) (fun _ _ _ _ _ => pts_nil) (fun _ _ _ _ _ => (pe_tup (pa_cons (pv 8) (pa_cons pe_bl pa_nil))))) pa_nil)))
      (pss_cons (ps_setLc (i := 3) (own := [("root", 8)]) (g := (gName 8)) (tt := tYes) rfl scTurns.nd rfl rfl (sw_true rfl rfl rfl (by decide +kernel)) (pi_tup (pe_fld (pv 0) rfl)) (blkOk_by (N := nTurns) (sc := defScope sTurns) (by decide +kernel)) (fun _ _ _ _ _ => (pg_name (i := 8) scTurns.nd rfl (Or.inl rfl))) (fun _ _ _ _ _ => pts_nil) (fun _ _ _ _ _ => pe_int))
      (pss_cons (ps_set (i := 4) scTurns.nd rfl (Or.inl rfl) (pe_meth (pv 0) TC.cl m2 G2 hr b2 .nil pass0 (pa_cons (pv 3) (pa_cons (pv 2) pa_nil))))
      (pss_cons (ps_while (passes_of rfl) (pt_cmpR op_notN (pv 4) pe_non (nomark _)) (pss_cons (ps_set (i := 5) scTurns.nd rfl (Or.inl rfl) (pe_ix ix_list (pe_ix ix_list (pe_fld (pv 0) rfl) (pv 4) (fun _ _ => rfl)) (pe_ix ix_list (pv 3) (pv 4) (fun _ _ => rfl)) (fun _ _ => rfl)))
      (pss_cons (ps_if (pt_cmpR op_eq (pe_ix (ix_D K) (pv 5) pe_int (fun _ _ => rfl)) pe_str (nomark _)) (pss_one (ps_dput (hu_of hr) (pv 2) (pe_meth (pv 0) TC.cl m1 G1 hr1 b1 .nil pass0 (pa_cons (pv 5) pa_nil)) pe_bl rfl)) pss_nil)
      (pss_cons (ps_asg (pe_op op_add (pe_ix ix_list (pv 3) (pv 4) (fun _ _ => rfl)) pe_int) (pg_sub (pv 3) (pv 4) set_list))
      (pss_cons (ps_expr (pe_bm PySem.F.plainAttrs_list PySem.F.slot_list_append PySem.F.type_list_append mt_append (pv 1) (pa_cons (pe_op op_add (pv 4) pe_int) pa_nil)))
      (pss_one (ps_set (i := 4) scTurns.nd rfl (Or.inl rfl) (pe_meth (pv 0) TC.cl m2 G2 hr b2 .nil pass0 (pa_cons (pv 3) (pa_cons (pv 2) pa_nil))))))))))
      (pss_cons (ps_for (passes_of rfl) rfl (pi_enum (by rfl) T.enumerate (pa_cons (pe_fld (pv 0) rfl) pa_nil)) (pg_tup rfl (pgs_cons (pg_name (i := 6) scTurns.nd rfl (Or.inl rfl)) (pgs_cons (pg_name (i := 7) scTurns.nd rfl (Or.inl rfl)) pgs_nil))) (pss_one (ps_if (pt_cmpR op_lt (pe_ix ix_list (pv 3) (pv 6) (fun _ _ => rfl)) (pe_callB call_len_seq (by rfl) T.len PySem.boot_len (pa_cons (pv 7) pa_nil)) (nomark _)) (pss_one (ps_raise rfl (takes_of rfl rfl rfl rfl) (pmk_oex TO iC tI G3 hr b3 .nil pass0 (by rfl) mgB (pa_cons (pe_meth (pv 0) TC.cl m1 G1 hr1 b1 .nil pass0 (pa_cons (pe_ix ix_list (pv 7) (pe_ix ix_list (pv 3) (pv 6) (fun _ _ => rfl)) (fun _ _ => rfl)) pa_nil)) pa_nil)))) pss_nil)))
      (pss_one (ps_ret (pv 1))))))))), ?_⟩
    have hdl : das.length = D.length := by rw [hD.l.len, hD.d.1, List.length_map]
    have hk6 := hD.k6
    refine ⟨Nat.zero_le _, fun fo hfo => ?_⟩
    have s1 := same_new (o := .lst []) hfo
    obtain ⟨ar, xr, er, hSr, hAr⟩ := (hm.same s1).r_.inv
    subst er
    have exr := tpAll_natsV hAr
    subst exr
    -- there
    refine ⟨_, rfl, p, Cl, dx, _, _, rfl, (hm.same s1).ob, TC.cl, TC.nR, hm.fR, ar, rfl, ⟨_, hSr⟩, ?_⟩
    refine lc_trues (K := K) (l := roots) (walk_tup (K := K) (a := ar) (xs := roots.map vNat)) (fun H' s' => Evl.ex_t s' hSr) (by omega) (by show 8 < 9; decide) fun D1 ps H2 s2 hD1 hD1' hP => ?_
    refine ⟨D1, ps, gk roots, rfl, SqL.of hD1', hP, fun th hth => ?_⟩
    have s3 := s2.trans (same_new (o := .dK (mergeK [] (gk roots))) hth)
    have s13 := s1.trans s3
    have hfo3 := s3 _ _ (upd_same (H := H) (a := fo) (o := .lst []))
    have hth3 : (upd H2 th (.dK (mergeK [] (gk roots)))) th = some (.dK (mergeK [] (gk roots))) := upd_same
    have frT : H th = none := (s1.trans s2).free hth
    generalize hH3 : upd H2 th (.dK (mergeK [] (gk roots))) = H3 at *
    -- done
    refine ⟨_, rfl, p, Cl, dx, _, _, rfl, (hm.same s13).ob, TC.cl, TC.nR, hm.fR, ar, rfl, ⟨_, Evl.ex_t s3 hSr⟩, fun da hda => ?_⟩
    refine lc_it (walk_tup (K := K) (a := ar) (xs := roots.map vNat)) (fun n H4 => Same H3 H4 ∧ H4 da = some (.lst ((List.replicate n 0).map vNat))) ⟨same_new hda, upd_same⟩ (fun n H4 _ q => Evl.ex_t (s3.trans q.1) hSr) ?_ ?_
    · rintro n x H4 H5 hn ⟨s4, hd4⟩ ⟨rfl, hx⟩
      rw [List.length_map] at hn
      refine ⟨rfl, _, hd4, by rw [List.length_map, List.length_replicate]; exact small1000 (by omega), Evl.Ex.mut s4 hda, ?_⟩
      rw [upd_same, List.replicate_succ', List.map_append]
      rfl
    · rintro H4 ⟨s4, hd4⟩
      rw [List.length_map] at hd4
      have s14 := s13.trans s4
      have hd4' : H4 da = some (.lst ((doneL D zero).map vNat)) := by
        have : doneL D zero = List.replicate roots.length 0 := by
          rw [hrl]
          unfold doneL
          apply List.ext_getElem?
          intro i
          rw [List.getElem?_map, List.getElem?_replicate]
          by_cases h : i < D.length
          · rw [List.getElem?_range h, if_pos h]; rfl
          · rw [List.getElem?_eq_none (by simpa using h), if_neg h]; rfl
        rw [this]
        exact hd4
      have frD : H da = none := s13.free hda
      have hfo4 := s4 _ _ hfo3
      have hth4 := s4 _ _ hth3
      have nfd : fo ≠ da := ne_of_none hfo3 hda
      have nft : fo ≠ th := ne_of hfo3 hth3 (by intro z; cases z)
      have ndt : da ≠ th := fun e => by rw [e, hth3] at hda; cases hda
      have hv0 : ∀ t : Nat, valV (mergeK [] (gk roots)) (.inl (t : Int)) = if thB W roots D zero t = true then some (.bl true) else none := fun t => by
        rw [valV_merge, thB_zero]
        by_cases h : t ∈ roots
        · rw [if_pos h, if_pos (by simpa using h)]
        · rw [if_neg h, if_neg (by simpa using h)]
          rfl
      have hml : (mergeK [] (gk roots)).length ≤ 6 := by
        have h1 := length_mergeK (gk roots) []
        have h2 : (gk roots).length = roots.length := by simp [gk]
        rw [h2, List.length_nil] at h1
        omega
      -- walker = self.next_one(done, there)
      refine ⟨_, rfl, p, dx, _, rfl, (hm.same s14).ob, hm.no _ (by decide), _, rfl, _, rfl, ?_⟩
      refine ⟨p, dx, fs, m, w', _, b, sd, M, W, roots, ws, D, ld, das, xss, da, th, zero, _, rfl, hm.same s14, hD.same s14, hd4', hth4, hv0, fun H5 s5 => ?_⟩
      have hrest : restN D zero ≤ 6000 := by
        have : ∀ n, n ≤ D.length → ((List.range n).map fun i => (rowD D i).length - zero i).sum ≤ n * 1000 := by
          intro n
          induction n with
          | zero => intro _; simp
          | succ n ih =>
            intro hn
            rw [List.range_succ, List.map_append, List.sum_append]
            have h1 := ih (by omega)
            have h2 := (hD.ok _ (rowD_mem (show n < D.length by omega))).1
            have h3 : ([n].map fun i => (rowD D i).length - zero i).sum = (rowD D n).length - zero n := by simp
            rw [h3]
            have h4 := Nat.sub_le (rowD D n).length (zero n)
            omega
        have := this D.length (Nat.le_refl _)
        unfold restN
        omega
      refine while_via (fun σ H' => ∃ dn fired f kvs y5 y6 y7, σ = [some (.ref p), some (.ref fo), some (.ref th), some (.ref da), some (vTie (nextOne W roots D dn)), y5, y6, y7, none] ∧ Goes W roots D dn ∧ Same H H' ∧
          H' fo = some (.lst ((fired.map (· + 1)).map vNat)) ∧ order W roots D = fired ++ greedy W roots D f dn ∧ restN D dn ≤ f ∧ fired.length + restN D dn = restN D zero ∧ H' th = some (.dK kvs) ∧ kvs.length ≤ 6 + fired.length ∧
          (∀ t : Nat, valV kvs (.inl (t : Int)) = if thB W roots D dn t = true then some (.bl true) else none) ∧ H' da = some (.lst ((doneL D dn).map vNat)))
        (fun σ H' => match H' fo with | some (.lst l) => 6001 - l.length | _ => 0)
        ⟨zero, [], _, _, _, _, _, rfl, .zero, s14.trans s5, s5 _ _ hfo4, rfl, Nat.le_refl _, by simp, s5 _ _ hth4, by simpa using hml, hv0, s5 _ _ hd4'⟩ ?_
      rintro σ H6 ⟨dn, fired, f, kvs, y5, y6, y7, rfl, hgo, s6, hf6, hord, hf, hlen, ht6, hkl, hv6, hd6⟩
      refine ⟨(nextOne W roots D dn).isSome, fun H' => H' = H6, fun Q' hQ' => ?_, fun H7 e7 => ?_⟩
      · have q := hQ' _ rfl
        cases e : nextOne W roots D dn with
        | none => rw [e] at q; exact ⟨_, rfl, rfl, _, rfl, q⟩
        | some i => rw [e] at q; exact ⟨_, rfl, rfl, _, rfl, q⟩
      · subst e7
        have hm6 := hm.same s6
        have hD6 := hD.same s6
        cases e : nextOne W roots D dn with
        | none =>
          have hst := nextOne_none e
          obtain ⟨k1, k2⟩ := k dn hgo hst
          refine iteF ?_
          refine ⟨_, rfl, p, Cl, dx, _, _, rfl, hm6.ob, TC.cl, TC.nD, hD.f, ld, _, rfl, SqL.of hD6.l.lst, ?_⟩
          refine for_it (walk_enum (K := K) (a := ld) (xs := das.map V.ref)) (fun i σ H8 => (∃ y6 y7, σ = [some (.ref p), some (.ref fo), some (.ref th), some (.ref da), some .non, y5, y6, y7, none]) ∧ Same H7 H8 ∧ ∀ j, j < i → decide (dn j < (rowD D j).length) = false)
            ⟨⟨_, _, rfl⟩, Same.refl _, fun j hj => absurd hj (Nat.not_lt_zero j)⟩ (fun i σ H8 _ q => SqL.of (q.2.1 _ _ hD6.l.lst)) ?_ ?_
          · rintro i x σ H8 H9 hi ⟨⟨y6', y7', rfl⟩, s8, hno⟩ ⟨T1, xv, yv, rfl, hT1, rfl, hxv, hyv⟩
            rw [List.length_map] at hi
            have hiD : i < D.length := by omega
            cases hxv
            obtain ⟨a, ha, rfl⟩ := map_get hyv
            have s79 := s8.trans (same_new (o := .tup [.int (i : Nat), V.ref a]) hT1)
            have s9 := s6.trans s79
            have hm9 := hm.same s9
            obtain ⟨a', xs, ha', hHa, hxs⟩ := (hD.same s9).row hiD
            rw [ha] at ha'
            cases ha'
            have hxl : xs.length = (rowD D i).length := by rw [hxs.1, List.length_map]
            have hda9 := s79 _ _ hd6
            refine g2_ok (SqT.of upd_same) ?_
            refine ⟨_, rfl, _, rfl, da, _, _, _, rfl, rfl, SqL.of hda9, atI_nat (get_mapV (doneL_get hiD)), _, rfl, a, _, rfl, .inl (SqL.of hHa), _, _, rfl, rfl, _, rfl, ?_⟩
            by_cases hlt : dn i < (rowD D i).length
            · rw [decide_eq_true (show (dn i : Int) < (xs.length : Nat) by omega)]
              obtain ⟨d, hd⟩ : ∃ d, (rowD D i)[dn i]? = some d := ⟨_, List.getElem?_eq_getElem hlt⟩
              obtain ⟨v, hv, hvd⟩ := hxs.get (get_map (f := dDeed) hd)
              have hDin : DeedIn W d := (hD.ok _ (rowD_mem hiD)).2 d (List.mem_of_getElem? hd)
              have hfl : firstLeft D dn = some i := find_range hno hiD (decide_eq_true hlt)
              have hE := k2 i d hfl hd
              refine iteT ⟨_, rfl, p, dx, _, rfl, hm9.ob, hm9.no _ (by decide), _, rfl, _, rfl, _, rfl, da, _, _, _, rfl, rfl, SqL.of hda9, atI_nat (get_mapV (doneL_get hiD)), a, _, _, v, rfl, rfl, SqL.of hHa, atI_nat hv, ?_⟩
              refine ⟨p, dx, fs, m, w', _, b, sd, M, W, roots, ws, v, d, rfl, hm9, hvd, hDin, ?_⟩
              refine ⟨(by show 1 ≤ 1000; decide), fun ea hea => ?_⟩
              refine ⟨ea, _, rfl, TO, upd_same, fun dxx hdx hne => ?_⟩
              refine ⟨rfl, dxx, _, upd_same, by rw [upd_ne hne, upd_same], by rw [upd_ne hne] at hdx; exact hdx, ?_⟩
              have hdx0 : (upd H8 T1 (.tup [.int (i : Nat), V.ref a])) dxx = none := by rw [upd_ne hne] at hdx; exact hdx
              refine hE _ dxx (fun bb o eb => ?_) (s9.free hdx0) upd_same
              have g9 := s9 _ _ eb
              have n1 : bb ≠ dxx := ne_of_none g9 hdx0
              have n2 : bb ≠ ea := ne_of_none g9 hea
              rw [upd_ne n1, del_ne n2, upd_ne n2, upd_ne n1, upd_ne n2]
              exact g9
            · rw [decide_eq_false (show ¬ (dn i : Int) < (xs.length : Nat) by omega)]
              refine iteF ⟨⟨_, _, rfl⟩, s79, fun j hj => ?_⟩
              rcases Nat.lt_or_ge j i with h | h
              · exact hno j h
              · have : j = i := by omega
                subst this
                exact decide_eq_false hlt
          · rintro σ H8 ⟨⟨y6', y7', rfl⟩, s8, hno⟩
            rw [List.length_map, hdl] at hno
            have hfl : firstLeft D dn = none := find_range_none hno
            have hg : greedy W roots D f dn = [] := greedy_end e
            rw [hg, List.append_nil] at hord
            refine ⟨_, rfl, k1 hfl H8 fo (s6.trans s8) hfo ?_⟩
            rw [hord]
            have := s8 _ _ hf6
            rw [List.map_map] at this
            exact this
        | some i =>
          obtain ⟨hiD, hen⟩ := nextOne_some e
          have hlt := en_lt hen
          obtain ⟨d, hd⟩ : ∃ d, (rowD D i)[dn i]? = some d := ⟨_, List.getElem?_eq_getElem hlt⟩
          obtain ⟨a, xs, ha, hHa, hxs⟩ := hD6.row hiD
          obtain ⟨v, hv, hvd⟩ := hxs.get (get_map (f := dDeed) hd)
          have hDin : DeedIn W d := (hD.ok _ (rowD_mem hiD)).2 d (List.mem_of_getElem? hd)
          obtain ⟨ds0, hds0, hd0⟩ := deed0 hvd
          obtain ⟨f', hgr, hf', hff⟩ := greedy_go e hf
          have hbr := bump_rest (dn := dn) hiD hlt
          -- deed = self.deeds[walker][done[walker]]
          refine iteT ⟨_, rfl, p, Cl, dx, _, _, rfl, hm6.ob, TC.cl, TC.nD, hD.f, _, rfl, ld, _, _, V.ref a, rfl, rfl, SqL.of hD6.l.lst, atI_nat (get_mapV ha), ?_⟩
          refine ⟨_, rfl, _, rfl, da, _, _, _, rfl, rfl, SqL.of hd6, atI_nat (get_mapV (doneL_get hiD)), a, _, _, v, rfl, rfl, SqL.of hHa, atI_nat hv, ?_⟩
          refine ⟨_, rfl, _, 0, _, hds0, rfl, hd0, fun v0 h0 => ?_⟩
          have e0 := h0.str_inv
          subst e0
          refine ⟨rfl, _, rfl, ?_⟩
          -- what follows the if
          have rest : ∀ (H8 : Hp) (kvs' : List (Key × V)), (∀ bb o, H bb = some o → H8 bb = some o) → H8 fo = some (.lst ((fired.map (· + 1)).map vNat)) → H8 th = some (.dK kvs') → kvs'.length ≤ 6 + (fired.length + 1) →
              (∀ t : Nat, valV kvs' (.inl (t : Int)) = if thB W roots D (bump dn i) t = true then some (.bl true) else none) → H8 da = some (.lst ((doneL D dn).map vNat)) →
              ∀ y5' : Option V, tSeq (tAsg (tOp (rI0 fun i j => V.int (i + j)) (tOp (rIxL K) (tVar 3) (tVar 4)) (tC (.int 1))) (gSub (tVar 3) (tVar 4) rSetL))
                (tSeq (tDrop (tBM K "list" rAppend (tVar 1) (tCons (tOp (rI0 fun i j => V.int (i + j)) (tVar 4) (tC (.int 1))) tNil))) (tAsg (tMeth Cl "next_one" (spNext K Cl) [] E0 (tVar 0) (tCons (tVar 3) (tCons (tVar 2) tNil))) (gName 4)))
                { nx := fun σ' H' => (∃ dn fired f kvs y5 y6 y7, σ' = [some (.ref p), some (.ref fo), some (.ref th), some (.ref da), some (vTie (nextOne W roots D dn)), y5, y6, y7, none] ∧ Goes W roots D dn ∧ Same H H' ∧
                    H' fo = some (.lst ((fired.map (· + 1)).map vNat)) ∧ order W roots D = fired ++ greedy W roots D f dn ∧ restN D dn ≤ f ∧ fired.length + restN D dn = restN D zero ∧ H' th = some (.dK kvs) ∧ kvs.length ≤ 6 + fired.length ∧
                    (∀ t : Nat, valV kvs (.inl (t : Int)) = if thB W roots D dn t = true then some (.bl true) else none) ∧ H' da = some (.lst ((doneL D dn).map vNat))) ∧
                    (match H' fo with | some (.lst l) => 6001 - l.length | _ => 0) < (match H7 fo with | some (.lst l) => 6001 - l.length | _ => 0), rt := Q }
                [some (.ref p), some (.ref fo), some (.ref th), some (.ref da), some (vNat i), y5', y6, y7, none] H8 := by
            intro H8 kvs' s8 hf8 ht8 hkl8 hv8 hd8 y5'
            have hdlen : i < ((doneL D dn).map vNat).length := by
              unfold doneL
              simp
              exact hiD
            refine ⟨_, rfl, _, rfl, da, _, _, _, rfl, rfl, SqL.of hd8, atI_nat (get_mapV (doneL_get hiD)), _, _, rfl, rfl, _, rfl, _, rfl, da, _, _, i, rfl, rfl, hd8, ixN_nat hdlen, ?_⟩
            have edone : ((doneL D dn).map vNat).set i (V.int ((dn i : Int) + 1)) = (doneL D (bump dn i)).map vNat := by
              apply List.ext_getElem?
              intro j
              unfold doneL
              rw [List.map_map, List.map_map, List.getElem?_set, List.getElem?_map, List.getElem?_map]
              by_cases h : i = j
              · subst h
                rw [if_pos rfl, if_pos (by simp; exact hiD), List.getElem?_range hiD]
                simp [bump, vNat]
              · rw [if_neg h]
                by_cases h2 : j < D.length
                · rw [List.getElem?_range h2]
                  have h' : ¬ j = i := fun q => h q.symm
                  simp [bump, h']
                · rw [List.getElem?_eq_none (by simpa using h2)]
                  rfl
            show tSeq _ _ _ _ (upd H8 da (.lst (((doneL D dn).map vNat).set i (V.int ((dn i : Int) + 1)))))
            rw [edone]
            have hf9 : (upd H8 da (.lst ((doneL D (bump dn i)).map vNat))) fo = some (.lst ((fired.map (· + 1)).map vNat)) := by rw [upd_ne nfd]; exact hf8
            refine ⟨_, rfl, .inl ⟨rfl, _, SqL.of hf9⟩, _, rfl, _, _, rfl, rfl, fo, _, vNat (i + 1), rfl, rfl, hf9, ?_, ?_⟩
            · rw [List.length_map, List.length_map]
              exact Nat.lt_of_le_of_lt (show fired.length ≤ 6000 by omega) (by decide)
            · have efi : ((fired.map (· + 1)).map vNat) ++ [vNat (i + 1)] = (((fired ++ [i]).map (· + 1)).map vNat) := by
                simp
              rw [efi]
              generalize hH9 : upd (upd H8 da (.lst ((doneL D (bump dn i)).map vNat))) fo (.lst (((fired ++ [i]).map (· + 1)).map vNat)) = H9
              have s9 : Same H H9 := fun bb o eb => by
                rw [← hH9, upd_ne (ne_of_none eb hfo), upd_ne (ne_of_none eb frD)]
                exact s8 bb o eb
              have hf10 : H9 fo = some (.lst (((fired ++ [i]).map (· + 1)).map vNat)) := by rw [← hH9]; exact upd_same
              have ht10 : H9 th = some (.dK kvs') := by rw [← hH9, upd_ne nft.symm, upd_ne ndt.symm]; exact ht8
              have hd10 : H9 da = some (.lst ((doneL D (bump dn i)).map vNat)) := by rw [← hH9, upd_ne nfd.symm, upd_same]
              refine ⟨_, rfl, p, dx, _, rfl, (hm.same s9).ob, hm.no _ (by decide), _, rfl, _, rfl, ?_⟩
              refine ⟨p, dx, fs, m, w', _, b, sd, M, W, roots, ws, D, ld, das, xss, da, th, bump dn i, kvs', rfl, hm.same s9, hD.same s9, hd10, ht10, hv8, fun H10 s10 => ?_⟩
              refine ⟨⟨bump dn i, fired ++ [i], f', kvs', _, _, _, rfl, .fire hgo hiD hen, s9.trans s10, s10 _ _ hf10, ?_, hf', ?_, s10 _ _ ht10, by rw [List.length_append]; exact hkl8, hv8, s10 _ _ hd10⟩, ?_⟩
              · rw [hord, hgr, List.append_assoc]
                rfl
              · rw [List.length_append, List.length_singleton]
                omega
              · show (match H10 fo with | some (.lst l) => 6001 - l.length | _ => 0) < (match H7 fo with | some (.lst l) => 6001 - l.length | _ => 0)
                rw [s10 _ _ hf10, hf6]
                show 6001 - (((fired ++ [i]).map (· + 1)).map vNat).length < 6001 - ((fired.map (· + 1)).map vNat).length
                rw [List.length_map, List.length_map, List.length_map, List.length_map, List.length_append, List.length_singleton]
                omega
          have hval_not : gv W d = none → ∀ t : Nat, valV kvs (.inl (t : Int)) = if thB W roots D (bump dn i) t = true then some (.bl true) else none := fun hg t => by
            rw [hv6 t, thB_bump hiD hd t, hg]
            simp
          cases d with
          | down x c =>
            rw [show decide (V.str (kindD (.down x c)) = V.str "down") = true from by unfold kindD; simp]
            obtain ⟨t0, ht0⟩ := hDin.2.2
            refine iteT ⟨_, rfl, _, rfl, p, dx, _, rfl, hm6.ob, hm6.no _ (by decide), _, rfl, p, dx, fs, m, w', _, b, sd, M, W, roots, ws, v, _, rfl, hm6, hvd, hDin, ?_⟩
            have et : vTie (tieD W (.down x c)) = kV (.inl (t0 : Int)) := by show vTie (tieAt W x c) = _; rw [ht0]; rfl
            rw [et]
            refine ⟨th, _, rfl, DPut.k (k := Sum.inl (t0 : Int)) ht6 (Nat.lt_of_le_of_lt (show kvs.length ≤ 6 + 6000 by omega) (by decide)), ?_⟩
            refine rest _ (putK kvs (.inl (t0 : Int)) (.bl true)) (fun bb o eb => by rw [upd_ne (ne_of_none eb frT)]; exact s6 bb o eb) (by rw [upd_ne nft]; exact hf6) upd_same ?_ ?_ (by rw [upd_ne ndt]; exact hd6) _
            · have : (putK kvs (.inl (t0 : Int)) (V.bl true)).length ≤ kvs.length + 1 := by
                unfold putK
                split <;> simp
              omega
            · intro t
              rw [valV_putN, hv6 t, thB_bump hiD hd t]
              have hg : gv W (.down x c) = some t0 := ht0
              rw [hg]
              by_cases h : t = t0
              · subst h; simp
              · have h' : ¬ t0 = t := fun z => h z.symm
                simp [h, h']
          | skip x c =>
            rw [show decide (V.str (kindD (.skip x c)) = V.str "down") = false from by show decide (V.str "skip" = V.str "down") = false; decide +kernel]
            exact iteF (rest _ kvs s6 hf6 ht6 (by omega) (hval_not rfl) hd6 _)
          | up x =>
            rw [show decide (V.str (kindD (.up x)) = V.str "down") = false from by show decide (V.str "up" = V.str "down") = false; decide +kernel]
            exact iteF (rest _ kvs s6 hf6 ht6 (by omega) (hval_not rfl) hd6 _)
          | stop x =>
            rw [show decide (V.str (kindD (.stop x)) = V.str "down") = false from by show decide (V.str "stop" = V.str "down") = false; decide +kernel]
            exact iteF (rest _ kvs s6 hf6 ht6 (by omega) (hval_not rfl) hd6 _)
end
end Tb
end
section
set_option Elab.async false
set_option linter.all false
set_option maxRecDepth 100000
set_option maxHeartbeats 4000000
/-! Moment: __init__. -/
namespace Tb
open PySem PySem.Spec PyProof.Rows L2
/-! ### attributes by name -/
theorem lookup_zip : ∀ {ns : List Str} {vs : List V} {k : Nat} {x : Str} {y : V}, ns.Nodup → ns[k]? = some x → vs[k]? = some y → (ns.zip vs).lookup x = some y
  | [], _, _, _, _, _, h, _ => by simp at h
  | _ :: _, [], _, _, _, _, _, h => by simp at h
  | n :: ns, v :: vs, 0, x, y, _, h1, h2 => by
    simp at h1 h2
    subst h1; subst h2
    rw [List.zip_cons_cons, lookup_put, if_pos rfl]
  | n :: ns, v :: vs, k + 1, x, y, nd, h1, h2 => by
    have nd' := List.nodup_cons.mp nd
    simp at h1 h2
    have hx : ¬ x = n := fun e => nd'.1 (e ▸ List.mem_of_getElem? h1)
    rw [List.zip_cons_cons, lookup_put, if_neg hx]
    exact lookup_zip nd'.2 h1 h2
theorem lookup_zip_none : ∀ {ns : List Str} {vs : List V} {x : Str}, x ∉ ns → (ns.zip vs).lookup x = none
  | [], _, _, _ => rfl
  | _ :: _, [], _, _ => rfl
  | n :: ns, v :: vs, x, h => by
    rw [List.zip_cons_cons, lookup_put, if_neg (fun e => h (by rw [e]; simp))]
    exact lookup_zip_none fun e => h (List.mem_cons_of_mem _ e)
theorem putF_zip : ∀ {ns : List Str} {vs : List V} {x : Str} {y : V}, ns.Nodup → ns[vs.length]? = some x → putF x y (ns.zip vs) = ns.zip (vs ++ [y])
  | [], _, _, _, _, h => by simp at h
  | n :: ns, [], x, y, _, h => by
    simp at h
    subst h
    simp [putF]
  | n :: ns, v :: vs, x, y, nd, h => by
    have nd' := List.nodup_cons.mp nd
    simp at h
    have hx : ¬ n = x := fun e => nd'.1 (e ▸ List.mem_of_getElem? h)
    rw [List.cons_append, List.zip_cons_cons, List.zip_cons_cons]
    show (if n = x then _ else (n, v) :: putF x y (ns.zip vs)) = _
    rw [if_neg hx, putF_zip nd'.2 h]
def fN : List Str := ["own_marks", "ways", "own_roots", "own_web", "stays", "seen", "deeds"]
theorem fN_nd : fN.Nodup := by unfold fN; decide +kernel
theorem fN_m : ∀ x, x ∈ mNames → x ∉ fN := by unfold mNames fN; decide +kernel
theorem moP_of {K : PySem.W.Frag} {H : Hp} {C p dx : Addr} {m : V} {w : Addr} {r b : V} {s : Addr} {M : List Nat} {W : Web} {roots : List Nat} {ws : List (List Nat)} {more : List V} (ob : H p = some (.ins C dx (fN.zip (m :: .ref w :: r :: b :: .ref s :: more))))
    (m_ : Tp K H m (dNats M)) (w_ : ∃ ys, H w = some (.lst ys) ∧ TpAll K H ys (ws.map dNats)) (r_ : Tp K H r (dNats roots)) (b_ : Tp K H b (dWeb W)) (s_ : ∃ kvs : List (Key × V), H s = some (.dK kvs) ∧ ∀ x : Nat, valV kvs (.inl (x : Int)) = if x ∈ ws.flatten then some (.bl true) else none) :
    MoP K H C p dx (fN.zip (m :: .ref w :: r :: b :: .ref s :: more)) m w r b s M W roots ws where
  ob := ob
  fM := lookup_zip (k := 0) fN_nd rfl rfl
  fW := lookup_zip (k := 1) fN_nd rfl rfl
  fR := lookup_zip (k := 2) fN_nd rfl rfl
  fB := lookup_zip (k := 3) fN_nd rfl rfl
  fS := lookup_zip (k := 4) fN_nd rfl rfl
  no := fun x hx => lookup_zip_none (fN_m x hx)
  m_ := m_
  w_ := w_
  r_ := r_
  b_ := b_
  s_ := s_
theorem MoP.put {K : PySem.W.Frag} {H : Hp} {C p dx : Addr} {m : V} {w : Addr} {r b : V} {s : Addr} {M : List Nat} {W : Web} {roots : List Nat} {ws : List (List Nat)} {more : List V} (h : MoP K H C p dx (fN.zip (m :: .ref w :: r :: b :: .ref s :: more)) m w r b s M W roots ws) (y : V) :
    MoP K (upd H p (.ins C dx (fN.zip (m :: .ref w :: r :: b :: .ref s :: (more ++ [y]))))) C p dx (fN.zip (m :: .ref w :: r :: b :: .ref s :: (more ++ [y]))) m w r b s M W roots ws := by
  have kk : Keep K H (upd H p (.ins C dx (fN.zip (m :: .ref w :: r :: b :: .ref s :: (more ++ [y]))))) := keep_upd h.ob rfl
  obtain ⟨ys, hw, hys⟩ := h.w_
  obtain ⟨kvs, hs, hv⟩ := h.s_
  have nw : w ≠ p := ne_of hw h.ob (by intro z; cases z)
  have ns : s ≠ p := ne_of hs h.ob (by intro z; cases z)
  exact moP_of upd_same (h.m_.mono kk) ⟨ys, by rw [upd_ne nw]; exact hw, hys.mono kk⟩ (h.r_.mono kk) (h.b_.mono kk) ⟨kvs, by rw [upd_ne ns]; exact hs, hv⟩
theorem flat_take {α : Type} (L : List (List α)) (i : Nat) : (L.take i).flatten.length ≤ L.flatten.length := by
  have e : L.flatten = (L.take i).flatten ++ (L.drop i).flatten := by rw [← List.flatten_append, List.take_append_drop]
  rw [e, List.length_append]
  omega
theorem merge_gk : ∀ {l G : List Nat}, (G ++ l).Nodup → mergeK (gk G) (gk l) = gk (G ++ l)
  | [], G, _ => by rw [List.append_nil]; rfl
  | x :: l, G, h => by
    have hx : x ∉ G := fun hm => (List.nodup_append.mp h).2.2 x hm x (by simp) rfl
    have e : mergeK (gk G) (gk (x :: l)) = mergeK (putK (gk G) (.inl (x : Int)) (.bl true)) (gk l) := rfl
    rw [e, putK_gk hx, merge_gk (by simpa using h)]
    simp
/-- what a Moment is made of, told by the plain going -/
structure MomIn (W0 W : Web) (M C : List Nat) (hs : List Spot) (roots : List Nat) (Ss : List (List (Nat × Nat))) (Rs : List (List (Deed × Wk))) : Prop where
  n60 : W.length ≤ 60
  W0l : W0.length = W.length
  hl : hs.length = Ss.length
  h6 : hs.length ≤ 6
  rl : roots.length = Ss.length
  Rl : Rs.length = Ss.length
  Ml : M.length = W.length
  Cl : C.length = W.length
  r8 : ∀ x, (rowAt W x).length ≤ 8
  T : TiesIn W
  back : ∀ (i : Nat) S r, Ss[i]? = some S → roots[i]? = some r → BackIn W0 M C hs i r S
  rts : ∀ (i : Nat) way h r, (Ss.map wayOf)[i]? = some way → hs[i]? = some h → roots[i]? = some r → (way = [] → h = .root r) ∧ (way ≠ [] → way[0]? = some r)
  ok : ∀ way, way ∈ Ss.map wayOf → ∀ q, q ∈ prs way → q.1 < W0.length ∧ q.1 < C.length ∧ C.getD q.1 0 < (rowAt W0 q.1).length
  fold : ((Ss.map wayOf).map prs).flatten.foldl (upf C) W0 = W
  cnt : ∀ x, x < C.length → C.getD x 0 ≠ 0 → x ∈ (Ss.map wayOf).flatten
  closed : ∀ x c t, x < W.length → c < seenV W M C (Ss.map wayOf) x → tieAt W x c = some t → t < M.length ∧ M.getD t 0 ≠ 0
  db : ∀ (i : Nat) r S R, roots[i]? = some r → Ss[i]? = some S → Rs[i]? = some R → DB W M (i + 1) r R (Ss.map wayOf).flatten ((List.range W.length).map (seenV W M C (Ss.map wayOf))) (wayOf S)
  flen : (Ss.map wayOf).flatten.length ≤ 1000
def deedsOf (Rs : List (List (Deed × Wk))) : List (List Deed) := Rs.map fun R => R.map (·.1)
theorem step_in {W : Web} {M : List Nat} {me root : Nat} {s s' : Wk} {d : Deed} (I : WInv W M me root s) (h : step W M me s = some (d, s')) : DeedIn W d := by
  obtain ⟨S, G⟩ := s
  cases S with
  | nil => simp [step] at h
  | cons top R =>
    obtain ⟨x, c⟩ := top
    have hx := (I.own x (I.sub (x, c) (by simp))).2
    have hc := I.cnt (x, c) (by simp)
    simp only at hc
    by_cases e : c = (rowAt W x).length
    · cases R with
      | nil =>
        simp [step, e] at h
        rw [← h.1]
        trivial
      | cons y R =>
        simp [step, e] at h
        rw [← h.1]
        trivial
    · have hlt : c < (rowAt W x).length := by omega
      simp only [step, if_neg e] at h
      cases ht : tieAt W x c with
      | none =>
        rw [ht] at h
        simp at h
        rw [← h.1]
        exact ⟨hx, hlt⟩
      | some t =>
        rw [ht] at h
        simp only at h
        split at h
        · cases h
          exact ⟨hx, hlt⟩
        · cases h
          exact ⟨hx, hlt, t, ht⟩
theorem chain_in {W : Web} {M : List Nat} {me root : Nat} (T : TiesIn W) : ∀ {R : List (Deed × Wk)} {s : Wk}, WInv W M me root s → Chain W M me s R → ∀ q, q ∈ R → DeedIn W q.1
  | [], _, _, _, _, h => by cases h
  | p :: R, s, I, c, q, h => by
    rcases List.mem_cons.mp h with e | h
    · rw [e]
      exact step_in I c.1
    · exact chain_in T (inv_step T I c.1) c.2 q h
def spMInit (K : PySem.W.Frag) (Cl : Addr) : Sp := fun vs H Q _ => ∃ p dx v W0 W M C hs roots Ss Rs, vs = [.ref p, v] ∧ H p = some (.ins Cl dx []) ∧ Tp K H v (dState W0 M C hs) ∧ MomIn W0 W M C hs roots Ss Rs ∧
  ∀ H' fs m w r b s ld das xss, (∀ b o, H b = some o → b ≠ p → H' b = some o) → MoP K H' Cl p dx fs m w r b s M W roots (Ss.map wayOf) → DsA K H' fs W (deedsOf Rs) ld das xss → Q .non H'
section
variable {P : Program} {w : World} {K : PySem.W.Frag} {mg : Str → Option Value} {base : Heap}
abbrev nMInit : List Str := ["self", "state", "ties", "counts", "heres", "way", "node", "walker"]
theorem scMInit : FnScope nMInit ["self", "state"] (defScope sMInit) := ⟨rfl, rfl, rfl, by decide +kernel, rfl, by decide +kernel, by decide +kernel⟩
theorem ok_minit {f fW fR fB fS fC fK fD Cl : Addr} {fd fdW fdR fdB fdS fdC fdK fdD : FuncData} (F : Fun K "__init__" "Moment.__init__" sMInit f fd) (T : Bt mg) (TC : MoC K mg Cl)
    (GW : FnOk P w K mg base CX0 3 fW fdW ["state"] (spWays K)) (DW : Dn K mg "all_ways" fW fdW ["state"]) (GR : FnOk P w K mg base CX0 1 fR fdR ["state", "ways"] (spRoots K)) (DR : Dn K mg "roots_by" fR fdR ["state", "ways"])
    (GB : FnOk P w K mg base CX0 1 fB fdB ["state", "ways"] (spWebBy K)) (DB_ : Dn K mg "web_by" fB fdB ["state", "ways"])
    (GS : FnOk P w K mg base CX0 1 fS fdS ["self", "counts", "node"] (spSeen K Cl)) (bS : Binds K fdS ["self", "counts", "node"] []) (mS : Meth K Cl "seen_of" fS)
    (GC : FnOk P w K mg base CX0 1 fC fdC ["self", "counts"] (spNeedC K Cl)) (bC : Binds K fdC ["self", "counts"] []) (mC : Meth K Cl "need_counts" fC)
    (GK : FnOk P w K mg base CX0 1 fK fdK ["self"] (spClosed K Cl)) (bK : Binds K fdK ["self"] []) (mK : Meth K Cl "need_closed" fK)
    (GD : FnOk P w K mg base CX0 2 fD fdD ["self", "walker"] (spDB K Cl)) (bD : Binds K fdD ["self", "walker"] []) (mD : Meth K Cl "deeds_by" fD) :
    FnOk P w K mg base CX0 4 f fd ["self", "state"] (spMInit K Cl) := by
  refine F.ok scMInit (fun vs H Q E h => ?_) (fun cdv A outer s H vs Q E hr h => ?_)
  · obtain ⟨p, dx, v, W0, W, M, C, hs, roots, Ss, Rs, rfl, _⟩ := h
    rfl
  · obtain ⟨p, dx, v, W0, W, M, C, hs, roots, Ss, Rs, rfl, hp, hv, B, k⟩ := h
    have hr1 := hr.mono (by decide : 1 ≤ 3)
    have hr2 := hr.mono (by decide : 2 ≤ 3)
    refine ⟨_, (pss_cons (ps_asg (pv 1) (pg_tup rfl (pgs_cons (pg_name (i := 2) scMInit.nd rfl (Or.inl rfl)) (pgs_cons (pg_fld (pv 0)) (pgs_cons (pg_name (i := 3) scMInit.nd rfl (Or.inr rfl)) (pgs_cons (pg_name (i := 4) scMInit.nd rfl (Or.inl rfl)) pgs_nil))))))
      (pss_cons (ps_fld (pv 0) (pe_call GW hr (by rfl) DW.mgf DW.kp DW.b .nil pass0 (pa_cons (pv 1) pa_nil)) rfl)
      (pss_cons (ps_fld (pv 0) (pe_call GR hr1 (by rfl) DR.mgf DR.kp DR.b .nil pass0 (pa_cons (pv 1) (pa_cons (pe_fld (pv 0) rfl) pa_nil))) rfl)
      (pss_cons (ps_fld (pv 0) (pe_call GB hr1 (by rfl) DB_.mgf DB_.kp DB_.b .nil pass0 (pa_cons (pv 1) (pa_cons (pe_fld (pv 0) rfl) pa_nil))) rfl)
      (pss_cons (ps_fld (pv 0) pe_dnewK rfl)
      (pss_cons (ps_for PassesOwn.never rfl (pi_list (pe_fld (pv 0) rfl)) (pg_name (i := 5) scMInit.nd rfl (Or.inl rfl)) (pss_one (ps_expr (pe_bm PySem.F.plainAttrs_dict PySem.F.slot_dict_update PySem.F.type_dict_update mtd_update (pe_fld (pv 0) rfl) (pa_cons (pe_callTy (call_dictP rfl) (by rfl) T.dict (by decide +kernel) (pa_cons (pe_lc (own := [("node", 6)]) (g := (gName 6)) (tt := tYes) rfl scMInit.nd ((pi_tup) (pv 5)) (blkOk_by (N := nMInit) (sc := defScope sMInit) (by decide +kernel)) (fun _ _ _ _ _ => (pg_name (i := 6) scMInit.nd rfl (Or.inl rfl))) (fun _ _ _ _ _ => pts_nil) (fun _ _ _ _ _ => (pe_tup (pa_cons (pv 6) (pa_cons pe_bl pa_nil))))) pa_nil)) pa_nil)))))
      (pss_cons (ps_fld (pv 0) (pe_lc (own := [("node", 6)]) (g := (gName 6)) (tt := tYes) rfl scMInit.nd (pi_range1 rfl T.range (pa_cons (pe_callB (call_lenT K) (by rfl) T.len PySem.boot_len (pa_cons (pv 2) pa_nil)) pa_nil)) (blkOk_by (N := nMInit) (sc := defScope sMInit) (by decide +kernel)) (fun _ _ _ _ _ => (pg_name (i := 6) scMInit.nd rfl (Or.inl rfl))) (fun _ _ _ _ _ => pts_nil) (fun _ _ _ _ _ => (pe_meth (pv 0) TC.cl mS GS hr1 bS .nil pass0 (pa_cons (pv 3) (pa_cons (pv 6) pa_nil))))) rfl)
      (pss_cons (ps_expr (pe_meth (pv 0) TC.cl mC GC hr1 bC .nil pass0 (pa_cons (pv 3) pa_nil)))
      (pss_cons (ps_expr (pe_meth0 (pv 0) TC.cl mK GK hr1 bK .nil pass0))
      (pss_one (ps_fld (pv 0) (pe_lc (own := [("walker", 7)]) (g := (gName 7)) (tt := tYes) rfl scMInit.nd (pi_range2 rfl T.range (pa_cons pe_int (pa_cons (pe_op op_add (pe_callB (call_lenT K) (by rfl) T.len PySem.boot_len (pa_cons (pv 4) pa_nil)) pe_int) pa_nil))) (blkOk_by (N := nMInit) (sc := defScope sMInit) (by decide +kernel)) (fun _ _ _ _ _ => (pg_name (i := 7) scMInit.nd rfl (Or.inl rfl))) (fun _ _ _ _ _ => pts_nil) (fun _ _ _ _ _ => (pe_meth (pv 0) TC.cl mD GD hr2 bD .nil pass0 (pa_cons (pv 7) pa_nil)))) rfl))))))))))), ?_⟩
    obtain ⟨a, x1, x2, x3, x4, rfl, hS, h1, h2, h3, h4⟩ := tp_state hv
    refine ⟨_, rfl, a, _, rfl, hS, rfl, _, _, rfl, _, _, rfl, _, rfl, p, Cl, dx, [], rfl, hp, TC.cl, TC.nM, (by show 0 < 1000; decide), _, _, rfl, _, _, rfl, rfl, ?_⟩
    -- self.ways
    have K1 : Keep K H (upd H p (.ins Cl dx (putF "own_marks" x2 []))) := keep_upd hp rfl
    have P1 : (upd H p (.ins Cl dx (putF "own_marks" x2 []))) p = some (.ins Cl dx (fN.zip [x2])) := upd_same
    have F1 : ∀ bb o, H bb = some o → bb ≠ p → (upd H p (.ins Cl dx (putF "own_marks" x2 []))) bb = some o := fun bb o e n => by rw [upd_ne n]; exact e
    generalize upd H p (.ins Cl dx (putF "own_marks" x2 [])) = H1 at *
    refine ⟨_, rfl, .ref a, W0, M, C, hs, roots, Ss, rfl, hv.mono K1, B.hl, B.h6, B.rl, B.back, fun H2 lw ys s2 hlw hlw2 hys => ?_⟩
    have nlp : lw ≠ p := (ne_of_none P1 hlw).symm
    refine ⟨_, rfl, p, Cl, dx, fN.zip [x2], rfl, s2 _ _ P1, TC.cl, TC.nW, (by show 1 < 1000; decide), ?_⟩
    rw [putF_zip fN_nd rfl]
    have K3 : Keep K H2 (upd H2 p (.ins Cl dx (fN.zip ([x2] ++ [.ref lw])))) := keep_upd (s2 _ _ P1) rfl
    have P3 : (upd H2 p (.ins Cl dx (fN.zip ([x2] ++ [.ref lw])))) p = some (.ins Cl dx (fN.zip [x2, .ref lw])) := upd_same
    have F3 : ∀ bb o, H bb = some o → bb ≠ p → (upd H2 p (.ins Cl dx (fN.zip ([x2] ++ [.ref lw])))) bb = some o := fun bb o e n => by rw [upd_ne n]; exact s2 _ _ (F1 _ _ e n)
    have L3 : (upd H2 p (.ins Cl dx (fN.zip ([x2] ++ [.ref lw])))) lw = some (.lst ys) := by rw [upd_ne nlp]; exact hlw2
    have K03 := (K1.trans (keep_same s2)).trans K3
    have Y3 := hys.mono K3
    generalize upd H2 p (.ins Cl dx (fN.zip ([x2] ++ [.ref lw]))) = H3 at *
    have hwl : (Ss.map wayOf).length = Ss.length := by simp
    have hhl := B.hl
    have hh6 := B.h6
    have hrl := B.rl
    -- self.own_roots
    refine ⟨_, rfl, _, rfl, p, Cl, dx, _, _, rfl, P3, TC.cl, TC.nW, lookup_zip (k := 1) fN_nd rfl rfl, ?_⟩
    refine ⟨.ref a, lw, W0, M, C, hs, ys, Ss.map wayOf, roots, rfl, hv.mono K03, L3, Y3, by omega, by omega, by omega, B.rts, fun r H4 s4 hr4 => ?_⟩
    refine ⟨_, rfl, p, Cl, dx, _, rfl, s4 _ _ P3, TC.cl, TC.nR, (by show 2 < 1000; decide), ?_⟩
    rw [putF_zip fN_nd rfl]
    have K5 : Keep K H4 (upd H4 p (.ins Cl dx (fN.zip ([x2, .ref lw] ++ [r])))) := keep_upd (s4 _ _ P3) rfl
    have P5 : (upd H4 p (.ins Cl dx (fN.zip ([x2, .ref lw] ++ [r])))) p = some (.ins Cl dx (fN.zip [x2, .ref lw, r])) := upd_same
    have F5 : ∀ bb o, H bb = some o → bb ≠ p → (upd H4 p (.ins Cl dx (fN.zip ([x2, .ref lw] ++ [r])))) bb = some o := fun bb o e n => by rw [upd_ne n]; exact s4 _ _ (F3 _ _ e n)
    have L5 : (upd H4 p (.ins Cl dx (fN.zip ([x2, .ref lw] ++ [r])))) lw = some (.lst ys) := by rw [upd_ne nlp]; exact s4 _ _ L3
    have K05 := (K03.trans (keep_same s4)).trans K5
    have Y5 := (Y3.mono (keep_same s4)).mono K5
    have R5 := hr4.mono K5
    generalize upd H4 p (.ins Cl dx (fN.zip ([x2, .ref lw] ++ [r]))) = H5 at *
    -- self.own_web
    refine ⟨_, rfl, _, rfl, p, Cl, dx, _, _, rfl, P5, TC.cl, TC.nW, lookup_zip (k := 1) fN_nd rfl rfl, ?_⟩
    refine ⟨.ref a, lw, W0, M, C, hs, ys, Ss.map wayOf, rfl, hv.mono K05, L5, Y5, by omega, by rw [B.W0l]; exact B.n60, B.ok, fun b H6 s6 hb6 => ?_⟩
    rw [B.fold] at hb6
    refine ⟨_, rfl, p, Cl, dx, _, rfl, s6 _ _ P5, TC.cl, TC.nB, (by show 3 < 1000; decide), ?_⟩
    rw [putF_zip fN_nd rfl]
    have K7 : Keep K H6 (upd H6 p (.ins Cl dx (fN.zip ([x2, .ref lw, r] ++ [b])))) := keep_upd (s6 _ _ P5) rfl
    have P7 : (upd H6 p (.ins Cl dx (fN.zip ([x2, .ref lw, r] ++ [b])))) p = some (.ins Cl dx (fN.zip [x2, .ref lw, r, b])) := upd_same
    have F7 : ∀ bb o, H bb = some o → bb ≠ p → (upd H6 p (.ins Cl dx (fN.zip ([x2, .ref lw, r] ++ [b])))) bb = some o := fun bb o e n => by rw [upd_ne n]; exact s6 _ _ (F5 _ _ e n)
    have L7 : (upd H6 p (.ins Cl dx (fN.zip ([x2, .ref lw, r] ++ [b])))) lw = some (.lst ys) := by rw [upd_ne nlp]; exact s6 _ _ L5
    have K07 := (K05.trans (keep_same s6)).trans K7
    have Y7 := (Y5.mono (keep_same s6)).mono K7
    have R7 := (R5.mono (keep_same s6)).mono K7
    have B7 := hb6.mono K7
    generalize upd H6 p (.ins Cl dx (fN.zip ([x2, .ref lw, r] ++ [b]))) = H7 at *
    -- self.stays = {}
    intro sd hsd
    have nsp : sd ≠ p := (ne_of_none P7 hsd).symm
    refine ⟨_, rfl, p, Cl, dx, _, rfl, same_new hsd _ _ P7, TC.cl, TC.nS, (by show 4 < 1000; decide), ?_⟩
    rw [putF_zip fN_nd rfl]
    have P8 : (upd (upd H7 sd (.dK [])) p (.ins Cl dx (fN.zip ([x2, .ref lw, r, b] ++ [.ref sd])))) p = some (.ins Cl dx (fN.zip (x2 :: .ref lw :: r :: b :: .ref sd :: []))) := upd_same
    have K8 : Keep K H7 (upd (upd H7 sd (.dK [])) p (.ins Cl dx (fN.zip ([x2, .ref lw, r, b] ++ [.ref sd])))) := (keep_new hsd).trans (keep_upd (same_new hsd _ _ P7) rfl)
    have F8' : ∀ bb o, H7 bb = some o → bb ≠ p → (upd (upd H7 sd (.dK [])) p (.ins Cl dx (fN.zip ([x2, .ref lw, r, b] ++ [.ref sd])))) bb = some o := fun bb o e n => by rw [upd_ne n]; exact same_new hsd _ _ e
    have D8 : (upd (upd H7 sd (.dK [])) p (.ins Cl dx (fN.zip ([x2, .ref lw, r, b] ++ [.ref sd])))) sd = some (.dK []) := by rw [upd_ne nsp, upd_same]
    have F8 : ∀ bb o, H bb = some o → bb ≠ p → (upd (upd H7 sd (.dK [])) p (.ins Cl dx (fN.zip ([x2, .ref lw, r, b] ++ [.ref sd])))) bb = some o := fun bb o e n => F8' _ _ (F7 _ _ e n) n
    have L8 := F8' _ _ L7 nlp
    have K08 := K07.trans K8
    have Y8 := Y7.mono K8
    have R8 := R7.mono K8
    have B8 := B7.mono K8
    have frS : ∀ bb o, H bb = some o → bb ≠ p → bb ≠ sd := fun bb o e n z => by
      have := F7 _ _ e n
      rw [z, hsd] at this
      cases this
    generalize upd (upd H7 sd (.dK [])) p (.ins Cl dx (fN.zip ([x2, .ref lw, r, b] ++ [.ref sd]))) = H8 at *
    have nls : lw ≠ sd := ne_of L8 D8 (by intro z; cases z)
    -- the loop
    have hyl : ys.length = Ss.length := by rw [Y8.1]; simp
    refine ⟨_, rfl, p, Cl, dx, _, _, rfl, P8, TC.cl, TC.nW, lookup_zip (k := 1) fN_nd rfl rfl, lw, rfl, ⟨_, SqL.of L8⟩, ?_⟩
    refine for_it (walk_list (K := K) (a := lw) (xs := ys)) (fun i σ H9 => ∃ y5 kvs, σ = [some (.ref p), some (.ref a), some x1, some x3, some x4, y5, none, none] ∧ (∀ bb o, H8 bb = some o → bb ≠ sd → H9 bb = some o) ∧ Keep K H8 H9 ∧ H9 sd = some (.dK kvs) ∧
        kvs.length ≤ (((Ss.map wayOf).take i).flatten).length ∧ ∀ t : Nat, valV kvs (.inl (t : Int)) = if t ∈ ((Ss.map wayOf).take i).flatten then some (.bl true) else none)
      ⟨_, [], rfl, fun _ _ e _ => e, Keep.refl _, D8, Nat.zero_le _, fun t => by simp [valV_nil]⟩ (fun i σ H9 _ q => by obtain ⟨_, _, _, f9, _⟩ := q; exact SqL.of (f9 _ _ L8 nls)) ?_ ?_
    · rintro i x σ H9 H10 hi ⟨y5, kvs, rfl, f9, k9, d9, kl9, v9⟩ ⟨rfl, hx⟩
      obtain ⟨d, hd, hxd⟩ := Y8.turn hx
      obtain ⟨way, hway, rfl⟩ := map_get hd
      have hx9 := hxd.mono k9
      obtain ⟨aw, xw, rfl, hSw, hAw⟩ := hx9.inv
      have exw := tpAll_natsV hAw
      subst exw
      have P9 := f9 _ _ P8 nsp.symm
      have hnd : way.Nodup := by
        obtain ⟨S, hS', rfl⟩ := map_get hway
        obtain ⟨rr, hrr⟩ : ∃ rr, roots[i]? = some rr := ⟨roots[i]'(by have := (List.getElem?_eq_some_iff.mp hS').1; omega), List.getElem?_eq_getElem _⟩
        have := (B.back i S rr hS' hrr).nd
        unfold wayOf
        exact (List.reverse_perm _).nodup_iff.mpr this
      have hwlen : way.length ≤ (Ss.map wayOf).flatten.length := by
        have hmem := List.mem_of_getElem? hway
        exact List.Sublist.length_le (List.sublist_flatten_of_mem hmem)
      have hfl := B.flen
      refine ⟨_, rfl, p, Cl, dx, _, _, rfl, P9, TC.cl, TC.nS, lookup_zip (k := 4) fN_nd rfl rfl, .inr (.inr (.inl ⟨rfl, .inl ⟨kvs, d9⟩⟩)), ?_⟩
      refine ⟨_, rfl, aw, rfl, ⟨_, hSw⟩, ?_⟩
      refine lc_trues (K := K) (l := way) (walk_tup (K := K) (a := aw) (xs := way.map vNat)) (fun H' s' => Evl.ex_t s' hSw) ?_ (by show 6 < 8; decide) fun D1 ps H11 s11 hD1 hD1' hP => ?_
      · have h60 := B.n60
        obtain ⟨S, hS', rfl⟩ := map_get hway
        obtain ⟨rr, hrr⟩ : ∃ rr, roots[i]? = some rr := ⟨roots[i]'(by have := (List.getElem?_eq_some_iff.mp hS').1; omega), List.getElem?_eq_getElem _⟩
        have := (B.back i S rr hS' hrr).len
        unfold wayOf
        rw [List.length_reverse, List.length_map]
        omega
      · refine ⟨D1, ps, gk way, rfl, SqL.of hD1', hP, fun q hq => ?_⟩
        have emg : mergeK [] (gk way) = gk way := by
          have := merge_gk (l := way) (G := []) (by simpa using hnd)
          simpa [gk] using this
        rw [emg]
        have d11 := s11 _ _ d9
        have nsq : sd ≠ q := ne_of_none d11 hq
        have gl : (gk way).length = way.length := by simp [gk]
        have kfl : kvs.length ≤ (Ss.map wayOf).flatten.length := Nat.le_trans kl9 (flat_take _ _)
        refine ⟨sd, q, kvs, gk way, rfl, rfl, same_new hq _ _ d11, upd_same, nsq, Nat.le_trans (show kvs.length + (gk way).length ≤ 2000 by omega) (by decide), ?_⟩
        have d12 := same_new (o := .dK (gk way)) hq _ _ d11
        have etk : (Ss.map wayOf).take (i + 1) = (Ss.map wayOf).take i ++ [way] := by rw [List.take_add_one, hway]; rfl
        refine ⟨_, mergeK kvs (gk way), rfl, fun bb o e n => ?_, (k9.trans (keep_same s11)).trans ((keep_new hq).trans (keep_upd d12 rfl)), upd_same, ?_, fun t => ?_⟩
        · rw [upd_ne n]
          exact same_new hq _ _ (s11 _ _ (f9 _ _ e n))
        · have := length_mergeK (gk way) kvs
          have e1 : [way].flatten = way := by simp
          rw [etk, List.flatten_append, List.length_append, e1]
          omega
        · rw [valV_merge, v9 t, etk, List.flatten_append]
          by_cases h5 : t ∈ way
          · simp [h5]
          · by_cases h6 : t ∈ ((Ss.map wayOf).take i).flatten
            · rw [if_neg h5, if_pos h6, if_pos (List.mem_append_left _ h6)]
            · rw [if_neg h5, if_neg h6, if_neg]
              intro z
              rcases List.mem_append.mp z with z | z
              · exact h6 z
              · simp at z
                exact h5 z
    · rintro σ H9 ⟨y5, kvs, rfl, f9, k9, d9, kl9, v9⟩
      rw [show ys.length = (Ss.map wayOf).length by omega, List.take_length] at v9
      have hm9 : MoP K H9 Cl p dx (fN.zip (x2 :: .ref lw :: r :: b :: .ref sd :: [])) x2 lw r b sd M W roots (Ss.map wayOf) :=
        moP_of (f9 _ _ P8 nsp.symm) ((h2.mono K08).mono k9) ⟨ys, f9 _ _ L8 nls, Y8.mono k9⟩ (R8.mono k9) (B8.mono k9) ⟨kvs, d9, v9⟩
      have F9 : ∀ bb o, H bb = some o → bb ≠ p → H9 bb = some o := fun bb o e n => f9 _ _ (F8 _ _ e n) (frS bb o e n)
      have T1 := (h1.mono K08).mono k9
      have T3 := (h3.mono K08).mono k9
      have T4 := (h4.mono K08).mono k9
      -- self.seen
      have hn60 := B.n60
      have hW0 := B.W0l
      have elen : ((W0.map dRow).length : Int) = (W.length : Int) := by rw [List.length_map, hW0]
      refine ⟨_, rfl, _, _, rfl, T1, _, rfl, by omega, by omega, fun D1 hD1 => ?_⟩
      have en : (((W0.map dRow).length : Nat) : Int).toNat = W.length := by rw [elen]; omega
      rw [en]
      refine lc_it (walk_range (lo := 0) (n := W.length)) (fun i H10 => Same H9 H10 ∧ H10 D1 = some (.lst (((List.range i).map (seenV W M C (Ss.map wayOf))).map vNat))) ⟨same_new hD1, upd_same⟩ (fun _ _ _ _ => trivial) ?_ ?_
      · rintro i x H10 H11 hi ⟨s10, hD10⟩ ⟨rfl, hx⟩
        have ex : x = vNat i := by rw [hx]; show V.int _ = V.int _; congr 1; omega
        subst ex
        have hm10 := hm9.same s10
        refine ⟨rfl, _, rfl, p, dx, _, rfl, hm10.ob, hm10.no _ (by decide), _, rfl, _, rfl, ?_⟩
        refine ⟨p, dx, _, x2, lw, r, b, sd, M, W, roots, Ss.map wayOf, x3, C, i, rfl, hm10, T3.mono (keep_same s10), by rw [B.Cl]; exact hi, hi, by rw [B.Ml]; exact hi, by omega, B.r8 i, fun H12 s12 => ?_⟩
        have hD12 := s12 _ _ hD10
        refine ⟨_, hD12, by rw [List.length_map, List.length_map, List.length_range]; exact small1000 (by omega), Evl.Ex.mut (s10.trans s12) hD1, ?_⟩
        rw [upd_same, List.range_succ, List.map_append, List.map_append]
        rfl
      · rintro H10 ⟨s10, hD10⟩
        have hm10 := hm9.same s10
        have nDp : D1 ≠ p := (ne_of_none hm9.ob hD1).symm
        refine ⟨_, rfl, p, Cl, dx, _, rfl, hm10.ob, TC.cl, TC.nN, (by show 5 < 1000; decide), ?_⟩
        rw [putF_zip fN_nd rfl]
        have hm11 := hm10.put (.ref D1)
        have kk11 : Keep K H10 (upd H10 p (.ins Cl dx (fN.zip (x2 :: .ref lw :: r :: b :: .ref sd :: ([] ++ [.ref D1]))))) := keep_upd hm10.ob rfl
        have S11 : (upd H10 p (.ins Cl dx (fN.zip (x2 :: .ref lw :: r :: b :: .ref sd :: ([] ++ [.ref D1]))))) D1 = some (.lst (((List.range W.length).map (seenV W M C (Ss.map wayOf))).map vNat)) := by rw [upd_ne nDp]; exact hD10
        have F11 : ∀ bb o, H bb = some o → bb ≠ p → (upd H10 p (.ins Cl dx (fN.zip (x2 :: .ref lw :: r :: b :: .ref sd :: ([] ++ [.ref D1]))))) bb = some o := fun bb o e n => by rw [upd_ne n]; exact s10 _ _ (F9 _ _ e n)
        have T3' := (T3.mono (keep_same s10)).mono kk11
        have T4' := (T4.mono (keep_same s10)).mono kk11
        show tSeq _ _ _ _ (upd H10 p (.ins Cl dx (fN.zip (x2 :: .ref lw :: r :: b :: .ref sd :: ([] ++ [.ref D1])))))
        generalize upd H10 p (.ins Cl dx (fN.zip (x2 :: .ref lw :: r :: b :: .ref sd :: ([] ++ [.ref D1])))) = H11 at *
        -- need_counts
        refine ⟨_, rfl, p, dx, _, rfl, hm11.ob, hm11.no _ (by decide), _, rfl, p, dx, _, x2, lw, r, b, sd, M, W, roots, Ss.map wayOf, x3, C, rfl, hm11, T3', B.cnt, fun H12 s12 => ?_⟩
        have hm12 := hm11.same s12
        -- need_closed
        refine ⟨_, rfl, p, dx, _, rfl, hm12.ob, hm12.no _ (by decide), ?_⟩
        have hSg : ∀ x, x < W.length → ((List.range W.length).map (seenV W M C (Ss.map wayOf))).getD x 0 = seenV W M C (Ss.map wayOf) x := fun x hx => by
          rw [List.getD_eq_getElem?_getD, List.getElem?_map, List.getElem?_range hx]
          rfl
        refine ⟨p, dx, _, x2, lw, r, b, sd, M, W, roots, Ss.map wayOf, D1, (List.range W.length).map (seenV W M C (Ss.map wayOf)), rfl, hm12, lookup_zip (k := 5) fN_nd rfl rfl, s12 _ _ S11, by simp, fun x c t hx hc ht => ?_, fun H13 s13 => ?_⟩
        · rw [hSg x hx] at hc
          exact B.closed x c t hx hc ht
        · have s113 := s12.trans s13
          have hm13 := hm11.same s113
          have S13 := s113 _ _ S11
          have T43 := T4'.mono (keep_same s113)
          -- self.deeds
          have eh : ((hs.map dSpot).length : Int) = (Ss.length : Int) := by rw [List.length_map, hhl]
          have eh2 : (((hs.map dSpot).length : Int) + 1 - 1).toNat = Ss.length := by rw [eh]; omega
          refine ⟨_, rfl, _, _, rfl, T43, _, _, rfl, rfl, _, _, rfl, by omega, fun D2 hD2 => ?_⟩
          rw [eh2]
          have hRl := B.Rl
          refine lc_it (walk_range (lo := 1) (n := Ss.length)) (fun i H14 => Same H13 H14 ∧ ∃ das xss, LL2 H14 D2 das xss ∧ LD K H14 xss ((((deedsOf Rs).take i)).map (·.map dDeed)))
            ⟨same_new hD2, [], [], ⟨upd_same, by simp, by simp, rfl, fun n a zs h _ => by simp at h⟩, ⟨by simp, fun n a zs h _ => by simp at h⟩⟩ (fun _ _ _ _ => trivial) ?_ ?_
          · rintro i x H14 H15 hi ⟨s14, das, xss, hL, hld⟩ ⟨rfl, hx⟩
            have ex : x = vNat (i + 1) := by rw [hx]; show V.int _ = V.int _; congr 1; omega
            subst ex
            have hm14 := hm13.same s14
            obtain ⟨S, hSi⟩ : ∃ S, Ss[i]? = some S := ⟨Ss[i], List.getElem?_eq_getElem hi⟩
            obtain ⟨rr, hrr⟩ : ∃ rr, roots[i]? = some rr := ⟨roots[i]'(by omega), List.getElem?_eq_getElem _⟩
            obtain ⟨R, hRi⟩ : ∃ R, Rs[i]? = some R := ⟨Rs[i]'(by omega), List.getElem?_eq_getElem _⟩
            refine ⟨rfl, _, rfl, p, dx, _, rfl, hm14.ob, hm14.no _ (by decide), _, rfl, ?_⟩
            refine ⟨p, dx, _, x2, lw, r, b, sd, M, W, roots, Ss.map wayOf, D1, _, i, rr, wayOf S, R, rfl, hm14, lookup_zip (k := 5) fN_nd rfl rfl, s14 _ _ S13, by simp, B.Ml, hn60, B.T, hrr, by rw [List.getElem?_map, hSi]; rfl, B.db i rr S R hrr hSi hRi, fun H16 q yq s16 hq hq16 ht16 => ?_⟩
            have hL16 := hL.same s16
            have nq : q ≠ D2 := (ne_of_none hL.lst hq).symm
            have hll := hL.len
            have hdl := hld.1
            have htk : ((deedsOf Rs).take i).length = i := by
              rw [List.length_take]
              unfold deedsOf
              rw [List.length_map]
              omega
            rw [List.length_map, htk] at hdl
            have nqa : q ∉ das := fun hm' => by
              obtain ⟨n', hn'⟩ := List.mem_iff_getElem?.mp hm'
              have hlt := (List.getElem?_eq_some_iff.mp hn').1
              have := hL.at_ n' q _ hn' (List.getElem?_eq_getElem (by omega))
              rw [hq] at this
              cases this
            refine ⟨_, hL16.lst, by rw [List.length_map]; exact small1000 (by omega), Evl.Ex.mut (s14.trans s16) hD2, das ++ [q], xss ++ [yq], LL2.push hL16 hq16 nq nqa, ?_⟩
            have hDi : (deedsOf Rs)[i]? = some (R.map (·.1)) := by unfold deedsOf; rw [List.getElem?_map, hRi]; rfl
            have etk : (deedsOf Rs).take (i + 1) = (deedsOf Rs).take i ++ [R.map (·.1)] := by rw [List.take_add_one, hDi]; rfl
            have kk : Keep K H16 (upd H16 D2 (.lst (das.map V.ref ++ [V.ref q]))) := keep_upd hL16.lst rfl
            rw [etk, List.map_append]
            refine ⟨by rw [List.length_append, List.length_append, hdl, List.length_map, htk]; rfl, fun n zs ds ha hb => ?_⟩
            by_cases hn : n < xss.length
            · rw [List.getElem?_append_left hn] at ha
              rw [List.getElem?_append_left (by rw [List.length_map, htk]; omega)] at hb
              exact ((hld.2 n zs ds ha hb).mono (keep_same s16)).mono kk
            · rw [List.getElem?_append_right (by omega)] at ha
              rw [List.getElem?_append_right (by rw [List.length_map, htk]; omega)] at hb
              have h0 : n - xss.length = 0 := by
                have := (List.getElem?_eq_some_iff.mp ha).1
                simp at this
                omega
              have h0' : n - (((deedsOf Rs).take i).map (·.map dDeed)).length = 0 := by rw [List.length_map, htk]; omega
              rw [h0] at ha
              rw [h0'] at hb
              simp at ha hb
              subst ha; subst hb
              have := ht16.mono kk
              rw [show (List.map (fun x => dDeed x.1) R) = (R.map (·.1)).map dDeed from by rw [List.map_map]; rfl] at this
              simpa using this
          · rintro H14 ⟨s14, das, xss, hL, hld⟩
            have hm14 := hm13.same s14
            refine ⟨_, rfl, p, Cl, dx, _, rfl, hm14.ob, TC.cl, TC.nD, (by show 6 < 1000; decide), ?_⟩
            rw [putF_zip fN_nd rfl]
            have hm15 := hm14.put (.ref D2)
            have nD2 : D2 ≠ p := ne_of hL.lst hm14.ob (by intro z; cases z)
            have kk : Keep K H14 (upd H14 p (.ins Cl dx (fN.zip (x2 :: .ref lw :: r :: b :: .ref sd :: (([] ++ [.ref D1]) ++ [.ref D2]))))) := keep_upd hm14.ob rfl
            have htk : (deedsOf Rs).take Ss.length = deedsOf Rs := by
              apply List.take_of_length_le
              unfold deedsOf
              rw [List.length_map]
              omega
            rw [htk] at hld
            have hll := hL.len
            have hdl := hld.1
            refine k _ _ x2 lw r b sd D2 das xss (fun bb o e n => ?_) hm15 ⟨lookup_zip (k := 6) fN_nd rfl rfl, ?_, hld.mono kk, ?_, ?_⟩
            · show (upd H14 p _) bb = some o
              rw [upd_ne n]
              exact s14 _ _ (s113 _ _ (F11 _ _ e n))
            · refine hL.keep fun bb o hb e => ?_
              have : bb ≠ p := by
                rcases hb with hb | hb
                · rw [hb]; exact nD2
                · rintro rfl
                  obtain ⟨n', hn'⟩ := List.mem_iff_getElem?.mp hb
                  have hlt := (List.getElem?_eq_some_iff.mp hn').1
                  have := hL.at_ n' _ _ hn' (List.getElem?_eq_getElem (by omega))
                  rw [hm14.ob] at this
                  cases this
              rw [upd_ne this]
              exact e
            · unfold deedsOf
              rw [List.length_map]
              omega
            · intro row hrow
              unfold deedsOf at hrow
              obtain ⟨R, hR, rfl⟩ := List.mem_map.mp hrow
              obtain ⟨i, hi⟩ := List.mem_iff_getElem?.mp hR
              have hlt := (List.getElem?_eq_some_iff.mp hi).1
              have hdb := B.db i _ _ R (List.getElem?_eq_getElem (show i < roots.length by omega)) (List.getElem?_eq_getElem (show i < Ss.length by omega)) hi
              refine ⟨by rw [List.length_map]; exact hdb.len, fun d hd => ?_⟩
              obtain ⟨q, hq, rfl⟩ := List.mem_map.mp hd
              exact chain_in B.T hdb.inv hdb.ch q hq
end
end Tb
end
section
set_option Elab.async false
set_option linter.all false
set_option maxRecDepth 100000
set_option maxHeartbeats 4000000
/-! moment_of, need_moment, is_moment, deeds_of, order_to. -/
namespace Tb
open PySem PySem.Spec PyProof.Rows L2
abbrev sMomentOf : Stmt := top 35
abbrev sNeedMoment : Stmt := top 36
abbrev sIsMoment : Stmt := top 37
abbrev sDeedsOf : Stmt := top 38
abbrev sOrderTo : Stmt := top 39
def dDeeds (D : List (List Deed)) : PyData := .tuple (D.map fun row => .tuple (row.map dDeed))
/-- a state of which a Moment can be made -/
structure StIn (K : PySem.W.Frag) (H : Hp) (v : V) (W : Web) (roots : List Nat) (Rs : List (List (Deed × Wk))) : Prop where
  ex : ∃ W0 M C hs Ss, Tp K H v (dState W0 M C hs) ∧ WellS W0 M C hs ∧ MomIn W0 W M C hs roots Ss Rs
theorem StIn.same {K : PySem.W.Frag} {H H' : Hp} {v : V} {W : Web} {roots : List Nat} {Rs : List (List (Deed × Wk))} (h : StIn K H v W roots Rs) (e : Same H H') : StIn K H' v W roots Rs := by
  obtain ⟨W0, M, C, hs, Ss, h1, h2, h3⟩ := h.ex
  exact ⟨W0, M, C, hs, Ss, h1.mono (keep_same e), h2, h3⟩
/-- refused: who waits -/
def Waits (W : Web) (roots : List Nat) (D : List (List Deed)) (y : Option Nat) : Prop := ∃ dn i d, Goes W roots D dn ∧ Stuck W roots D dn ∧ firstLeft D dn = some i ∧ (rowD D i)[dn i]? = some d ∧ y = tieD W d
/-- told: all come to their ends -/
def Ends_ (W : Web) (roots : List Nat) (D : List (List Deed)) : Prop := ∃ dn, Goes W roots D dn ∧ Stuck W roots D dn ∧ firstLeft D dn = none
theorem ends_or {W : Web} {roots : List Nat} {D : List (List Deed)} (h : Ends_ W roots D) {y : Option Nat} (h2 : Waits W roots D y) : False := by
  obtain ⟨dn, g, s, f⟩ := h
  obtain ⟨dn2, i, d, g2, s2, f2, _⟩ := h2
  have e := stuck_one g s g2 s2
  subst e
  rw [f] at f2
  cases f2
def spMomentOf (K : PySem.W.Frag) (Cl CB : Addr) : Sp := fun vs H Q E => ∃ v W roots Rs, vs = [v] ∧ StIn K H v W roots Rs ∧
  (Ends_ W roots (deedsOf Rs) → ∀ H' t p q dx fs m w r b s ld das xss M ws, Same H H' → H' t = some (.tup [.ref p, .ref q]) → MoP K H' Cl p dx fs m w r b s M W roots ws → DsA K H' fs W (deedsOf Rs) ld das xss →
    H' q = some (.lst ((order W roots (deedsOf Rs)).map fun i => vNat (i + 1))) → Q (.ref t) H') ∧
  (∀ y, Waits W roots (deedsOf Rs) y → ∀ H' dx, Same H H' → H' dx = some (.xd [("node", vTie y)]) → E (.ref CB) (some dx) H')
def spNeedMoment (K : PySem.W.Frag) (CB : Addr) : Sp := fun vs H Q E => ∃ v W roots Rs, vs = [v] ∧ StIn K H v W roots Rs ∧
  (Ends_ W roots (deedsOf Rs) → ∀ H', Same H H' → Q .non H') ∧ (∀ y, Waits W roots (deedsOf Rs) y → ∀ H' dx, Same H H' → H' dx = some (.xd [("node", vTie y)]) → E (.ref CB) (some dx) H')
def spIsMoment (K : PySem.W.Frag) : Sp := fun vs H Q _ => ∃ v W roots Rs, vs = [v] ∧ StIn K H v W roots Rs ∧
  (Ends_ W roots (deedsOf Rs) → ∀ H', Same H H' → Q (.bl true) H') ∧ (∀ y, Waits W roots (deedsOf Rs) y → ∀ H', Same H H' → Q (.bl false) H')
def spDeedsOf (K : PySem.W.Frag) : Sp := fun vs H Q _ => ∃ v W roots Rs, vs = [v] ∧ StIn K H v W roots Rs ∧ Ends_ W roots (deedsOf Rs) ∧ ∀ v' H', Same H H' → Tp K H' v' (dDeeds (deedsOf Rs)) → Q v' H'
def spOrderTo (K : PySem.W.Frag) : Sp := fun vs H Q _ => ∃ v W roots Rs, vs = [v] ∧ StIn K H v W roots Rs ∧ Ends_ W roots (deedsOf Rs) ∧ ∀ v' H', Same H H' → Tp K H' v' (dNats ((order W roots (deedsOf Rs)).map (· + 1))) → Q v' H'
section
variable {P : Program} {w : World} {K : PySem.W.Frag} {mg : Str → Option Value} {base : Heap}
theorem scMomentOf : FnScope ["state", "found"] ["state"] (defScope sMomentOf) := ⟨rfl, rfl, rfl, by decide +kernel, rfl, by decide +kernel, by decide +kernel⟩
theorem ok_momentof {f f1 fI fT Cl CB : Addr} {fd fd1 fdI fdT : FuncData} (F : Fun K "moment_of" "moment_of" sMomentOf f fd) (T : Bt mg) (TC : MoC K mg Cl) (G1 : FnOk P w K mg base CX0 6 f1 fd1 ["thing"] (spNeedState K)) (D1 : Dn K mg "need_state" f1 fd1 ["thing"])
    (MK : Mk K Cl fI) (GI : FnOk P w K mg base CX0 4 fI fdI ["self", "state"] (spMInit K Cl)) (bI : Binds K fdI ["self", "state"] []) (GT : FnOk P w K mg base (L2.CX P w) 3 fT fdT ["self"] (spTurns K Cl CB)) (bT : Binds K fdT ["self"] []) (mT : Meth K Cl "turns" fT) :
    FnOk P w K mg base (L2.CX P w) 7 f fd ["state"] (spMomentOf K Cl CB) := by
  refine F.okX scMomentOf (fun vs H Q E h => ?_) (fun cdv A outer s H vs Q E hr h => ?_)
  · obtain ⟨v, W, roots, Rs, rfl, _⟩ := h
    rfl
  · obtain ⟨v, W, roots, Rs, rfl, hst, k1, k2⟩ := h
    obtain ⟨W0, M, C, hs, Ss, hv, ws, B⟩ := hst.ex
    have hr5 := hr.mono (by decide : 5 ≤ 6)
    have hr3 := hr.mono (by decide : 3 ≤ 6)
    refine ⟨_, pss_cons (ps_expr (pe_call G1 hr (by rfl) D1.mgf D1.kp D1.b .nil pass0 (pa_cons (pv 0) pa_nil)))
      (pss_cons (ps_set (i := 1) scMomentOf.nd rfl (Or.inl rfl) (pe_make MK GI hr5 rfl TC.mgC bI .nil pass0 (pa_cons (pv 0) pa_nil)))
      (pss_one (ps_ret (pe_tup (pa_cons (pv 1) (pa_cons (pe_meth0 (E := E) (pv 1) TC.cl mT GT hr3 bT .nil (passes_call (W := fun cls d _ H => E cls d H) (takes_of rfl rfl rfl rfl) (fun _ _ _ _ h => h))) pa_nil)))))), ?_⟩
    refine ⟨_, rfl, v, W0, M, C, hs, rfl, hv, ws, fun H1 s1 => ?_⟩
    refine ⟨_, rfl, fun x dx nx ndx nex => ?_⟩
    have hv1 := (hv.mono (keep_same s1)).mono ((keep_new (o := .own x) ndx).trans (keep_new (H := upd H1 dx (.own x)) (o := .ins Cl dx []) (by rw [upd_ne nex.symm]; exact nx)))
    refine ⟨x, dx, v, W0, W, M, C, hs, roots, Ss, Rs, rfl, upd_same, hv1, B, fun H2 fs m w' r b sd ld das xss hfr hmo hds => ⟨rfl, ?_⟩⟩
    have s2 : Same H1 H2 := Same.made nx ndx hfr
    have s02 := s1.trans s2
    refine ⟨_, rfl, _, rfl, x, dx, _, rfl, hmo.ob, hmo.no _ (by decide), ?_⟩
    have hlen : roots.length = (deedsOf Rs).length := by
      unfold deedsOf
      rw [List.length_map, B.rl, B.Rl]
    refine ⟨x, dx, fs, m, w', r, b, sd, M, W, roots, _, deedsOf Rs, ld, das, xss, rfl, hmo, hds, hlen, fun dn hg hs' => ⟨fun hfl H3 q s3 hq hq3 => ?_, fun i d hfl hd H3 dxx s3 hdx hdx3 => ?_⟩⟩
    · refine ⟨by show 2 ≤ sizeLine; decide, fun t ht => ?_⟩
      refine k1 ⟨dn, hg, hs', hfl⟩ _ t x q dx fs m w' r b sd ld das xss M _ ((s02.trans s3).trans (same_new ht)) upd_same ((hmo.same s3).same (same_new ht)) ((hds.same s3).same (same_new ht)) (same_new ht _ _ hq3)
    · exact k2 _ ⟨dn, i, d, hg, hs', hfl, hd, rfl⟩ H3 dxx (s02.trans s3) hdx3
theorem scNeedMoment : FnScope ["thing"] ["thing"] (defScope sNeedMoment) := ⟨rfl, rfl, rfl, by decide +kernel, rfl, by decide +kernel, by decide +kernel⟩
theorem ok_needmoment {f f1 Cl CB : Addr} {fd fd1 : FuncData} (F : Fun K "need_moment" "need_moment" sNeedMoment f fd) (G1 : FnOk P w K mg base (L2.CX P w) 7 f1 fd1 ["state"] (spMomentOf K Cl CB)) (D1 : Dn K mg "moment_of" f1 fd1 ["state"]) :
    FnOk P w K mg base (L2.CX P w) 8 f fd ["thing"] (spNeedMoment K CB) := by
  refine F.okX scNeedMoment (fun vs H Q E h => ?_) (fun cdv A outer s H vs Q E hr h => ?_)
  · obtain ⟨v, W, roots, Rs, rfl, _⟩ := h
    rfl
  · obtain ⟨v, W, roots, Rs, rfl, hst, k1, k2⟩ := h
    refine ⟨_, pss_one (ps_expr (pe_call (E := E) G1 hr (by rfl) D1.mgf D1.kp D1.b .nil (passes_call (W := fun cls d _ H => E cls d H) (takes_of rfl rfl rfl rfl) (fun _ _ _ _ h => h)) (pa_cons (pv 0) pa_nil))), ?_⟩
    exact ⟨_, rfl, v, W, roots, Rs, rfl, hst, fun he H' t p q dx fs m w r b s ld das xss M ws s1 _ _ _ _ => k1 he H' s1, k2⟩
theorem scIsMoment : FnScope ["thing"] ["thing"] (defScope sIsMoment) := ⟨rfl, rfl, rfl, by decide +kernel, rfl, by decide +kernel, by decide +kernel⟩
theorem ok_ismoment {f f1 CB : Addr} {fd fd1 : FuncData} (F : Fun K "is_moment" "is_moment" sIsMoment f fd) (G1 : FnOk P w K mg base (L2.CX P w) 8 f1 fd1 ["thing"] (spNeedMoment K CB)) (D1 : Dn K mg "need_moment" f1 fd1 ["thing"])
    (mgB : mg "BadState" = some (.ref CB)) (xB : PySem.W.exmOne K (.ref CB) (.ref CB) = some true) : FnOk P w K mg base CX0 9 f fd ["thing"] (spIsMoment K) := by
  refine F.ok scIsMoment (fun vs H Q E h => ?_) (fun cdv A outer s H vs Q E hr h => ?_)
  · obtain ⟨v, W, roots, Rs, rfl, _⟩ := h
    rfl
  · obtain ⟨v, W, roots, Rs, rfl, hst, k1, k2⟩ := h
    refine ⟨_, pss_cons (ps_try_only (tb := fun W => tDrop (tCallS (spNeedMoment K CB) (WE W) (tCons (tVar 0) tNil))) (ts := fun _ _ _ => tRet (tC (.bl false))) (Wout := fun _ _ _ _ => False) rfl rfl ⟨rfl, by decide, Or.inl mgB⟩ takes0
        (fun W pn xe tk _ => pss_one (ps_expr (by exact (pe_callS G1 hr rfl D1.mgf D1.kp D1.b (fun σ => passAt tk σ) (pa_cons (pv 0) pa_nil)))))
        (fun a oe cls d pn _ _ => pss_one (ps_ret pe_bl))) (pss_one (ps_ret pe_bl)), ?_⟩
    refine ⟨_, rfl, v, W, roots, Rs, rfl, hst, fun he H' s1 => k1 he H' s1, fun y hy H' dx s1 _ => ⟨true, xB, fun _ a ha => k2 y hy H' s1, fun q => Bool.noConfusion q⟩⟩
abbrev nDeedsOf : List Str := ["state", "deeds"]
theorem scDeedsOf : FnScope nDeedsOf ["state"] (defScope sDeedsOf) := ⟨rfl, rfl, rfl, by decide +kernel, rfl, by decide +kernel, by decide +kernel⟩
theorem ok_deedsof {f f1 Cl CB : Addr} {fd fd1 : FuncData} (F : Fun K "deeds_of" "deeds_of" sDeedsOf f fd) (T : Bt mg) (TC : MoC K mg Cl) (G1 : FnOk P w K mg base (L2.CX P w) 7 f1 fd1 ["state"] (spMomentOf K Cl CB)) (D1 : Dn K mg "moment_of" f1 fd1 ["state"]) :
    FnOk P w K mg base CX0 8 f fd ["state"] (spDeedsOf K) := by
  refine F.ok scDeedsOf (fun vs H Q E h => ?_) (fun cdv A outer s H vs Q E hr h => ?_)
  · obtain ⟨v, W, roots, Rs, rfl, _⟩ := h
    rfl
  · obtain ⟨v, W, roots, Rs, rfl, hst, he, k⟩ := h
    refine ⟨_, pss_one (ps_ret (pe_callTy (call_tupD K) (by rfl) T.tuple (by decide +kernel) (pa_cons (pe_lc (own := [("deeds", 1)]) (g := gName 1) (tt := tYes) rfl scDeedsOf.nd
      (pi_list (pe_fld (pe_ix ix_tup (pe_call G1 hr (by rfl) D1.mgf D1.kp D1.b .nil passL (pa_cons (pv 0) pa_nil)) pe_int (fun _ _ => rfl)) rfl)) (blkOk_by (N := nDeedsOf) (sc := defScope sDeedsOf) (by decide +kernel))
      (fun _ _ _ _ _ => pg_name (i := 1) scDeedsOf.nd rfl (Or.inl rfl)) (fun _ _ _ _ _ => pts_nil) (fun _ _ _ _ _ => pe_callTy (call_tupD K) (by rfl) T.tuple (by decide +kernel) (pa_cons (pv 1) pa_nil))) pa_nil))), ?_⟩
    refine ⟨_, rfl, v, W, roots, Rs, rfl, hst, fun _ H1 t p q dx fs m w' r b sd ld das xss M ws s1 ht hmo hds hq => ?_, fun y hy => (ends_or he hy).elim⟩
    refine ⟨t, _, 0, V.ref p, rfl, rfl, SqT.of ht, rfl, p, Cl, dx, _, _, rfl, hmo.ob, TC.cl, TC.nD, hds.f, ld, rfl, ⟨_, SqL.of hds.l.lst⟩, ?_⟩
    have hk := hds.k6
    have h1 := hds.l.len
    have h2 := hds.d.1
    rw [List.length_map] at h2
    refine lc_tuples (K := K) hds.l hds.d (by omega) (by show 1 < 2; decide) fun q' ys H2 s2 _ hq2 hys => ?_
    refine ⟨q', ys, _, rfl, SqL.of hq2, hys, fun v' H3 s3 hv' => k v' H3 ((s1.trans s2).trans s3) ?_⟩
    unfold dDeeds
    rw [List.map_map] at hv'
    exact hv'
theorem scOrderTo : FnScope ["state"] ["state"] (defScope sOrderTo) := ⟨rfl, rfl, rfl, by decide +kernel, rfl, by decide +kernel, by decide +kernel⟩
theorem ok_orderto {f f1 Cl CB : Addr} {fd fd1 : FuncData} (F : Fun K "order_to" "order_to" sOrderTo f fd) (T : Bt mg) (G1 : FnOk P w K mg base (L2.CX P w) 7 f1 fd1 ["state"] (spMomentOf K Cl CB)) (D1 : Dn K mg "moment_of" f1 fd1 ["state"]) :
    FnOk P w K mg base CX0 8 f fd ["state"] (spOrderTo K) := by
  refine F.ok scOrderTo (fun vs H Q E h => ?_) (fun cdv A outer s H vs Q E hr h => ?_)
  · obtain ⟨v, W, roots, Rs, rfl, _⟩ := h
    rfl
  · obtain ⟨v, W, roots, Rs, rfl, hst, he, k⟩ := h
    refine ⟨_, pss_one (ps_ret (pe_callTy (call_tupD K) (by rfl) T.tuple (by decide +kernel) (pa_cons (pe_ix ix_tup (pe_call G1 hr (by rfl) D1.mgf D1.kp D1.b .nil passL (pa_cons (pv 0) pa_nil)) pe_int (fun _ _ => rfl)) pa_nil))), ?_⟩
    refine ⟨_, rfl, v, W, roots, Rs, rfl, hst, fun _ H1 t p q dx fs m w' r b sd ld das xss M ws s1 ht hmo hds hq => ?_, fun y hy => (ends_or he hy).elim⟩
    refine ⟨t, _, 1, V.ref q, rfl, rfl, SqT.of ht, rfl, q, _, ((order W roots (deedsOf Rs)).map (· + 1)).map dNat, rfl, SqL.of hq, ?_, fun v' H3 s3 hv' => k v' H3 (s1.trans s3) hv'⟩
    have := tpAll_nats (K := K) (H := H1) ((order W roots (deedsOf Rs)).map (· + 1))
    rw [List.map_map] at this
    exact this
end
end Tb
end
section
set_option Elab.async false
set_option linter.all false
set_option maxRecDepth 100000
set_option maxHeartbeats 4000000
/-! The law's own going: _law_gone. -/
namespace Tb
open PySem PySem.Spec PyProof.Rows L2
def dPair (p : Nat × Nat) : PyData := .tuple [dNat p.1, dNat p.2]
def dStand (S : List (Nat × Nat)) : PyData := .tuple (S.reverse.map dPair)
def dStep (q : Deed × Wk) : PyData := .tuple [dDeed q.1, dStand q.2.S]
abbrev sGone : Stmt := top 45
def fuel (W : Web) : Nat := 10 * W.length + 9
/-- all that a walker goes -/
def goAll (W : Web) (M : List Nat) (root : Nat) : List (Deed × Wk) := runN W M (markAt M root) (fuel W) (start root)
def spGone (K : PySem.W.Frag) : Sp := fun vs H Q _ => ∃ w m W M root, vs = [w, m, vNat root] ∧ Tp K H w (dWeb W) ∧ Tp K H m (dNats M) ∧ TiesIn W ∧ M.length = W.length ∧ W.length ≤ 60 ∧ (∀ x, (rowAt W x).length ≤ 8) ∧ root < W.length ∧
  ∀ H' q ys, Same H H' → H q = none → H' q = some (.lst ys) → TpAll K H' ys ((goAll W M root).map dStep) → Q (.ref q) H'
section
variable {P : Program} {w : World} {K : PySem.W.Frag} {mg : Str → Option Value} {base : Heap}
theorem cutD_last (ds : List PyData) : cutD ds none (some (-1)) = ds.dropLast := by
  unfold cutD
  rw [HT.sIx_none, List.drop_zero, Nat.sub_zero]
  have : HT.sIx ds.length ds.length (some (-1)) = ds.length - 1 := by
    show (if (-1 : Int) < 0 then ((-1 : Int) + (ds.length : Int)).toNat else min (-1 : Int).toNat ds.length) = ds.length - 1
    rw [if_pos (by decide)]
    omega
  rw [this, List.dropLast_eq_take]
theorem tp_two {H : Hp} {t : Addr} {v w : V} {d e : PyData} (h : Tp K H v d) (h2 : Tp K H w e) (ht : H t = none) : Tp K (upd H t (.tup [v, w])) (.ref t) (.tuple [d, e]) :=
  Tp.of (.inl (.inl upd_same)) ((TpAll.cons h (.one h2)).mono (keep_new ht))
theorem tp_three {H : Hp} {t : Addr} {v w x : V} {d e f : PyData} (h : Tp K H v d) (h2 : Tp K H w e) (h3 : Tp K H x f) (ht : H t = none) : Tp K (upd H t (.tup [v, w, x])) (.ref t) (.tuple [d, e, f]) :=
  Tp.of (.inl (.inl upd_same)) ((TpAll.cons h (.cons h2 (.one h3))).mono (keep_new ht))
theorem tp_one {H : Hp} {t : Addr} {v : V} {d : PyData} (h : Tp K H v d) (ht : H t = none) : Tp K (upd H t (.tup [v])) (.ref t) (.tuple [d]) :=
  Tp.of (.inl (.inl upd_same)) ((TpAll.one h).mono (keep_new ht))
theorem tp_nil {H : Hp} {t : Addr} : Tp K (upd H t (.tup [])) (.ref t) (.tuple []) := Tp.of (.inl (.inl upd_same)) .nil
theorem sh_pairs (S : List (Nat × Nat)) : Sh 2 (dStand S) := sh_tup fun d hd => by
  obtain ⟨p, _, rfl⟩ := List.mem_map.mp hd
  refine sh_tup fun d hd => ?_
  simp at hd
  rcases hd with rfl | rfl
  · exact sh_nat _
  · exact sh_nat _
theorem test_via {c : TT} {σ : L2.St} {H : Hp} {Qb : Bool → Hp → Prop} (b : Bool) (P : Hp → Prop) (h : ∀ Q' : Bool → Hp → Prop, (∀ H1, P H1 → Q' b H1) → c σ H Q') (k : ∀ H1, P H1 → Qb b H1) : c σ H Qb := h Qb k
abbrev nGone : List Str := ["_law_web", "_law_marks", "_law_root", "_law_stand", "_law_gone_here", "_law_found", "_law_node", "_law_count", "_law_ahead", "_law_deed"]
theorem scGone : FnScope nGone ["_law_web", "_law_marks", "_law_root"] (defScope sGone) := ⟨rfl, rfl, rfl, by decide +kernel, rfl, by decide +kernel, by decide +kernel⟩
theorem ok_gone {f : Addr} {fd : FuncData} (F : Fun K "_law_gone" "_law_gone" sGone f fd) (T : Bt mg) : FnOk P w K mg base CX0 1 f fd ["_law_web", "_law_marks", "_law_root"] (spGone K) := by
  refine F.ok scGone (fun vs H Q E h => ?_) (fun cdv A outer s H vs Q E hr h => ?_)
  · obtain ⟨w, m, W, M, root, rfl, _⟩ := h
    rfl
  · obtain ⟨wv, mv, W, M, root, rfl, hW, hM, hT, hMl, h60, h8, hroot, k⟩ := h
    refine ⟨_, (pss_cons (ps_set (i := 3) scGone.nd rfl (Or.inl rfl) (pe_tup (pa_cons (pe_tup (pa_cons (pv 2) (pa_cons pe_int pa_nil))) pa_nil)))
      (pss_cons (ps_set (i := 4) scGone.nd rfl (Or.inl rfl) (pe_lst (pa_cons (pv 2) pa_nil)))
      (pss_cons (ps_set (i := 5) scGone.nd rfl (Or.inl rfl) (pe_lst pa_nil))
      (pss_cons (ps_while PassesOwn.never (pt_cmpR (op_neT K hr.units) (pv 3) (pe_tup pa_nil) (nomark _)) (pss_cons (ps_asg (pe_ix (ix_Dl K) (pv 3) (pe_un un_neg pe_int) (fun _ _ => rfl)) (pg_tup rfl (pgs_cons (pg_name (i := 6) scGone.nd rfl (Or.inl rfl)) (pgs_cons (pg_name (i := 7) scGone.nd rfl (Or.inl rfl)) pgs_nil))))
      (pss_cons (ps_set (i := 8) scGone.nd rfl (Or.inl rfl) (pe_slice (sl_D K) (pv 3) po_none (po_some (pe_un un_neg pe_int))))
      (pss_cons (ps_if (pt_cmpR op_eq (pv 7) (pe_callB (call_lenT K) (by rfl) T.len PySem.boot_len (pa_cons (pe_ix (ix_D K) (pv 0) (pv 6) (fun _ _ => rfl)) pa_nil)) (nomark _)) (pss_cons (ps_set (i := 9) scGone.nd rfl (Or.inl rfl) (pe_ifExp (pt_cmpR (op_eqT K hr.units) (pv 8) (pe_tup pa_nil) (nomark _)) (pe_tup (pa_cons pe_str (pa_cons (pv 6) pa_nil))) (pe_tup (pa_cons pe_str (pa_cons (pv 6) pa_nil)))))
      (pss_one (ps_if (pt_cmpR (op_neT K hr.units) (pv 8) (pe_tup pa_nil) (nomark _)) (pss_one (ps_set (i := 8) scGone.nd rfl (Or.inl rfl) (pe_op (op_catD K) (pe_slice (sl_D K) (pv 8) po_none (po_some (pe_un un_neg pe_int))) (pe_tup (pa_cons (pe_tup (pa_cons (pe_ix (ix_D K) (pe_ix (ix_Dl K) (pv 8) (pe_un un_neg pe_int) (fun _ _ => rfl)) pe_int (fun _ _ => rfl)) (pa_cons (pe_op op_add (pe_ix (ix_D K) (pe_ix (ix_Dl K) (pv 8) (pe_un un_neg pe_int) (fun _ _ => rfl)) pe_int (fun _ _ => rfl)) pe_int) pa_nil))) pa_nil))))) pss_nil))) (pss_one (ps_if (PW.pt (pw_or (pt_cmpR op_isN (pe_ix (ix_D K) (pe_ix (ix_D K) (pv 0) (pv 6) (fun _ _ => rfl)) (pv 7) (fun _ _ => rfl)) pe_non (nomark _)) (pw_or (pt_cmpR op_ne (pe_ix (ix_D K) (pv 1) (pe_ix (ix_D K) (pe_ix (ix_D K) (pv 0) (pv 6) (fun _ _ => rfl)) (pv 7) (fun _ _ => rfl)) (fun _ _ => rfl)) (pe_ix (ix_D K) (pv 1) (pv 2) (fun _ _ => rfl)) (nomark _)) (pw_or1 (pt_cmpR op_in_seq (pe_ix (ix_D K) (pe_ix (ix_D K) (pv 0) (pv 6) (fun _ _ => rfl)) (pv 7) (fun _ _ => rfl)) (pv 4) (by rfl)))))) (pss_cons (ps_set (i := 9) scGone.nd rfl (Or.inl rfl) (pe_tup (pa_cons pe_str (pa_cons (pv 6) (pa_cons (pv 7) pa_nil)))))
      (pss_one (ps_set (i := 8) scGone.nd rfl (Or.inl rfl) (pe_op (op_catD K) (pv 8) (pe_tup (pa_cons (pe_tup (pa_cons (pv 6) (pa_cons (pe_op op_add (pv 7) pe_int) pa_nil))) pa_nil)))))) (pss_cons (ps_set (i := 9) scGone.nd rfl (Or.inl rfl) (pe_tup (pa_cons pe_str (pa_cons (pv 6) (pa_cons (pv 7) pa_nil)))))
      (pss_cons (ps_expr (pe_bm PySem.F.plainAttrs_list PySem.F.slot_list_append PySem.F.type_list_append mt_append (pv 4) (pa_cons (pe_ix (ix_D K) (pe_ix (ix_D K) (pv 0) (pv 6) (fun _ _ => rfl)) (pv 7) (fun _ _ => rfl)) pa_nil)))
      (pss_one (ps_set (i := 8) scGone.nd rfl (Or.inl rfl) (pe_op (op_catD K) (pv 3) (pe_tup (pa_cons (pe_tup (pa_cons (pe_ix (ix_D K) (pe_ix (ix_D K) (pv 0) (pv 6) (fun _ _ => rfl)) (pv 7) (fun _ _ => rfl)) (pa_cons pe_int pa_nil))) pa_nil))))))))))
      (pss_cons (ps_set (i := 3) scGone.nd rfl (Or.inl rfl) (pv 8))
      (pss_one (ps_expr (pe_bm PySem.F.plainAttrs_list PySem.F.slot_list_append PySem.F.type_list_append mt_append (pv 5) (pa_cons (pe_tup (pa_cons (pv 9) (pa_cons (pv 3) pa_nil))) pa_nil)))))))))
      (pss_one (ps_ret (pv 5))))))), ?_⟩
    -- stand = ((root, 0),)
    refine ⟨_, rfl, (by show 2 ≤ sizeLine; decide), fun t0 ht0 => ⟨(by show 1 ≤ sizeLine; decide), fun t1 ht1 => ?_⟩⟩
    have hst0 : Tp K (upd (upd H t0 (.tup [vNat root, .int 0])) t1 (.tup [.ref t0])) (.ref t1) (dStand (start root).S) := tp_one (tp_two (tp_nat root) (tp_nat 0) ht0) ht1
    have s1 : Same H (upd (upd H t0 (.tup [vNat root, .int 0])) t1 (.tup [.ref t0])) := (same_new ht0).trans (same_new ht1)
    generalize upd (upd H t0 (.tup [vNat root, .int 0])) t1 (.tup [.ref t0]) = H1 at *
    -- gone, found
    refine ⟨_, rfl, (by show 1 ≤ sizeLine; decide), fun gh hgh => ⟨Nat.zero_le _, fun fo hfo => ?_⟩⟩
    have ngf : gh ≠ fo := ne_of_none upd_same hfo
    have s2 : Same H (upd (upd H1 gh (.lst [vNat root])) fo (.lst [])) := (s1.trans (same_new hgh)).trans (same_new hfo)
    have hg2 : (upd (upd H1 gh (.lst [vNat root])) fo (.lst [])) gh = some (.lst ([root].map vNat)) := same_new hfo _ _ upd_same
    have hf2 : (upd (upd H1 gh (.lst [vNat root])) fo (.lst [])) fo = some (.lst []) := upd_same
    have hst2 := (hst0.mono (keep_new (o := .lst [vNat root]) hgh)).mono (keep_new (o := .lst []) hfo)
    have frG : H gh = none := s1.free hgh
    have frF : H fo = none := (s1.trans (same_new (o := .lst [vNat root]) hgh)).free hfo
    generalize upd (upd H1 gh (.lst [vNat root])) fo (.lst []) = H2 at *
    have hI0 : WInv W M (markAt M root) root (start root) := inv_start rfl hroot
    have hmu0 : mu W (start root) ≤ fuel W := mu_start
    have hMx : ∀ x, x < W.length → M[x]? = some (markAt M x) := fun x hx => by
      unfold markAt
      rw [List.getD_eq_getElem?_getD, List.getElem?_eq_getElem (by omega)]
      rfl
    refine while_via (fun σ H' => ∃ wk R f sv ds y6 y7 y8 y9, σ = [some wv, some mv, some (vNat root), some sv, some (.ref gh), some (.ref fo), y6, y7, y8, y9] ∧ Same H H' ∧ Tp K H' sv (dStand wk.S) ∧ H' gh = some (.lst (wk.G.map vNat)) ∧ H' fo = some (.lst ds) ∧
        TpAll K H' ds (R.map dStep) ∧ WInv W M (markAt M root) root wk ∧ mu W wk ≤ f ∧ R ++ runN W M (markAt M root) f wk = goAll W M root ∧ R.length + f = fuel W)
      (fun σ H' => match H' fo with | some (.lst l) => fuel W + 1 - l.length | _ => 0)
      ⟨start root, [], fuel W, _, [], _, _, _, _, rfl, s2, hst2, hg2, hf2, .nil, hI0, hmu0, rfl, by simp⟩ ?_
    rintro σ H3 ⟨wk, R, f, sv, ds, y6, y7, y8, y9, rfl, s3, hsv, hg3, hf3, hds, hI, hmu, hrun, hlen⟩
    have hG60 : wk.G.length ≤ 60 := Nat.le_trans (nodup_le hI.gnd fun x hx => (hI.own x hx).2) h60
    have hS60 : wk.S.length ≤ 60 := by
      have := nodup_le hI.nd (n := W.length) fun x hx => by
        obtain ⟨q, hq, rfl⟩ := List.mem_map.mp hx
        exact (hI.own _ (hI.sub q hq)).2
      rw [List.length_map] at this
      omega
    refine ⟨!wk.S.isEmpty, fun H1 => Same H3 H1, fun Q' hQ' => ?_, fun H4 s34 => ?_⟩
    · refine ⟨_, rfl, Nat.zero_le _, fun q hq => ?_⟩
      refine ⟨_, .tuple [], hsv.mono (keep_new hq), tp_nil, (sh_pairs _).ok, (sh_natsT []).ok, _, rfl, ?_⟩
      unfold dStand
      rw [eqv_nilT]
      have e : (List.map dPair wk.S.reverse).isEmpty = wk.S.isEmpty := by cases wk.S <;> simp
      rw [e]
      exact hQ' _ (same_new hq)
    · obtain ⟨S, G⟩ := wk
      have s4 := s3.trans s34
      have hsv4 := hsv.mono (keep_same s34)
      have hg4 := s34 _ _ hg3
      have hf4 := s34 _ _ hf3
      have hds4 := hds.mono (keep_same s34)
      have hdl : ds.length = R.length := by rw [hds.1, List.length_map]
      cases S with
      | nil =>
        refine iteF ⟨_, rfl, k H4 fo ds s4 frF hf4 ?_⟩
        have e : runN W M (markAt M root) f ⟨[], G⟩ = [] := by cases f <;> rfl
        rw [e, List.append_nil] at hrun
        rw [← hrun]
        exact hds4
      | cons top rest =>
        obtain ⟨x, c⟩ := top
        have hx := hI.own x (hI.sub (x, c) (by simp))
        have hc := hI.cnt (x, c) (by simp)
        simp only at hc hG60 hS60 hg4 hsv4
        -- what the turn has to come to
        have fin : ∀ (d : Deed) (wk' : Wk) (H5 : Hp) (sv' dv : V) (z6 z7 z8 z9 : Option V), step W M (markAt M root) ⟨(x, c) :: rest, G⟩ = some (d, wk') → Same H H5 → Tp K H5 sv' (dStand wk'.S) → Tp K H5 dv (dDeed d) → H5 gh = some (.lst (wk'.G.map vNat)) → H5 fo = some (.lst ds) → TpAll K H5 ds (R.map dStep) →
            ∀ t, H5 t = none → ∀ o, o = HO.tup [dv, sv'] → ∀ yv, yv = V.ref t →
            (∃ wk R f sv ds2 y6 y7 y8 y9, ([some wv, some mv, some (vNat root), some sv', some (.ref gh), some (.ref fo), z6, z7, z8, z9] : L2.St) = [some wv, some mv, some (vNat root), some sv, some (.ref gh), some (.ref fo), y6, y7, y8, y9] ∧ Same H (upd (upd H5 t o) fo (.lst (ds ++ [yv]))) ∧
              Tp K (upd (upd H5 t o) fo (.lst (ds ++ [yv]))) sv (dStand wk.S) ∧ (upd (upd H5 t o) fo (.lst (ds ++ [yv]))) gh = some (.lst (wk.G.map vNat)) ∧ (upd (upd H5 t o) fo (.lst (ds ++ [yv]))) fo = some (.lst ds2) ∧
              TpAll K (upd (upd H5 t o) fo (.lst (ds ++ [yv]))) ds2 (R.map dStep) ∧ WInv W M (markAt M root) root wk ∧ mu W wk ≤ f ∧ R ++ runN W M (markAt M root) f wk = goAll W M root ∧ R.length + f = fuel W) ∧
            (match (upd (upd H5 t o) fo (.lst (ds ++ [yv]))) fo with | some (.lst l) => fuel W + 1 - l.length | _ => 0) < (match H3 fo with | some (.lst l) => fuel W + 1 - l.length | _ => 0) := by
          intro d wk' H5 sv' dv z6 z7 z8 z9 hstep s5 hsv5 hdv hg5 hf5 hds5 t ht o ho yv hyv
          subst ho
          subst hyv
          have hI' := inv_step hT hI hstep
          have hmu' := mu_step hT h8 hI hstep
          obtain ⟨f', rfl⟩ : ∃ f', f = f' + 1 := ⟨f - 1, by omega⟩
          have erun : runN W M (markAt M root) (f' + 1) ⟨(x, c) :: rest, G⟩ = (d, wk') :: runN W M (markAt M root) f' wk' := by
            show (match step W M (markAt M root) ⟨(x, c) :: rest, G⟩ with | none => [] | some p => p :: runN W M (markAt M root) f' p.2) = _
            rw [hstep]
          have hf6 := same_new (o := .tup [dv, sv']) ht _ _ hf5
          have k6 : Keep K H5 (upd (upd H5 t (.tup [dv, sv'])) fo (.lst (ds ++ [V.ref t]))) := (keep_new ht).trans (keep_upd hf6 rfl)
          refine ⟨⟨wk', R ++ [(d, wk')], f', sv', ds ++ [V.ref t], _, _, _, _, rfl, Evl.Ex.mut (s5.trans (same_new ht)) frF, hsv5.mono k6, ?_, upd_same, ?_, hI', by omega, ?_, ?_⟩, ?_⟩
          · rw [upd_ne ngf]
            exact same_new ht _ _ hg5
          · rw [List.map_append]
            exact (hds5.mono k6).append (.one ((tp_two hdv hsv5 ht).mono (keep_upd hf6 rfl)))
          · rw [erun] at hrun
            rw [← hrun]
            simp
          · rw [List.length_append, List.length_singleton]
            omega
          · rw [upd_same, hf3]
            show fuel W + 1 - (ds ++ [V.ref t]).length < fuel W + 1 - ds.length
            rw [List.length_append, List.length_singleton]
            omega
        have happ : ds.length < sizeLine := by
          have : fuel W ≤ 1000 := by unfold fuel; omega
          exact small1000 (by omega)
        -- node, count = stand[-1]
        have hlast : (((x, c) :: rest).reverse.map dPair).getLast? = some (dPair (x, c)) := by simp
        refine iteT ⟨_, rfl, _, rfl, _, _, hsv4, rfl, hlast, fun pv1 hp1 => ?_⟩
        obtain ⟨ap, xp, rfl, hSp, hAp⟩ := hp1.inv
        obtain ⟨v1, xp, rfl, g1, hAp⟩ := hAp.inv
        obtain ⟨v2, xp, rfl, g2', hAp⟩ := hAp.inv
        have en := hAp.inv0
        subst en
        have e1 := nat_val g1
        have e2 := nat_val g2'
        subst e1 e2
        refine ⟨ap, _, rfl, hSp, rfl, _, _, rfl, _, _, rfl, rfl, ?_⟩
        -- ahead = stand[:-1]
        refine ⟨_, rfl, _, rfl, _, rfl, _, hsv4, fun av H5 s45 hav => ?_⟩
        have eav : cutD (((x, c) :: rest).reverse.map dPair) none (some (-1)) = rest.reverse.map dPair := by
          rw [cutD_last]
          simp
        rw [show (-(1 : Int)) = -1 from rfl, eav] at hav
        have hav : Tp K H5 av (dStand rest) := hav
        have s5 := s4.trans s45
        have hsv5 := hsv4.mono (keep_same s45)
        have hg5 := s45 _ _ hg4
        have hf5 := s45 _ _ hf4
        have hds5 := hds4.mono (keep_same s45)
        have hW5 := hW.mono (keep_same s5)
        have hM5 := hM.mono (keep_same s5)
        -- if count == len(web[node])
        refine ⟨_, rfl, _, rfl, _, rfl, _, x, _, hW5, rfl, web_get hx.2, fun r1 hr1 => ?_⟩
        refine ⟨_, _, rfl, hr1, rfl, _, rfl, ?_⟩
        have elen : ((((rowAt W x).map dTie).length : Nat) : Int) = ((rowAt W x).length : Int) := by rw [List.length_map]
        have edec : decide (vNat c = V.int (((rowAt W x).map dTie).length : Nat)) = decide (c = (rowAt W x).length) := by
          rw [elen]
          exact dec_vNat c (rowAt W x).length
        rw [edec]
        have shS : Sh 2 (dStand rest) := sh_pairs rest
        have eE : (List.map dPair rest.reverse).isEmpty = rest.isEmpty := by cases rest <;> simp
        by_cases hcl : c = (rowAt W x).length
        · rw [decide_eq_true hcl]
          -- deed
          refine iteT ⟨_, rfl, Nat.zero_le _, fun q hq => ?_⟩
          refine ⟨_, .tuple [], hav.mono (keep_new hq), tp_nil, shS.ok, (sh_natsT []).ok, _, rfl, ?_⟩
          unfold dStand
          rw [eqv_nilT, eE]
          cases rest with
          | nil =>
            refine iteT ⟨_, rfl, (by show 2 ≤ sizeLine; decide), fun td htd => ?_⟩
            have s6 : Same H5 (upd (upd H5 q (.tup [])) td (.tup [.str "stop", vNat x])) := (same_new hq).trans (same_new htd)
            have hdv : Tp K (upd (upd H5 q (.tup [])) td (.tup [.str "stop", vNat x])) (.ref td) (dDeed (.stop x)) := tp_two (.str _) (tp_nat x) htd
            generalize upd (upd H5 q (.tup [])) td (.tup [.str "stop", vNat x]) = H6 at *
            refine ⟨_, rfl, Nat.zero_le _, fun q2 hq2 => ?_⟩
            refine ⟨_, .tuple [], (hav.mono (keep_same s6)).mono (keep_new hq2), tp_nil, shS.ok, (sh_natsT []).ok, _, rfl, ?_⟩
            unfold dStand
            rw [eqv_nilT, eE]
            refine iteF ?_
            have s7 := s6.trans (same_new (o := .tup []) hq2)
            have hf7 := s7 _ _ hf5
            refine ⟨_, rfl, _, rfl, .inl ⟨rfl, _, SqL.of hf7⟩, _, rfl, _, rfl, (by show 2 ≤ sizeLine; decide), fun t ht => ?_⟩
            refine ⟨fo, _, _, rfl, rfl, same_new ht _ _ hf7, happ, ?_⟩
            exact fin (.stop x) ⟨[], G⟩ _ av (.ref td) _ _ _ _ (by simp [step, hcl]) (s5.trans s7) (hav.mono (keep_same s7)) (hdv.mono (keep_new hq2)) (s7 _ _ hg5) hf7 (hds5.mono (keep_same s7)) t ht _ rfl _ rfl
          | cons y rest' =>
            obtain ⟨y, d0⟩ := y
            refine iteF ⟨_, rfl, (by show 2 ≤ sizeLine; decide), fun td htd => ?_⟩
            have s6 : Same H5 (upd (upd H5 q (.tup [])) td (.tup [.str "up", vNat x])) := (same_new hq).trans (same_new htd)
            have hdv : Tp K (upd (upd H5 q (.tup [])) td (.tup [.str "up", vNat x])) (.ref td) (dDeed (.up x)) := tp_two (.str _) (tp_nat x) htd
            generalize upd (upd H5 q (.tup [])) td (.tup [.str "up", vNat x]) = H6 at *
            refine ⟨_, rfl, Nat.zero_le _, fun q2 hq2 => ?_⟩
            have s7 := s6.trans (same_new (o := .tup []) hq2)
            have hav7 := hav.mono (keep_same s7)
            refine ⟨_, .tuple [], hav7, tp_nil, shS.ok, (sh_natsT []).ok, _, rfl, ?_⟩
            unfold dStand
            rw [eqv_nilT, eE]
            have hdv7 := hdv.mono (keep_new (o := .tup []) hq2)
            generalize upd H6 q2 (.tup []) = H7 at *
            -- ahead = ahead[:-1] + ((ahead[-1][0], ahead[-1][1] + 1),)
            refine iteT ⟨_, rfl, _, rfl, _, rfl, _, hav7, fun bv H8 s78 hbv => ?_⟩
            have ebv : cutD (((y, d0) :: rest').reverse.map dPair) none (some (-1)) = rest'.reverse.map dPair := by
              rw [cutD_last]
              simp
            rw [show (-(1 : Int)) = -1 from rfl, ebv] at hbv
            have hav8 := hav7.mono (keep_same s78)
            have hlast2 : (((y, d0) :: rest').reverse.map dPair).getLast? = some (dPair (y, d0)) := by simp
            refine ⟨_, rfl, _, rfl, _, _, hav8, rfl, hlast2, fun pv2 hp2 => ⟨_, 0, _, hp2, rfl, rfl, fun u1 hu1 => ?_⟩⟩
            have e1 := nat_val hu1
            subst e1
            refine ⟨_, rfl, _, rfl, _, _, hav8, rfl, hlast2, fun pv3 hp3 => ⟨_, 1, _, hp3, rfl, rfl, fun u2 hu2 => ?_⟩⟩
            have e2 := nat_val hu2
            subst e2
            refine ⟨_, _, rfl, rfl, (by show 2 ≤ sizeLine; decide), fun t2 ht2 => ⟨(by show 1 ≤ sizeLine; decide), fun t3 ht3 => ?_⟩⟩
            have s9 : Same H8 (upd (upd H8 t2 (.tup [vNat y, .int ((d0 : Int) + 1)])) t3 (.tup [.ref t2])) := (same_new ht2).trans (same_new ht3)
            have hn : Tp K (upd (upd H8 t2 (.tup [vNat y, .int ((d0 : Int) + 1)])) t3 (.tup [.ref t2])) (.ref t3) (.tuple [dPair (y, d0 + 1)]) := tp_one (tp_two (tp_nat y) (tp_nat (d0 + 1)) ht2) ht3
            have hbv9 := hbv.mono (keep_same s9)
            generalize upd (upd H8 t2 (.tup [vNat y, .int ((d0 : Int) + 1)])) t3 (.tup [.ref t2]) = H9 at *
            refine ⟨_, _, hbv9, hn, ?_, fun nv H10 s10 hnv => ?_⟩
            · rw [List.length_map, List.length_reverse]
              simp at hS60 ⊢
              exact Nat.le_trans (show rest'.length + 1 ≤ 1000 by omega) (by decide)
            · have hnv : Tp K H10 nv (dStand ((y, d0 + 1) :: rest')) := by
                unfold dStand
                rw [List.reverse_cons, List.map_append]
                exact hnv
              have s710 := (s7.trans s78).trans (s9.trans s10)
              have hf10 := s710 _ _ hf5
              refine ⟨_, rfl, _, rfl, .inl ⟨rfl, _, SqL.of hf10⟩, _, rfl, _, rfl, (by show 2 ≤ sizeLine; decide), fun t ht => ?_⟩
              refine ⟨fo, _, _, rfl, rfl, same_new ht _ _ hf10, happ, ?_⟩
              exact fin (.up x) ⟨(y, d0 + 1) :: rest', G⟩ _ nv (.ref td) _ _ _ _ (by simp [step, hcl]) (s5.trans s710) hnv (hdv7.mono (keep_same (s78.trans (s9.trans s10)))) (s710 _ _ hg5) hf10 (hds5.mono (keep_same s710)) t ht _ rfl _ rfl
        · rw [decide_eq_false hcl]
          have hclt : c < (rowAt W x).length := by omega
          -- elif
          obtain ⟨sk, hsk⟩ : ∃ sk : Bool, (sk = true ∧ step W M (markAt M root) ⟨(x, c) :: rest, G⟩ = some (.skip x c, ⟨(x, c + 1) :: rest, G⟩)) ∨
              (sk = false ∧ ∃ t, tieAt W x c = some t ∧ markAt M t = markAt M root ∧ t ∉ G) := by
            cases hti : tieAt W x c with
            | none => exact ⟨true, .inl ⟨rfl, by simp [step, hcl, hti]⟩⟩
            | some t =>
              by_cases h1 : markAt M t = markAt M root
              · by_cases h2 : t ∈ G
                · exact ⟨true, .inl ⟨rfl, by simp [step, hcl, hti, h2]⟩⟩
                · exact ⟨false, .inr ⟨rfl, t, rfl, h1, h2⟩⟩
              · exact ⟨true, .inl ⟨rfl, by simp [step, hcl, hti, h1]⟩⟩
          refine iteF ?_
          refine test_via sk (fun H' => H' = H5) (fun Q' hQ' => ?_) (fun H' e' => ?_)
          · have hQ := hQ' _ rfl
            refine ⟨_, rfl, _, rfl, _, x, _, hW5, rfl, web_get hx.2, fun r2 hr2 => ⟨_, rfl, _, c, _, hr2, rfl, tie_get hclt, fun t1 ht1 => ?_⟩⟩
            have et := tie_val ht1
            subst et
            refine ⟨rfl, _, rfl, ?_⟩
            cases hti : tieAt W x c with
            | none =>
              rcases hsk with ⟨e, _⟩ | ⟨_, t, ht, _⟩
              · subst e
                exact iteT hQ
              · rw [hti] at ht
                cases ht
            | some t =>
              have htW : t < W.length := hT x c t hti
              refine iteF ?_
              refine ⟨_, rfl, _, rfl, _, rfl, _, x, _, hW5, rfl, web_get hx.2, fun r3 hr3 => ⟨_, rfl, _, c, _, hr3, rfl, tie_get hclt, fun t2 ht2 => ?_⟩⟩
              have et2 := tie_val ht2
              subst et2
              have etv : vTie (tieAt W x c) = vNat t := by rw [hti]; rfl
              refine ⟨_, t, _, hM5, etv, get_map (hMx t htW), fun m1 hm1 => ?_⟩
              have em := nat_val hm1
              subst em
              refine ⟨_, rfl, _, rfl, _, root, _, hM5, rfl, get_map (hMx root hroot), fun m2 hm2 => ?_⟩
              have em2 := nat_val hm2
              subst em2
              refine ⟨rfl, _, rfl, ?_⟩
              rw [dec_vNat]
              by_cases h1 : markAt M t = markAt M root
              · rw [decide_eq_true h1]
                refine iteF ?_
                refine ⟨_, rfl, _, rfl, _, x, _, hW5, rfl, web_get hx.2, fun r4 hr4 => ⟨_, rfl, _, c, _, hr4, rfl, tie_get hclt, fun t3 ht3 => ?_⟩⟩
                have et3 := tie_val ht3
                subst et3
                rw [etv]
                refine ⟨_, rfl, gh, _, rfl, .inl (SqL.of hg5), rfl, flat_nats _, _, rfl, ?_⟩
                rw [inV_nats]
                by_cases h2 : t ∈ G
                · rw [decide_eq_true h2]
                  rcases hsk with ⟨e, _⟩ | ⟨_, t', ht', _, h2'⟩
                  · subst e
                    exact hQ
                  · rw [hti] at ht'
                    cases ht'
                    exact absurd h2 h2'
                · rw [decide_eq_false h2]
                  rcases hsk with ⟨e, hst⟩ | ⟨e, _⟩
                  · simp [step, hcl, hti, h1, h2] at hst
                  · subst e
                    exact hQ
              · rw [decide_eq_false h1]
                rcases hsk with ⟨e, _⟩ | ⟨_, t', ht', h1', _⟩
                · subst e
                  exact iteT hQ
                · rw [hti] at ht'
                  cases ht'
                  exact absurd h1' h1
          · subst e'
            rcases hsk with ⟨rfl, hstep⟩ | ⟨rfl, t, hti, h1, h2⟩
            · -- skip
              refine iteT ⟨_, rfl, _, rfl, (by show 3 ≤ sizeLine; decide), fun td htd => ?_⟩
              have s6 := same_new (o := .tup [.str "skip", vNat x, vNat c]) htd
              have hdv : Tp K (upd H' td (.tup [.str "skip", vNat x, vNat c])) (.ref td) (dDeed (.skip x c)) := tp_three (.str _) (tp_nat x) (tp_nat c) htd
              generalize upd H' td (.tup [.str "skip", vNat x, vNat c]) = H6 at *
              refine ⟨_, rfl, _, rfl, _, rfl, _, _, rfl, rfl, (by show 2 ≤ sizeLine; decide), fun t2 ht2 => ⟨(by show 1 ≤ sizeLine; decide), fun t3 ht3 => ?_⟩⟩
              have s9 : Same H6 (upd (upd H6 t2 (.tup [vNat x, .int ((c : Int) + 1)])) t3 (.tup [.ref t2])) := (same_new ht2).trans (same_new ht3)
              have hn : Tp K (upd (upd H6 t2 (.tup [vNat x, .int ((c : Int) + 1)])) t3 (.tup [.ref t2])) (.ref t3) (.tuple [dPair (x, c + 1)]) := tp_one (tp_two (tp_nat x) (tp_nat (c + 1)) ht2) ht3
              have hav9 := hav.mono (keep_same (s6.trans s9))
              have hdv9 := hdv.mono (keep_same s9)
              generalize upd (upd H6 t2 (.tup [vNat x, .int ((c : Int) + 1)])) t3 (.tup [.ref t2]) = H9 at *
              refine ⟨_, _, hav9, hn, ?_, fun nv H10 s10 hnv => ?_⟩
              · rw [List.length_map, List.length_reverse]
                simp at hS60 ⊢
                exact Nat.le_trans (show rest.length + 1 ≤ 1000 by omega) (by decide)
              · have hnv : Tp K H10 nv (dStand ((x, c + 1) :: rest)) := by
                  unfold dStand
                  rw [List.reverse_cons, List.map_append]
                  exact hnv
                have s510 := s6.trans (s9.trans s10)
                have hf10 := s510 _ _ hf5
                refine ⟨_, rfl, _, rfl, .inl ⟨rfl, _, SqL.of hf10⟩, _, rfl, _, rfl, (by show 2 ≤ sizeLine; decide), fun t ht => ?_⟩
                refine ⟨fo, _, _, rfl, rfl, same_new ht _ _ hf10, happ, ?_⟩
                exact fin (.skip x c) ⟨(x, c + 1) :: rest, G⟩ _ nv (.ref td) _ _ _ _ hstep (s5.trans s510) hnv (hdv9.mono (keep_same s10)) (s510 _ _ hg5) hf10 (hds5.mono (keep_same s510)) t ht _ rfl _ rfl
            · -- down
              have hstep : step W M (markAt M root) ⟨(x, c) :: rest, G⟩ = some (.down x c, ⟨(t, 0) :: (x, c) :: rest, G ++ [t]⟩) := by simp [step, hcl, hti, h1, h2]
              have etv : vTie (tieAt W x c) = vNat t := by rw [hti]; rfl
              refine iteF ⟨_, rfl, _, rfl, (by show 3 ≤ sizeLine; decide), fun td htd => ?_⟩
              have s6 := same_new (o := .tup [.str "down", vNat x, vNat c]) htd
              have hdv : Tp K (upd H' td (.tup [.str "down", vNat x, vNat c])) (.ref td) (dDeed (.down x c)) := tp_three (.str _) (tp_nat x) (tp_nat c) htd
              have hg6 := s6 _ _ hg5
              have hf6 := s6 _ _ hf5
              have hW6 := hW5.mono (keep_same s6)
              have hsv6 := hsv5.mono (keep_same s6)
              have hds6 := hds5.mono (keep_same s6)
              have s06 := s5.trans s6
              generalize upd H' td (.tup [.str "down", vNat x, vNat c]) = H6 at *
              -- gone_here.append
              refine ⟨_, rfl, .inl ⟨rfl, _, SqL.of hg6⟩, _, rfl, _, rfl, _, x, _, hW6, rfl, web_get hx.2, fun r2 hr2 => ⟨_, rfl, _, c, _, hr2, rfl, tie_get hclt, fun t1 ht1 => ?_⟩⟩
              have et := tie_val ht1
              subst et
              rw [etv]
              refine ⟨gh, _, _, rfl, rfl, hg6, by rw [List.length_map]; exact small1000 (by omega), ?_⟩
              have k7 : Keep K H6 (upd H6 gh (.lst (G.map vNat ++ [vNat t]))) := keep_upd hg6 rfl
              have hg7 : (upd H6 gh (.lst (G.map vNat ++ [vNat t]))) gh = some (.lst ((G ++ [t]).map vNat)) := by rw [upd_same, List.map_append]; rfl
              have hf7 : (upd H6 gh (.lst (G.map vNat ++ [vNat t]))) fo = some (.lst ds) := by rw [upd_ne ngf.symm]; exact hf6
              have s07 : Same H (upd H6 gh (.lst (G.map vNat ++ [vNat t]))) := Evl.Ex.mut s06 frG
              have hW7 := hW6.mono k7
              have hsv7 := hsv6.mono k7
              have hdv7 := hdv.mono k7
              have hds7 := hds6.mono k7
              generalize upd H6 gh (.lst (G.map vNat ++ [vNat t])) = H7 at *
              -- ahead = stand + ((web[node][count], 0),)
              refine ⟨_, rfl, _, rfl, _, rfl, _, x, _, hW7, rfl, web_get hx.2, fun r3 hr3 => ⟨_, rfl, _, c, _, hr3, rfl, tie_get hclt, fun t2' ht2' => ?_⟩⟩
              have et2 := tie_val ht2'
              subst et2
              rw [etv]
              refine ⟨(by show 2 ≤ sizeLine; decide), fun t2 ht2 => ⟨(by show 1 ≤ sizeLine; decide), fun t3 ht3 => ?_⟩⟩
              have s9 : Same H7 (upd (upd H7 t2 (.tup [vNat t, .int 0])) t3 (.tup [.ref t2])) := (same_new ht2).trans (same_new ht3)
              have hn : Tp K (upd (upd H7 t2 (.tup [vNat t, .int 0])) t3 (.tup [.ref t2])) (.ref t3) (.tuple [dPair (t, 0)]) := tp_one (tp_two (tp_nat t) (tp_nat 0) ht2) ht3
              have hsv9 := hsv7.mono (keep_same s9)
              have hdv9 := hdv7.mono (keep_same s9)
              generalize upd (upd H7 t2 (.tup [vNat t, .int 0])) t3 (.tup [.ref t2]) = H9 at *
              refine ⟨_, _, hsv9, hn, ?_, fun nv H10 s10 hnv => ?_⟩
              · rw [List.length_map, List.length_reverse]
                simp at hS60 ⊢
                exact Nat.le_trans (show rest.length + 1 + 1 ≤ 1000 by omega) (by decide)
              · have hnv : Tp K H10 nv (dStand ((t, 0) :: (x, c) :: rest)) := by
                  unfold dStand
                  rw [List.reverse_cons, List.map_append]
                  exact hnv
                have s710 := s9.trans s10
                have hf10 := s710 _ _ hf7
                refine ⟨_, rfl, _, rfl, .inl ⟨rfl, _, SqL.of hf10⟩, _, rfl, _, rfl, (by show 2 ≤ sizeLine; decide), fun t' ht' => ?_⟩
                refine ⟨fo, _, _, rfl, rfl, same_new ht' _ _ hf10, happ, ?_⟩
                exact fin (.down x c) ⟨(t, 0) :: (x, c) :: rest, G ++ [t]⟩ _ nv (.ref td) _ _ _ _ hstep (s07.trans s710) hnv (hdv9.mono (keep_same s10)) (s710 _ _ hg7) hf10 (hds7.mono (keep_same s710)) t' ht' _ rfl _ rfl
end
end Tb
end
section
set_option Elab.async false
set_option linter.all false
set_option maxRecDepth 100000
set_option maxHeartbeats 4000000
/-! The law's state: _law_state. -/
namespace Tb
open PySem PySem.Spec PyProof.Rows L2
abbrev sState : Stmt := top 46
/-! ### what it stores, plain -/
def setC (l : List Nat) (p : Nat × Nat) : List Nat := l.set p.1 p.2
def setT (l : Web) (p : Nat × (Nat × Option Nat)) : Web := l.modify p.1 (·.set p.2.1 p.2.2)
def fwdFrom (b : Option Nat) : List (Nat × Nat) → List (Nat × (Nat × Option Nat))
  | [] => []
  | (x, c) :: L => (x, (c, b)) :: fwdFrom (some x) L
def ents (S : List (Nat × Nat)) : List (Nat × (Nat × Option Nat)) := fwdFrom none S.reverse.dropLast
def bh (S : List (Nat × Nat)) (j : Nat) : Option Nat := (S.reverse.dropLast.take j).getLast?.map (·.1)
theorem fwd_snoc : ∀ (L : List (Nat × Nat)) (b : Option Nat) (x c : Nat), fwdFrom b (L ++ [(x, c)]) = fwdFrom b L ++ [(x, (c, (L.getLast?.map (·.1)).or b))]
  | [], b, x, c => by simp [fwdFrom]
  | (y, d) :: L, b, x, c => by
    have ih := fwd_snoc L (some y) x c
    show (y, (d, b)) :: fwdFrom (some y) (L ++ [(x, c)]) = _
    rw [ih]
    cases L with
    | nil => simp [fwdFrom]
    | cons z L =>
      have e1 : ((y, d) :: z :: L).getLast? = (z :: L).getLast? := List.getLast?_cons_cons
      rw [e1]
      have e2 : ∃ q, (z :: L).getLast? = some q := ⟨(z :: L).getLast (by simp), List.getLast?_eq_some_getLast (by simp)⟩
      obtain ⟨q, hq⟩ := e2
      rw [hq]
      rfl
theorem below_rev : ∀ R : List (Nat × Nat), (below R).reverse = fwdFrom none R.reverse
  | [] => rfl
  | (x, c) :: R => by
    have ih := below_rev R
    show ((x, (c, R.head?.map (·.1))) :: below R).reverse = fwdFrom none ((x, c) :: R).reverse
    rw [List.reverse_cons, List.reverse_cons, ih, fwd_snoc, List.getLast?_reverse]
    simp
theorem dl_rev (S : List (Nat × Nat)) : S.reverse.dropLast = S.tail.reverse := by
  cases S with
  | nil => rfl
  | cons p R => simp
theorem ents_eq (S : List (Nat × Nat)) : ents S = (below S.tail).reverse := by
  unfold ents
  rw [below_rev, dl_rev]
theorem fwd_len : ∀ (L : List (Nat × Nat)) (b : Option Nat), (fwdFrom b L).length = L.length
  | [], _ => rfl
  | (x, c) :: L, b => by
    show ((x, (c, b)) :: fwdFrom (some x) L).length = _
    simp [fwd_len L]
theorem fwd_get : ∀ (L : List (Nat × Nat)) (b : Option Nat) (j x c : Nat), L[j]? = some (x, c) → (fwdFrom b L)[j]? = some (x, (c, ((L.take j).getLast?.map (·.1)).or b))
  | [], b, j, x, c, h => by simp at h
  | (y, d) :: L, b, 0, x, c, h => by
    simp at h
    obtain ⟨rfl, rfl⟩ := h
    simp [fwdFrom]
  | (y, d) :: L, b, j + 1, x, c, h => by
    have ih := fwd_get L (some y) j x c (by simpa using h)
    show ((y, (d, b)) :: fwdFrom (some y) L)[j + 1]? = _
    rw [List.getElem?_cons_succ, ih, List.take_succ_cons]
    cases hl : L.take j with
    | nil => simp
    | cons z L' =>
      rw [List.getLast?_cons_cons]
      obtain ⟨q, hq⟩ : ∃ q, (z :: L').getLast? = some q := ⟨(z :: L').getLast (by simp), List.getLast?_eq_some_getLast (by simp)⟩
      rw [hq]
      rfl
theorem bh_end (S : List (Nat × Nat)) : bh S S.length = S.tail.head?.map (·.1) := by
  unfold bh
  rw [List.take_of_length_le (by simp), dl_rev, List.getLast?_reverse]
theorem bh_step {S : List (Nat × Nat)} {j x c : Nat} (h : S.reverse.dropLast[j]? = some (x, c)) : bh S (j + 1) = some x := by
  unfold bh
  rw [List.take_add_one, h]
  simp
theorem bh_stop {S : List (Nat × Nat)} {j : Nat} (h : S.reverse.dropLast.length ≤ j) : bh S (j + 1) = bh S j := by
  unfold bh
  rw [List.take_of_length_le (by omega), List.take_of_length_le h]
theorem setC_len (ps : List (Nat × Nat)) (l : List Nat) : (ps.foldl setC l).length = l.length := by
  induction ps generalizing l with
  | nil => rfl
  | cons p ps ih => rw [List.foldl_cons, ih]; simp [setC]
theorem setT_len (ps : List (Nat × (Nat × Option Nat))) (l : Web) : (ps.foldl setT l).length = l.length := by
  induction ps generalizing l with
  | nil => rfl
  | cons p ps ih => rw [List.foldl_cons, ih]; simp [setT]
theorem setT_row1 (l : Web) (p : Nat × (Nat × Option Nat)) (x : Nat) : (rowAt (setT l p) x).length = (rowAt l x).length := by
  unfold rowAt setT
  rw [List.getD_eq_getElem?_getD, List.getD_eq_getElem?_getD, List.getElem?_modify]
  cases e : l[x]? with
  | none => simp [e]
  | some r =>
    by_cases h : p.1 = x
    · simp [h, e]
    · simp [h, e]
theorem setT_row (ps : List (Nat × (Nat × Option Nat))) (l : Web) (x : Nat) : (rowAt (ps.foldl setT l) x).length = (rowAt l x).length := by
  induction ps generalizing l with
  | nil => rfl
  | cons p ps ih => rw [List.foldl_cons, ih, setT_row1]
/-- all of it -/
def C0 (n : Nat) (Ss : List (List (Nat × Nat))) : List Nat := (Ss.map List.reverse).flatten.foldl setC (List.replicate n 0)
def W0 (W : Web) (Ss : List (List (Nat × Nat))) : Web := (Ss.map ents).flatten.foldl setT W
def heresL (roots : List Nat) (Ss : List (List (Nat × Nat))) : List Spot := List.zipWith spotOf roots Ss
def spState (K : PySem.W.Frag) : Sp := fun vs H Q _ => ∃ w r kv W roots M Ss, vs = [w, r, kv] ∧ Tp K H w (dWeb W) ∧ Tp K H r (dNats roots) ∧ Tp K H kv (.tuple [dNats M, .tuple (Ss.map dStand)]) ∧ roots.length = Ss.length ∧ Ss.length ≤ 6 ∧ W.length ≤ 60 ∧
  (∀ S, S ∈ Ss → S.length ≤ 60 ∧ (∀ p, p ∈ S → p.1 < W.length) ∧ ∀ p, p ∈ S.tail → p.2 < (rowAt W p.1).length) ∧
  ∀ v' H', Same H H' → Tp K H' v' (dState (W0 W Ss) M (C0 W.length Ss) (heresL roots Ss)) → Q v' H'
section
variable {P : Program} {w : World} {K : PySem.W.Frag} {mg : Str → Option Value} {base : Heap}
abbrev nState : List Str := ["_law_web", "_law_roots", "_law_kept", "_law_marks", "_law_stands", "_law_ties", "_law_counts", "_law_heres", "_law_root", "_law_stand", "_law_behind", "_law_at", "_law_node", "_law_count", "_law_row"]
theorem scState : FnScope nState ["_law_web", "_law_roots", "_law_kept"] (defScope sState) := ⟨rfl, rfl, rfl, by decide +kernel, rfl, by decide +kernel, by decide +kernel⟩
theorem flat_rep {α : Type} (n : Nat) (x : α) : (List.replicate n [x]).flatten = List.replicate n x := by
  induction n with
  | zero => rfl
  | succ n ih => rw [List.replicate_succ, List.flatten_cons, ih]; rfl
theorem ok_state {f : Addr} {fd : FuncData} (F : Fun K "_law_state" "_law_state" sState f fd) (T : Bt mg) : FnOk P w K mg base CX0 1 f fd ["_law_web", "_law_roots", "_law_kept"] (spState K) := by
  refine F.ok scState (fun vs H Q E h => ?_) (fun cdv A outer s H vs Q E hr h => ?_)
  · obtain ⟨w, r, kv, W, roots, M, Ss, rfl, _⟩ := h
    rfl
  · obtain ⟨wv, rv, kv, W, roots, M, Ss, rfl, hW, hR, hK, hrl, h6, h60, hS, k⟩ := h
    refine ⟨_, (pss_cons (ps_asg (pv 2) (pg_tup rfl (pgs_cons (pg_name (i := 3) scState.nd rfl (Or.inl rfl)) (pgs_cons (pg_name (i := 4) scState.nd rfl (Or.inl rfl)) pgs_nil))))
      (pss_cons (ps_setLc (i := 5) (own := [("_law_row", 14)]) (g := (gName 14)) (tt := tYes) rfl scState.nd rfl rfl (sw_true rfl rfl rfl (by decide +kernel)) (pi_tup (pv 0)) (blkOk_by (N := nState) (sc := defScope sState) (by decide +kernel)) (fun _ _ _ _ _ => (pg_name (i := 14) scState.nd rfl (Or.inl rfl))) (fun _ _ _ _ _ => pts_nil) (fun _ _ _ _ _ => (pe_callTy (call_lstD K) (by rfl) T.list (by decide +kernel) (pa_cons (pv 14) pa_nil))))
      (pss_cons (ps_set (i := 6) scState.nd rfl (Or.inl rfl) (pe_op op_rep (pe_lst (pa_cons pe_int pa_nil)) (pe_callB (call_lenT K) (by rfl) T.len PySem.boot_len (pa_cons (pv 0) pa_nil))))
      (pss_cons (ps_set (i := 7) scState.nd rfl (Or.inl rfl) (pe_lst pa_nil))
      (pss_cons (ps_for PassesOwn.never rfl (RZ.pi_zipA (by rfl) T.zip (pa_cons (pv 1) (pa_cons (pv 4) pa_nil))) (pg_tup rfl (pgs_cons (pg_name (i := 8) scState.nd rfl (Or.inl rfl)) (pgs_cons (pg_name (i := 9) scState.nd rfl (Or.inl rfl)) pgs_nil))) (pss_cons (ps_set (i := 10) scState.nd rfl (Or.inl rfl) pe_non)
      (pss_cons (ps_for PassesOwn.never rfl (pi_enumT (by rfl) T.enumerate (pa_cons (pv 9) pa_nil)) (pg_tup rfl (pgs_cons (pg_name (i := 11) scState.nd rfl (Or.inl rfl)) (pgs_cons (pg_tup rfl (pgs_cons (pg_name (i := 12) scState.nd rfl (Or.inl rfl)) (pgs_cons (pg_name (i := 13) scState.nd rfl (Or.inl rfl)) pgs_nil))) pgs_nil))) (pss_cons (ps_asg (pv 13) (pg_sub (pv 6) (pv 12) set_list))
      (pss_one (ps_if (pt_cmpR op_lt (pe_op op_add (pv 11) pe_int) (pe_callB (call_lenT K) (by rfl) T.len PySem.boot_len (pa_cons (pv 9) pa_nil)) (nomark _)) (pss_cons (ps_asg (pv 10) (pg_sub (pe_ix ix_list (pv 5) (pv 12) (fun _ _ => rfl)) (pv 13) set_list))
      (pss_one (ps_set (i := 10) scState.nd rfl (Or.inl rfl) (pv 12)))) pss_nil))))
      (pss_one (ps_expr (pe_bm PySem.F.plainAttrs_list PySem.F.slot_list_append PySem.F.type_list_append mt_append (pv 7) (pa_cons (pe_ifExp (pt_cmpR (op_neT K hr.units) (pv 9) (pe_tup pa_nil) (nomark _)) (pe_tup (pa_cons (pe_ix (ix_D K) (pe_ix (ix_Dl K) (pv 9) (pe_un un_neg pe_int) (fun _ _ => rfl)) pe_int (fun _ _ => rfl)) (pa_cons (pv 10) pa_nil))) (pv 8)) pa_nil)))))))
      (pss_one (ps_ret (pe_tup (pa_cons (pe_callTy (call_tupD K) (by rfl) T.tuple (by decide +kernel) (pa_cons (pe_lc (own := [("_law_row", 14)]) (g := (gName 14)) (tt := tYes) rfl scState.nd (pi_list (pv 5)) (blkOk_by (N := nState) (sc := defScope sState) (by decide +kernel)) (fun _ _ _ _ _ => (pg_name (i := 14) scState.nd rfl (Or.inl rfl))) (fun _ _ _ _ _ => pts_nil) (fun _ _ _ _ _ => (pe_callTy (call_tupD K) (by rfl) T.tuple (by decide +kernel) (pa_cons (pv 14) pa_nil)))) pa_nil)) (pa_cons (pv 3) (pa_cons (pe_callTy (call_tupD K) (by rfl) T.tuple (by decide +kernel) (pa_cons (pv 6) pa_nil)) (pa_cons (pe_callTy (call_tupD K) (by rfl) T.tuple (by decide +kernel) (pa_cons (pv 7) pa_nil)) pa_nil)))))))))))), ?_⟩
    obtain ⟨ak, xk, rfl, hSk, hAk⟩ := hK.inv
    obtain ⟨mv, xk, rfl, hM, hAk⟩ := hAk.inv
    obtain ⟨sv, xk, rfl, hSt, hAk⟩ := hAk.inv
    have en := hAk.inv0
    subst en
    refine ⟨_, rfl, ak, _, rfl, hSk, rfl, _, _, rfl, _, _, rfl, rfl, ?_⟩
    -- ties
    rw [dWeb_eq] at hW
    obtain ⟨aw, xw, rfl, hSw, hAw⟩ := hW.inv
    have hxl : xw.length = W.length := by rw [hAw.1]; simp
    refine ⟨_, rfl, aw, rfl, ⟨xw, hSw⟩, ?_⟩
    refine lc_lists (K := K) (walk_tup (K := K) (a := aw) (xs := xw)) (fun H' s' => Evl.ex_t s' hSw) hAw (by omega) (by show 14 < 15; decide) fun tl as xss H1 s1 htl has hL hld => ?_
    have exs := ld_web hld
    subst exs
    have hL : MutWeb H1 tl as W := hL
    -- counts
    refine ⟨(by show 1 ≤ sizeLine; decide), fun c1 hc1 => ?_⟩
    have hW1 : Tp K (upd H1 c1 (.lst [V.int 0])) (.ref aw) (.tuple ((W.map (·.map dTie)).map .tuple)) := (hW.mono (keep_same s1)).mono (keep_new hc1)
    refine ⟨_, rfl, _, _, rfl, hW1, ?_⟩
    have elen : (((W.map (·.map dTie)).map PyData.tuple).length : Nat) = W.length := by simp
    rw [elen]
    refine ⟨c1, _, _, rfl, rfl, upd_same, by omega, by omega, ?_, fun ca hca => ?_⟩
    · rw [Int.toNat_natCast]
      exact Nat.le_trans (show [V.int 0].length * W.length ≤ 1000 by simp; omega) (by decide)
    have s2 : Same H1 (upd (upd H1 c1 (.lst [V.int 0])) ca (.lst (List.replicate (Int.toNat (W.length : Int)) [V.int 0]).flatten)) := (same_new hc1).trans (same_new hca)
    have hca2 : (upd (upd H1 c1 (.lst [V.int 0])) ca (.lst (List.replicate (Int.toNat (W.length : Int)) [V.int 0]).flatten)) ca = some (.lst ((List.replicate W.length 0).map vNat)) := by
      rw [upd_same, Int.toNat_natCast, flat_rep, List.map_replicate]
      rfl
    have frC : H ca = none := (s1.trans (same_new (o := .lst [V.int 0]) hc1)).free hca
    have nct : ca ≠ tl := (ne_of_none (same_new (o := .lst [V.int 0]) hc1 _ _ hL.lst) hca).symm
    have nca : ca ∉ as := fun hm => by
      obtain ⟨n, hn⟩ := List.mem_iff_getElem?.mp hm
      have hlt := (List.getElem?_eq_some_iff.mp hn).1
      have hh := hL.at_ n _ _ hn (List.getElem?_eq_getElem (by rw [← hL.len]; exact hlt))
      have := same_new (o := .lst [V.int 0]) hc1 _ _ hh
      rw [hca] at this
      cases this
    have hL2 := LL2.same hL s2
    generalize upd (upd H1 c1 (.lst [V.int 0])) ca (.lst (List.replicate (Int.toNat (W.length : Int)) [V.int 0]).flatten) = H2 at *
    -- heres
    refine ⟨Nat.zero_le _, fun he hhe => ?_⟩
    have s3 : Same H2 (upd H2 he (.lst [])) := same_new hhe
    have hhe3 : (upd H2 he (.lst [])) he = some (.lst []) := upd_same
    have nht : he ≠ tl := (ne_of_none hL2.lst hhe).symm
    have nhc : he ≠ ca := (ne_of_none hca2 hhe).symm
    have nha : he ∉ as := fun hm => by
      obtain ⟨n, hn⟩ := List.mem_iff_getElem?.mp hm
      have hlt := (List.getElem?_eq_some_iff.mp hn).1
      have := hL2.at_ n _ _ hn (List.getElem?_eq_getElem (by rw [← hL2.len]; exact hlt))
      rw [hhe] at this
      cases this
    have frH : H he = none := (s1.trans s2).free hhe
    have hca3 := s3 _ _ hca2
    have hL3 := LL2.same hL2 s3
    have s03 := (s1.trans s2).trans s3
    generalize upd H2 he (.lst []) = H3 at *
    -- the loop
    obtain ⟨ar, xr, rfl, hSr, hAr⟩ := (hR.mono (keep_same s03)).inv
    have exr := tpAll_natsV hAr
    subst exr
    obtain ⟨ast, xst, rfl, hSst, hAst⟩ := (hSt.mono (keep_same s03)).inv
    have hstl : xst.length = Ss.length := by rw [hAst.1, List.length_map]
    refine ⟨_, rfl, _, rfl, ar, ast, _, xst, rfl, .inr ⟨hSr, hSst, ?_⟩⟩
    have k03 : Keep K H H3 := keep_same s03
    refine for_it (walk_zipT (K := K) (a := ar) (b := ast) (xs := roots.map vNat) (ys := xst) (n := Ss.length) (by rw [List.length_map]; omega)) (fun i σ H4 => ∃ y8 y9 y10 y11 y12 y13 hv, σ = [some (.ref aw), some (.ref ar), some (.ref ak), some mv, some (.ref ast), some (.ref tl), some (.ref ca), some (.ref he), y8, y9, y10, y11, y12, y13, none] ∧ Same H H4 ∧ Keep K H3 H4 ∧
        MutWeb H4 tl as (((Ss.take i).map ents).flatten.foldl setT W) ∧ H4 ca = some (.lst ((((Ss.take i).map List.reverse).flatten.foldl setC (List.replicate W.length 0)).map vNat)) ∧ H4 he = some (.lst hv) ∧ TpAll K H4 hv ((heresL (roots.take i) (Ss.take i)).map dSpot))
      ⟨_, _, _, _, _, _, [], rfl, s03, Keep.refl _, hL3, hca3, hhe3, .nil⟩ (fun i σ H4 _ q => by obtain ⟨_, _, _, _, _, _, _, _, _, k4, _⟩ := q; exact ⟨k4 _ _ hSr, k4 _ _ hSst⟩) ?_ ?_
    · rintro i x σ H4 H5 hi ⟨y8, y9, y10, y11, y12, y13, hv, rfl, s4, k4, hL4, hca4, hhe4, hhv4⟩ ⟨T1, xv, yv, rfl, hT1, rfl, hxv, hyv⟩
      obtain ⟨root, hroot, rfl⟩ := map_get hxv
      obtain ⟨d, hd, hyd⟩ := hAst.turn hyv
      obtain ⟨S, hSi, rfl⟩ := map_get hd
      obtain ⟨hS60, hSn, hSc⟩ := hS S (List.mem_of_getElem? hSi)
      have s5 := s4.trans (same_new (o := .tup [vNat root, yv]) hT1)
      have k45 : Keep K H4 (upd H4 T1 (.tup [vNat root, yv])) := keep_new hT1
      have k5 := k4.trans k45
      have hL5 := LL2.same hL4 (same_new (o := .tup [vNat root, yv]) hT1)
      have hca5 := same_new (o := .tup [vNat root, yv]) hT1 _ _ hca4
      have hhe5 := same_new (o := .tup [vNat root, yv]) hT1 _ _ hhe4
      have hhv5 := hhv4.mono k45
      have hyd5 := hyd.mono k5
      refine g2_ok (SqT.of upd_same) ?_
      generalize upd H4 T1 (.tup [vNat root, yv]) = H5 at *
      obtain ⟨ap, xp, rfl, hSp, hAp⟩ := hyd5.inv
      have hpl : xp.length = S.length := by rw [hAp.1, List.length_map, List.length_reverse]
      generalize hWi : ((Ss.take i).map ents).flatten.foldl setT W = Wi at *
      generalize hCi : ((Ss.take i).map List.reverse).flatten.foldl setC (List.replicate W.length 0) = Ci at *
      have hWil : Wi.length = W.length := by rw [← hWi, setT_len]
      have hWir : ∀ x, (rowAt Wi x).length = (rowAt W x).length := fun x => by rw [← hWi, setT_row]
      have hCil : Ci.length = W.length := by rw [← hCi, setC_len, List.length_replicate]
      refine ⟨_, rfl, ap, xp, rfl, hSp, ?_⟩
      have ebh : S.reverse.dropLast.length = S.length - 1 := by rw [List.length_dropLast, List.length_reverse]
      refine for_it (walk_enumT (K := K) (a := ap) (xs := xp)) (fun j σ H6 => ∃ y11 y12 y13, σ = [some (.ref aw), some (.ref ar), some (.ref ak), some mv, some (.ref ast), some (.ref tl), some (.ref ca), some (.ref he), some (vNat root), some (.ref ap), some (vTie (bh S j)), y11, y12, y13, none] ∧ Same H H6 ∧ Keep K H5 H6 ∧
          MutWeb H6 tl as (((ents S).take j).foldl setT Wi) ∧ H6 ca = some (.lst (((S.reverse.take j).foldl setC Ci).map vNat)) ∧ H6 he = some (.lst hv))
        ⟨_, _, _, rfl, s5, Keep.refl _, hL5, hca5, hhe5⟩ (fun j σ H6 _ q => by obtain ⟨_, _, _, _, _, k6, _⟩ := q; exact k6 _ _ hSp) ?_ ?_
      · rintro j x σ H6 H7 hj ⟨y11, y12, y13, rfl, s6, k6, hL6, hca6, hhe6⟩ ⟨T2, xv, yv, rfl, hT2, rfl, hxv, hyv⟩
        cases hxv
        obtain ⟨d, hd, hyd⟩ := hAp.turn hyv
        obtain ⟨⟨x, c⟩, hxc, rfl⟩ := map_get hd
        have hxn := hSn (x, c) (List.mem_reverse.mp (List.mem_of_getElem? hxc))
        have s7 := s6.trans (same_new (o := .tup [.int (j : Nat), yv]) hT2)
        have k67 : Keep K H6 (upd H6 T2 (.tup [.int (j : Nat), yv])) := keep_new hT2
        have k7 := k6.trans k67
        have hL7 := LL2.same hL6 (same_new (o := .tup [.int (j : Nat), yv]) hT2)
        have hca7 := same_new (o := .tup [.int (j : Nat), yv]) hT2 _ _ hca6
        have hhe7 := same_new (o := .tup [.int (j : Nat), yv]) hT2 _ _ hhe6
        have hyd7 := hyd.mono k7
        obtain ⟨aq, xq, rfl, hSq, hAq⟩ := hyd7.inv
        obtain ⟨v1, xq, rfl, g1, hAq⟩ := hAq.inv
        obtain ⟨v2, xq, rfl, g2', hAq⟩ := hAq.inv
        have en := hAq.inv0
        subst en
        have e1 := nat_val g1
        have e2 := nat_val g2'
        subst e1 e2
        refine ⟨T2, _, rfl, SqT.of upd_same, rfl, _, _, rfl, _, _, rfl, aq, _, rfl, hSq, rfl, _, _, rfl, _, _, rfl, rfl, rfl, ?_⟩
        generalize upd H6 T2 (.tup [.int (j : Nat), .ref aq]) = H7 at *
        generalize hWj : ((ents S).take j).foldl setT Wi = Wj at *
        generalize hCj : (S.reverse.take j).foldl setC Ci = Cj at *
        have hWjl : Wj.length = W.length := by rw [← hWj, setT_len, hWil]
        have hCjl : Cj.length = W.length := by rw [← hCj, setC_len, hCil]
        -- counts[node] = count
        refine ⟨_, rfl, _, rfl, _, rfl, ca, _, _, x, rfl, rfl, hca7, ixN_nat (by rw [List.length_map, hCjl]; exact hxn), ?_⟩
        have ec : (Cj.map vNat).set x (vNat c) = ((S.reverse.take (j + 1)).foldl setC Ci).map vNat := by
          rw [List.take_add_one, hxc, List.foldl_append, hCj]
          show _ = (setC Cj (x, c)).map vNat
          unfold setC
          rw [List.map_set]
        rw [ec]
        have k8 : Keep K H7 (upd H7 ca (.lst (((S.reverse.take (j + 1)).foldl setC Ci).map vNat))) := keep_upd hca7 rfl
        have s8 : Same H (upd H7 ca (.lst (((S.reverse.take (j + 1)).foldl setC Ci).map vNat))) := Evl.Ex.mut s7 frC
        have hL8 : MutWeb (upd H7 ca (.lst (((S.reverse.take (j + 1)).foldl setC Ci).map vNat))) tl as Wj := LL2.keep hL7 fun b o hb e => by
          have : b ≠ ca := by
            rcases hb with hb | hb
            · rw [hb]; exact nct.symm
            · exact fun z => nca (z ▸ hb)
          rw [upd_ne this]
          exact e
        have hca8 : (upd H7 ca (.lst (((S.reverse.take (j + 1)).foldl setC Ci).map vNat))) ca = some (.lst (((S.reverse.take (j + 1)).foldl setC Ci).map vNat)) := upd_same
        have hhe8 : (upd H7 ca (.lst (((S.reverse.take (j + 1)).foldl setC Ci).map vNat))) he = some (.lst hv) := by rw [upd_ne nhc]; exact hhe7
        have hS8 : SqT K (upd H7 ca (.lst (((S.reverse.take (j + 1)).foldl setC Ci).map vNat))) ap xp := k8 _ _ (k7 _ _ hSp)
        have hk58 := k7.trans k8
        generalize upd H7 ca (.lst (((S.reverse.take (j + 1)).foldl setC Ci).map vNat)) = H8 at *
        -- if at + 1 < len(stand)
        refine ⟨_, rfl, _, _, rfl, rfl, _, rfl, _, _, rfl, Tp.of hS8 (hAp.mono hk58), _, _, rfl, rfl, _, rfl, ?_⟩
        have hdl : (decide ((j : Int) + 1 < ((S.reverse.map dPair).length : Nat))) = decide (j + 1 < S.length) := by
          rw [List.length_map, List.length_reverse]
          by_cases h : j + 1 < S.length
          · rw [decide_eq_true h, decide_eq_true (by omega)]
          · rw [decide_eq_false h, decide_eq_false (by omega)]
        rw [hdl]
        by_cases hlt : j + 1 < S.length
        · rw [decide_eq_true hlt]
          have hdj : S.reverse.dropLast[j]? = some (x, c) := by
            rw [List.dropLast_eq_take, List.getElem?_take, if_pos (by rw [List.length_reverse]; omega)]
            exact hxc
          have hmem : (x, c) ∈ S.tail := by
            have := List.mem_of_getElem? hdj
            rw [dl_rev] at this
            exact List.mem_reverse.mp this
          have hcl := hSc (x, c) hmem
          simp only at hcl
          have hej : (ents S)[j]? = some (x, (c, bh S j)) := by
            have := fwd_get S.reverse.dropLast none j x c hdj
            unfold ents
            rw [this]
            simp [bh]
          obtain ⟨ra, hra, hHa⟩ := MutWeb.row hL8 (x := x) (by rw [hWjl]; exact hxn)
          have hrl' : (rowAt Wj x).length = (rowAt W x).length := by rw [← hWj, setT_row, hWir]
          refine iteT ⟨_, rfl, _, rfl, _, rfl, tl, _, _, _, rfl, rfl, SqL.of hL8.lst, atI_nat (get_mapV hra), _, rfl, ra, _, _, c, rfl, rfl, hHa, ixN_nat (by rw [List.length_map, hrl']; exact hcl), ?_⟩
          have nra : ra ∈ as := List.mem_of_getElem? hra
          have hmw := MutWeb.put hL8 (c := c) (t := bh S j) hra (by rw [hWjl]; exact hxn)
          have nca' : ca ≠ ra := fun z => nca (z ▸ nra)
          have nha' : he ≠ ra := fun z => nha (z ▸ nra)
          refine ⟨_, rfl, ?_⟩
          refine ⟨_, _, _, congrArg (fun z => [some (V.ref aw), some (.ref ar), some (.ref ak), some mv, some (.ref ast), some (.ref tl), some (.ref ca), some (.ref he), some (vNat root), some (.ref ap), some (vTie z), some (.int (j : Nat)), some (vNat x), some (vNat c), none]) (bh_step hdj).symm, Evl.Ex.mut s8 (has ra nra), hk58.trans (keep_upd hHa rfl), ?_, ?_, ?_⟩
          · rw [List.take_add_one, hej, List.foldl_append, hWj]
            exact hmw
          · rw [upd_ne nca']
            exact hca8
          · rw [upd_ne nha']
            exact hhe8
        · rw [decide_eq_false hlt]
          have ebs : bh S (j + 1) = bh S j := bh_stop (by omega)
          refine iteF ⟨_, _, _, congrArg (fun z => [some (V.ref aw), some (.ref ar), some (.ref ak), some mv, some (.ref ast), some (.ref tl), some (.ref ca), some (.ref he), some (vNat root), some (.ref ap), some (vTie z), some (.int (j : Nat)), some (vNat x), some (vNat c), none]) ebs.symm, s8, hk58, ?_, hca8, hhe8⟩
          · rw [List.take_of_length_le (by unfold ents; rw [fwd_len]; omega)]
            rw [List.take_of_length_le (by unfold ents; rw [fwd_len]; omega)] at hWj
            rw [hWj]
            exact hL8
      · rintro σ H6 ⟨y11, y12, y13, rfl, s6, k6, hL6, hca6, hhe6⟩
        rw [hpl] at hL6 hca6
        rw [hpl, bh_end]
        have hap6 : Tp K H6 (.ref ap) (dStand S) := (Tp.of hSp hAp).mono k6
        have htk : Ss.take (i + 1) = Ss.take i ++ [S] := by rw [List.take_add_one, hSi]; rfl
        have hrk : roots.take (i + 1) = roots.take i ++ [root] := by rw [List.take_add_one, hroot]; rfl
        have hzl : (roots.take i).length = (Ss.take i).length := by rw [List.length_take, List.length_take]; omega
        have hhl : heresL (roots.take (i + 1)) (Ss.take (i + 1)) = heresL (roots.take i) (Ss.take i) ++ [spotOf root S] := by
          unfold heresL
          rw [htk, hrk, List.zipWith_append hzl]
          rfl
        have hhvl : hv.length ≤ 6 := by
          have h1 := hhv4.1
          unfold heresL at h1
          rw [List.length_map, List.length_zipWith, List.length_take, List.length_take] at h1
          omega
        have fin : ∀ (H7 : Hp) (sv : V), Same H6 H7 → Tp K H7 sv (dSpot (spotOf root S)) → ∃ y8 y9 y10 y11' y12' y13' hv', ([some (.ref aw), some (.ref ar), some (.ref ak), some mv, some (.ref ast), some (.ref tl), some (.ref ca), some (.ref he), some (vNat root), some (.ref ap), some (vTie (S.tail.head?.map (·.1))), y11, y12, y13, none] : L2.St) =
              [some (.ref aw), some (.ref ar), some (.ref ak), some mv, some (.ref ast), some (.ref tl), some (.ref ca), some (.ref he), y8, y9, y10, y11', y12', y13', none] ∧ Same H (upd H7 he (.lst (hv ++ [sv]))) ∧ Keep K H3 (upd H7 he (.lst (hv ++ [sv]))) ∧
              MutWeb (upd H7 he (.lst (hv ++ [sv]))) tl as (((Ss.take (i + 1)).map ents).flatten.foldl setT W) ∧ (upd H7 he (.lst (hv ++ [sv]))) ca = some (.lst ((((Ss.take (i + 1)).map List.reverse).flatten.foldl setC (List.replicate W.length 0)).map vNat)) ∧
              (upd H7 he (.lst (hv ++ [sv]))) he = some (.lst hv') ∧ TpAll K (upd H7 he (.lst (hv ++ [sv]))) hv' ((heresL (roots.take (i + 1)) (Ss.take (i + 1))).map dSpot) := by
          intro H7 sv s67 hsv
          have hhe7 := s67 _ _ hhe6
          have kk : Keep K H7 (upd H7 he (.lst (hv ++ [sv]))) := keep_upd hhe7 rfl
          have k57 := k6.trans (keep_same s67)
          refine ⟨_, _, _, _, _, _, hv ++ [sv], rfl, Evl.Ex.mut (s6.trans s67) frH, (k5.trans k57).trans kk, ?_, ?_, upd_same, ?_⟩
          · rw [htk, List.map_append, List.flatten_append, List.foldl_append, hWi]
            have e : ([S].map ents).flatten = ents S := by simp
            rw [e]
            rw [List.take_of_length_le (by unfold ents; rw [fwd_len]; omega)] at hL6
            refine LL2.keep (LL2.same hL6 s67) fun b o hb e => ?_
            have : b ≠ he := by
              rcases hb with hb | hb
              · rw [hb]; exact nht.symm
              · exact fun z => nha (z ▸ hb)
            rw [upd_ne this]
            exact e
          · rw [htk, List.map_append, List.flatten_append, List.foldl_append, hCi, upd_ne nhc.symm]
            have e : ([S].map List.reverse).flatten = S.reverse := by simp
            rw [e]
            rw [List.take_of_length_le (by simp)] at hca6
            exact s67 _ _ hca6
          · rw [hhl, List.map_append]
            exact ((hhv5.mono k57).mono kk).append (.one (hsv.mono kk))
        -- heres.append
        refine ⟨_, rfl, .inl ⟨rfl, _, SqL.of hhe6⟩, _, rfl, Nat.zero_le _, fun q hq => ?_⟩
        refine ⟨_, .tuple [], hap6.mono (keep_new hq), tp_nil, (sh_pairs S).ok, (sh_natsT []).ok, _, rfl, ?_⟩
        unfold dStand
        rw [eqv_nilT]
        have s7 := same_new (o := .tup []) hq
        have hhe7 := s7 _ _ hhe6
        have hap7 := hap6.mono (keep_same s7)
        have eE : (List.map dPair S.reverse).isEmpty = S.isEmpty := by cases S <;> simp
        rw [eE]
        cases S with
        | nil =>
          refine iteF ⟨_, rfl, he, _, _, rfl, rfl, hhe7, small1000 (by omega), ?_⟩
          exact fin _ _ s7 (tp_nat root)
        | cons tp R =>
          obtain ⟨x, c⟩ := tp
          have hlast : (((x, c) :: R).reverse.map dPair).getLast? = some (dPair (x, c)) := by simp
          refine iteT ⟨_, rfl, _, rfl, _, _, hap7, rfl, hlast, fun pv1 hp1 => ⟨_, 0, _, hp1, rfl, rfl, fun u1 hu1 => ?_⟩⟩
          have e1 := nat_val hu1
          subst e1
          refine ⟨_, rfl, (by show 2 ≤ sizeLine; decide), fun t ht => ?_⟩
          refine ⟨he, _, _, rfl, rfl, same_new ht _ _ hhe7, small1000 (by omega), ?_⟩
          exact fin _ _ (s7.trans (same_new ht)) (tp_two (tp_nat x) (tp_tie _) ht)
    · rintro σ H4 ⟨y8, y9, y10, y11, y12, y13, hv, rfl, s4, k4, hL4, hca4, hhe4, hhv4⟩
      rw [List.take_length] at hL4 hca4 hhv4
      rw [List.take_of_length_le (by omega)] at hhv4
      -- return
      have hWl : (((Ss.map ents).flatten.foldl setT W)).length = W.length := setT_len _ _
      refine ⟨_, rfl, tl, rfl, ⟨_, SqL.of hL4.lst⟩, ?_⟩
      refine lc_tuples (K := K) hL4 (web_ld _) (by rw [hL4.len, List.length_map, hWl]; omega) (by show 14 < 15; decide) fun q zs H5 s5 hq hq5 ht => ?_
      refine ⟨q, zs, _, rfl, SqL.of hq5, ht, fun v1 H6 s6 hv1 => ?_⟩
      have s46 := s5.trans s6
      refine ⟨_, rfl, _, rfl, ca, _, _, rfl, SqL.of (s46 _ _ hca4), tpAll_nats _, fun v3 H7 s7 hv3 => ?_⟩
      have s47 := s46.trans s7
      refine ⟨_, rfl, he, _, _, rfl, SqL.of (s47 _ _ hhe4), hhv4.mono (keep_same s47), fun v4 H8 s8 hv4 => ?_⟩
      have s48 := s47.trans s8
      have hM8 := hM.mono (keep_same (s4.trans s48))
      refine ⟨(by show 4 ≤ sizeLine; decide), fun t ht => ?_⟩
      refine k _ _ ((s4.trans s48).trans (same_new ht)) (Tp.of (.inl (.inl upd_same)) ?_)
      have hv1' : Tp K H8 v1 (dWeb (W0 W Ss)) := by
        rw [dWeb_eq]
        exact hv1.mono (keep_same (s7.trans s8))
      exact (TpAll.cons hv1' (.cons hM8 (.cons (hv3.mono (keep_same s8)) (.one hv4)))).mono (keep_new ht)
end
end Tb
end
section
set_option Elab.async false
set_option linter.all false
set_option maxRecDepth 100000
set_option maxHeartbeats 4000000
/-! The law: who waits, who is stuck. -/
namespace Tb
open PySem PySem.Spec PyProof.Rows L2
abbrev sStuck : Stmt := top 49
abbrev sWaits : Stmt := top 50
abbrev sLTurns : Stmt := top 51
theorem op_eqDK {X : Cx} (K : PySem.W.Frag) (hu : X.A.units + 64 < cLine) (hK : X.K = K := by rfl) : OpR X (compareOp .Eq) (rEqD K) := by
  subst hK
  exact op_eqD hu
theorem op_neDK {X : Cx} (K : PySem.W.Frag) (hu : X.A.units + 64 < cLine) (hK : X.K = K := by rfl) : OpR X (compareOp .NotEq) (rNeD K) := by
  subst hK
  exact op_neD hu
theorem while_m {c : TT} {tb : TS} {D : Ends} {σ : L2.St} {H : Hp} (Pv : Nat → L2.St → Hp → Prop) (m0 : Nat) (h0 : Pv m0 σ H)
    (hs : ∀ m σ H, Pv m σ H → ∃ (b : Bool) (P : Hp → Prop), (∀ Q' : Bool → Hp → Prop, (∀ H1, P H1 → Q' b H1) → c σ H Q') ∧
      ∀ H1, P H1 → if b = true then tb { D with nx := fun σ' H' => ∃ m', m' < m ∧ Pv m' σ' H', ct := fun σ' H' => ∃ m', m' < m ∧ Pv m' σ' H', bk := D.nx } σ H1 else D.nx σ H1) : tWhile c tb D σ H := by
  refine ⟨Pv, ⟨m0, h0⟩, ?_⟩
  rintro m σ H p
  obtain ⟨b, P, h1, h2⟩ := hs m σ H p
  refine h1 _ fun H1 q => ?_
  have h3 := h2 H1 q
  cases b with
  | true => exact ⟨_, fun σ' H' n => n, h3⟩
  | false => exact h3
def waitsB (W : Web) (L : List Nat) (d : Deed) : Bool := match wt W d with
  | none => false
  | some t => !decide (t ∈ L)
def spWaits (K : PySem.W.Frag) : Sp := fun vs H Q _ => ∃ w th v W L, ∃ d : Deed, vs = [w, .ref th, v] ∧ Tp K H w (dWeb W) ∧ H th = some (.lst (L.map vNat)) ∧ Tp K H v (dDeed d) ∧ DeedIn W d ∧ Q (.bl (waitsB W L d)) H
theorem str_lay : PyData.canLay0 (.str "skip") = true ∧ PyData.canLay0 (.str "down") = true ∧ PyData.canLay0 (.str "up") = true ∧ PyData.canLay0 (.str "stop") = true := by
  refine ⟨?_, ?_, ?_, ?_⟩ <;> decide +kernel
theorem sh_deed (d : Deed) : Sh 1 (dDeed d) := by
  obtain ⟨l1, l2, l3, l4⟩ := str_lay
  cases d with
  | skip x c =>
    refine sh_tup fun e he => ?_
    simp at he
    rcases he with rfl | rfl | rfl
    · exact sh_str l1
    · exact sh_nat _
    · exact sh_nat _
  | down x c =>
    refine sh_tup fun e he => ?_
    simp at he
    rcases he with rfl | rfl | rfl
    · exact sh_str l2
    · exact sh_nat _
    · exact sh_nat _
  | up x =>
    refine sh_tup fun e he => ?_
    simp at he
    rcases he with rfl | rfl
    · exact sh_str l3
    · exact sh_nat _
  | stop x =>
    refine sh_tup fun e he => ?_
    simp at he
    rcases he with rfl | rfl
    · exact sh_str l4
    · exact sh_nat _
theorem sh_row (r : List Deed) : Sh 2 (.list (r.map dDeed)) := sh_list fun d hd => by
  obtain ⟨k, _, rfl⟩ := List.mem_map.mp hd
  exact sh_deed k
/-! ### what is left -/
def leftD (D : List (List Deed)) (dn : Nat → Nat) : List (List PyData) := (List.range D.length).map fun i => ((rowD D i).drop (dn i)).map dDeed
theorem leftD_get {D : List (List Deed)} {dn : Nat → Nat} {i : Nat} (hi : i < D.length) : (leftD D dn)[i]? = some (((rowD D i).drop (dn i)).map dDeed) := by
  unfold leftD
  rw [List.getElem?_map, List.getElem?_range hi]
  rfl
theorem leftD_len {D : List (List Deed)} {dn : Nat → Nat} : (leftD D dn).length = D.length := by simp [leftD]
theorem leftD_bump {D : List (List Deed)} {dn : Nat → Nat} {i : Nat} (hi : i < D.length) : leftD D (bump dn i) = (leftD D dn).set i (((rowD D i).drop (dn i + 1)).map dDeed) := by
  apply List.ext_getElem?
  intro j
  rw [List.getElem?_set]
  by_cases h : i = j
  · subst h
    rw [if_pos rfl, if_pos (by rw [leftD_len]; exact hi), leftD_get hi]
    simp [bump]
  · rw [if_neg h]
    by_cases h2 : j < D.length
    · rw [leftD_get h2, leftD_get h2]
      have h' : ¬ j = i := fun q => h q.symm
      simp [bump, h']
    · rw [List.getElem?_eq_none (by rw [leftD_len]; omega), List.getElem?_eq_none (by rw [leftD_len]; omega)]
structure LS (K : PySem.W.Frag) (H : Hp) (th ll : Addr) (as : List Addr) (W : Web) (roots : List Nat) (D : List (List Deed)) (dn : Nat → Nat) : Prop where
  ht : ∃ L : List Nat, H th = some (.lst (L.map vNat)) ∧ (∀ t, t ∈ L ↔ thB W roots D dn t = true) ∧ L.length + restN D dn ≤ 6 + restN D zero
  l : ∃ xss, LL2 H ll as xss ∧ LD K H xss (leftD D dn)
  nt : th ≠ ll ∧ th ∉ as
theorem LS.same {K : PySem.W.Frag} {H H' : Hp} {th ll : Addr} {as : List Addr} {W : Web} {roots : List Nat} {D : List (List Deed)} {dn : Nat → Nat} (h : LS K H th ll as W roots D dn) (e : Same H H') : LS K H' th ll as W roots D dn := by
  obtain ⟨⟨L, h1, h2, h3⟩, ⟨xss, h4, h5⟩, h6⟩ := h
  exact ⟨⟨L, e _ _ h1, h2, h3⟩, ⟨xss, h4.same e, h5.mono (keep_same e)⟩, h6⟩
theorem LS.alen {K : PySem.W.Frag} {H : Hp} {th ll : Addr} {as : List Addr} {W : Web} {roots : List Nat} {D : List (List Deed)} {dn : Nat → Nat} (h : LS K H th ll as W roots D dn) : as.length = D.length := by
  obtain ⟨xss, h4, h5⟩ := h.l
  rw [h4.len, h5.1, leftD_len]
theorem LS.row {K : PySem.W.Frag} {H : Hp} {th ll : Addr} {as : List Addr} {W : Web} {roots : List Nat} {D : List (List Deed)} {dn : Nat → Nat} (h : LS K H th ll as W roots D dn) {i : Nat} {a : Addr} (ha : as[i]? = some a) :
    ∃ xs, H a = some (.lst xs) ∧ TpAll K H xs (((rowD D i).drop (dn i)).map dDeed) := by
  obtain ⟨xss, h4, h5⟩ := h.l
  have hi : i < D.length := by rw [← h.alen]; exact (List.getElem?_eq_some_iff.mp ha).1
  have h1 := h4.len
  have h2 := h5.1
  rw [leftD_len] at h2
  obtain ⟨xs, hxs⟩ : ∃ xs, xss[i]? = some xs := ⟨xss[i]'(by omega), List.getElem?_eq_getElem _⟩
  exact ⟨xs, h4.at_ i a xs ha hxs, h5.2 i xs _ hxs (leftD_get hi)⟩
/-- one deed done: the row popped -/
theorem LS.pop {K : PySem.W.Frag} {H : Hp} {th ll : Addr} {as : List Addr} {W : Web} {roots : List Nat} {D : List (List Deed)} {dn : Nat → Nat} (h : LS K H th ll as W roots D dn) {i : Nat} {a : Addr} {v : V} {xs : List V} {d : Deed} (ha : as[i]? = some a) (hH : H a = some (.lst (v :: xs)))
    (hd : (rowD D i)[dn i]? = some d) (hx : TpAll K H (v :: xs) (((rowD D i).drop (dn i)).map dDeed)) (hg : gv W d = none) : LS K (upd H a (.lst xs)) th ll as W roots D (bump dn i) := by
  obtain ⟨⟨L, h1, h2, h3⟩, ⟨xss, h4, h5⟩, h6, h7⟩ := h
  have hl : as.length = D.length := by rw [h4.len, h5.1, leftD_len]
  have hi : i < D.length := by rw [← hl]; exact (List.getElem?_eq_some_iff.mp ha).1
  have nta : th ≠ a := fun e => h7 (e ▸ List.mem_of_getElem? ha)
  have kk : Keep K H (upd H a (.lst xs)) := keep_upd hH rfl
  have hlt : dn i < (rowD D i).length := (List.getElem?_eq_some_iff.mp hd).1
  have hbr := bump_rest (dn := dn) hi hlt
  have ht2 := hx
  rw [List.drop_eq_getElem_cons hlt, List.map_cons] at ht2
  obtain ⟨v', ys', ee, _, htl⟩ := ht2.inv
  injection ee with e1 e2
  subst e1; subst e2
  refine ⟨⟨L, by rw [upd_ne nta]; exact h1, fun t => ?_, by omega⟩, ⟨xss.set i xs, h4.set ha xs, ?_⟩, h6, h7⟩
  · rw [thB_bump hi hd t, hg, h2 t]
    simp
  · rw [leftD_bump hi]
    refine ⟨by rw [List.length_set, List.length_set]; exact h5.1, fun n zs ds a1 b1 => ?_⟩
    by_cases hn : i = n
    · subst hn
      rw [List.getElem?_set_self (by rw [h5.1, leftD_len]; exact hi)] at a1
      rw [List.getElem?_set_self (by rw [leftD_len]; exact hi)] at b1
      cases a1; cases b1
      exact htl.mono kk
    · rw [List.getElem?_set_ne hn] at a1 b1
      exact (h5.2 n zs ds a1 b1).mono kk
/-- and a tie's node come to -/
theorem LS.popDown {K : PySem.W.Frag} {H : Hp} {th ll : Addr} {as : List Addr} {W : Web} {roots : List Nat} {D : List (List Deed)} {dn : Nat → Nat} (h : LS K H th ll as W roots D dn) {i : Nat} {a : Addr} {v : V} {xs : List V} {d : Deed} {t : Nat} (ha : as[i]? = some a) (hH : H a = some (.lst (v :: xs)))
    (hd : (rowD D i)[dn i]? = some d) (hx : TpAll K H (v :: xs) (((rowD D i).drop (dn i)).map dDeed)) (hg : gv W d = some t) :
    ∃ L : List Nat, (upd H a (.lst xs)) th = some (.lst (L.map vNat)) ∧ L.length + restN D dn ≤ 6 + restN D zero ∧ LS K (upd (upd H a (.lst xs)) th (.lst (L.map vNat ++ [vNat t]))) th ll as W roots D (bump dn i) := by
  obtain ⟨⟨L, h1, h2, h3⟩, ⟨xss, h4, h5⟩, h6, h7⟩ := h
  have hl : as.length = D.length := by rw [h4.len, h5.1, leftD_len]
  have hi : i < D.length := by rw [← hl]; exact (List.getElem?_eq_some_iff.mp ha).1
  have nta : th ≠ a := fun e => h7 (e ▸ List.mem_of_getElem? ha)
  have hth : (upd H a (.lst xs)) th = some (.lst (L.map vNat)) := by rw [upd_ne nta]; exact h1
  have k1 : Keep K H (upd H a (.lst xs)) := keep_upd hH rfl
  have kk : Keep K H (upd (upd H a (.lst xs)) th (.lst (L.map vNat ++ [vNat t]))) := k1.trans (keep_upd hth rfl)
  have hlt : dn i < (rowD D i).length := (List.getElem?_eq_some_iff.mp hd).1
  have hbr := bump_rest (dn := dn) hi hlt
  have ht2 := hx
  rw [List.drop_eq_getElem_cons hlt, List.map_cons] at ht2
  obtain ⟨v', ys', ee, _, htl⟩ := ht2.inv
  injection ee with e1 e2
  subst e1; subst e2
  refine ⟨L, hth, h3, ⟨⟨L ++ [t], by rw [upd_same, List.map_append]; rfl, fun u => ?_, by rw [List.length_append, List.length_singleton]; omega⟩, ⟨xss.set i xs, ?_, ?_⟩, h6, h7⟩⟩
  · rw [thB_bump hi hd u, hg, Bool.or_eq_true, List.mem_append, h2 u]
    constructor
    · rintro (h | h)
      · exact .inl h
      · simp at h
        subst h
        exact .inr (by simp)
    · rintro (h | h)
      · exact .inl h
      · simp at h
        subst h
        exact .inr (by simp)
  · refine (h4.set ha xs).keep fun b o hb e => ?_
    have : b ≠ th := by
      rcases hb with hb | hb
      · rw [hb]; exact h6.symm
      · exact fun z => h7 (z ▸ hb)
    rw [upd_ne this]
    exact e
  · rw [leftD_bump hi]
    refine ⟨by rw [List.length_set, List.length_set]; exact h5.1, fun n zs ds a1 b1 => ?_⟩
    by_cases hn : i = n
    · subst hn
      rw [List.getElem?_set_self (by rw [h5.1, leftD_len]; exact hi)] at a1
      rw [List.getElem?_set_self (by rw [leftD_len]; exact hi)] at b1
      cases a1; cases b1
      exact htl.mono kk
    · rw [List.getElem?_set_ne hn] at a1 b1
      exact (h5.2 n zs ds a1 b1).mono kk
def DOk (W : Web) (D : List (List Deed)) : Prop := D.length ≤ 6 ∧ ∀ row, row ∈ D → row.length ≤ 1000 ∧ ∀ d, d ∈ row → DeedIn W d
theorem rest_le {W : Web} {D : List (List Deed)} (h : DOk W D) : restN D zero ≤ 6000 := by
  have : ∀ n, n ≤ D.length → ((List.range n).map fun i => (rowD D i).length - zero i).sum ≤ n * 1000 := by
    intro n
    induction n with
    | zero => intro _; simp
    | succ n ih =>
      intro hn
      rw [List.range_succ, List.map_append, List.sum_append]
      have h1 := ih (by omega)
      have h2 := (h.2 _ (rowD_mem (show n < D.length by omega))).1
      have h3 : ([n].map fun i => (rowD D i).length - zero i).sum = (rowD D n).length - zero n := by simp
      rw [h3]
      have h4 := Nat.sub_le (rowD D n).length (zero n)
      omega
  have h1 := this D.length (Nat.le_refl _)
  have h2 := h.1
  unfold restN
  omega
def stuckTie (W : Web) (D : List (List Deed)) (dn : Nat → Nat) : Option Nat := match firstLeft D dn with
  | none => none
  | some i => ((rowD D i)[dn i]?).bind (tieD W)
def spStuck (K : PySem.W.Frag) : Sp := fun vs H Q _ => ∃ w r dl W roots D ys, vs = [w, r, .ref dl] ∧ Tp K H w (dWeb W) ∧ Tp K H r (dNats roots) ∧ H dl = some (.lst ys) ∧ TpAll K H ys (D.map fun row => .tuple (row.map dDeed)) ∧ DOk W D ∧ roots.length ≤ 6 ∧
  ∀ dn, Goes W roots D dn → Stuck W roots D dn → ∀ H', Same H H' → Q (vTie (stuckTie W D dn)) H'
section
variable {P : Program} {w : World} {K : PySem.W.Frag} {mg : Str → Option Value} {base : Heap}
theorem scWaits : FnScope ["_law_web", "_law_there", "_law_deed"] ["_law_web", "_law_there", "_law_deed"] (defScope sWaits) := ⟨rfl, rfl, rfl, by decide +kernel, rfl, by decide +kernel, by decide +kernel⟩
theorem ok_waits {f : Addr} {fd : FuncData} (F : Fun K "_law_waits" "_law_waits" sWaits f fd) : FnOk P w K mg base CX0 1 f fd ["_law_web", "_law_there", "_law_deed"] (spWaits K) := by
  refine F.ok scWaits (fun vs H Q E h => ?_) (fun cdv A outer s H vs Q E hr h => ?_)
  · obtain ⟨w, th, v, W, L, d, rfl, _⟩ := h
    rfl
  · obtain ⟨wv, th, v, W, L, d, rfl, hW, hth, hv, hin, k⟩ := h
    refine ⟨_, (pss_one (ps_ret (pe_and (pe_cmpR op_eq (pe_ix (ix_D K) (pv 2) pe_int (fun _ _ => rfl)) pe_str (nomark _)) (pe_and (pe_cmpR op_notN (pe_ix (ix_D K) (pe_ix (ix_D K) (pv 0) (pe_ix (ix_D K) (pv 2) pe_int (fun _ _ => rfl)) (fun _ _ => rfl)) (pe_ix (ix_D K) (pv 2) pe_int (fun _ _ => rfl)) (fun _ _ => rfl)) pe_non (nomark _)) (pe_one (pe_cmpR op_notIn_seq (pe_ix (ix_D K) (pe_ix (ix_D K) (pv 0) (pe_ix (ix_D K) (pv 2) pe_int (fun _ _ => rfl)) (fun _ _ => rfl)) (pe_ix (ix_D K) (pv 2) pe_int (fun _ _ => rfl)) (fun _ _ => rfl)) (pv 1) (by rfl))))))), ?_⟩
    obtain ⟨ds0, hds0, hd0⟩ := deed0 hv
    refine ⟨_, rfl, _, 0, _, hds0, rfl, hd0, fun v0 h0 => ?_⟩
    have e0 := h0.str_inv
    subst e0
    refine ⟨rfl, _, rfl, ?_⟩
    cases d with
    | skip x c =>
      rw [show decide (V.str (kindD (.skip x c)) = V.str "skip") = true from by simp [kindD]]
      have hwt : wt W (.skip x c) = tieAt W x c := rfl
      refine iteT ⟨_, rfl, _, rfl, _, 1, _, hv, rfl, rfl, fun v1 h1 => ?_⟩
      have e1 := nat_val h1
      subst e1
      refine ⟨_, x, _, hW, rfl, web_get hin.1, fun r1 hr1 => ⟨_, rfl, _, 2, _, hv, rfl, rfl, fun v2 h2 => ?_⟩⟩
      have e2 := nat_val h2
      subst e2
      refine ⟨_, c, _, hr1, rfl, tie_get hin.2, fun t1 ht1 => ?_⟩
      have e3 := tie_val ht1
      subst e3
      refine ⟨rfl, _, rfl, ?_⟩
      have hw : waitsB W L (.skip x c) = match tieAt W x c with | none => false | some t => !decide (t ∈ L) := rfl
      rw [hw] at k
      cases hti : tieAt W x c with
      | none =>
        rw [hti] at k
        exact iteF k
      | some t =>
        rw [hti] at k
        refine iteT ⟨_, rfl, _, rfl, _, 1, _, hv, rfl, rfl, fun v3 h3 => ?_⟩
        have e1 := nat_val h3
        subst e1
        refine ⟨_, x, _, hW, rfl, web_get hin.1, fun r2 hr2 => ⟨_, rfl, _, 2, _, hv, rfl, rfl, fun v4 h4 => ?_⟩⟩
        have e2 := nat_val h4
        subst e2
        refine ⟨_, c, _, hr2, rfl, tie_get hin.2, fun t2 ht2 => ?_⟩
        have e3 := tie_val ht2
        subst e3
        have etv : vTie (tieAt W x c) = vNat t := by rw [hti]; rfl
        rw [etv]
        refine ⟨_, rfl, th, _, rfl, .inl (SqL.of hth), rfl, flat_nats _, ?_⟩
        rw [inV_nats]
        exact k
    | down x c =>
      rw [show decide (V.str (kindD (.down x c)) = V.str "skip") = false from by show decide (V.str "down" = V.str "skip") = false; decide +kernel]
      exact iteF k
    | up x =>
      rw [show decide (V.str (kindD (.up x)) = V.str "skip") = false from by show decide (V.str "up" = V.str "skip") = false; decide +kernel]
      exact iteF k
    | stop x =>
      rw [show decide (V.str (kindD (.stop x)) = V.str "skip") = false from by show decide (V.str "stop" = V.str "skip") = false; decide +kernel]
      exact iteF k
/-- not waiting is able -/
theorem waits_en {W : Web} {roots : List Nat} {D : List (List Deed)} {dn : Nat → Nat} {L : List Nat} (hL : ∀ t, t ∈ L ↔ thB W roots D dn t = true) {i : Nat} {d : Deed} (hd : (rowD D i)[dn i]? = some d) : (!waitsB W L d) = en W roots D dn i := by
  have e : en W roots D dn i = enD W roots D dn d := by
    unfold en
    rw [hd]
  rw [e]
  cases hw : wt W d with
  | none => simp [waitsB, enD, hw]
  | some t =>
    have e1 : waitsB W L d = !decide (t ∈ L) := by simp [waitsB, hw]
    have e2 : enD W roots D dn d = thB W roots D dn t := by simp [enD, hw]
    rw [e1, e2, Bool.not_not]
    by_cases h : t ∈ L
    · rw [decide_eq_true h, (hL t).mp h]
    · rw [decide_eq_false h]
      cases hb : thB W roots D dn t with
      | false => rfl
      | true => exact absurd ((hL t).mpr hb) h
theorem leftD_zero (D : List (List Deed)) : leftD D zero = D.map (·.map dDeed) := by
  apply List.ext_getElem?
  intro j
  by_cases h : j < D.length
  · rw [leftD_get h, List.getElem?_map]
    unfold rowD
    rw [List.getD_eq_getElem?_getD, List.getElem?_eq_getElem h]
    simp [zero]
  · rw [List.getElem?_eq_none (by rw [leftD_len]; omega), List.getElem?_eq_none (by rw [List.length_map]; omega)]
/-- the rows that are not at their end -/
def fiL (D : List (List Deed)) (dn : Nat → Nat) (n : Nat) : List Nat := (List.range n).filter fun i => decide (dn i < (rowD D i).length)
abbrev nStuck : List Str := ["_law_web", "_law_roots", "_law_deeds", "_law_there", "_law_row", "_law_left", "_law_is_new", "_law_deed"]
theorem scStuck : FnScope nStuck ["_law_web", "_law_roots", "_law_deeds"] (defScope sStuck) := ⟨rfl, rfl, rfl, by decide +kernel, rfl, by decide +kernel, by decide +kernel⟩
theorem ok_stuck {f f1 : Addr} {fd fd1 : FuncData} (F : Fun K "_law_stuck" "_law_stuck" sStuck f fd) (T : Bt mg) (G1 : FnOk P w K mg base CX0 1 f1 fd1 ["_law_web", "_law_there", "_law_deed"] (spWaits K)) (D1 : Dn K mg "_law_waits" f1 fd1 ["_law_web", "_law_there", "_law_deed"]) :
    FnOk P w K mg base CX0 2 f fd ["_law_web", "_law_roots", "_law_deeds"] (spStuck K) := by
  refine F.ok scStuck (fun vs H Q E h => ?_) (fun cdv A outer s H vs Q E hr h => ?_)
  · obtain ⟨w, r, dl, W, roots, D, ys, rfl, _⟩ := h
    rfl
  · obtain ⟨wv, rv, dl, W, roots, D, ys, rfl, hW, hR, hdl, hys, hok, hr6, k⟩ := h
    refine ⟨_, (pss_cons (ps_set (i := 3) scStuck.nd rfl (Or.inl rfl) (pe_callTy (call_lstD K) (by rfl) T.list (by decide +kernel) (pa_cons (pv 1) pa_nil)))
      (pss_cons (ps_setLc (i := 5) (own := [("_law_row", 4)]) (g := (gName 4)) (tt := tYes) rfl scStuck.nd rfl rfl (sw_true rfl rfl rfl (by decide +kernel)) (pi_list (pv 2)) (blkOk_by (N := nStuck) (sc := defScope sStuck) (by decide +kernel)) (fun _ _ _ _ _ => (pg_name (i := 4) scStuck.nd rfl (Or.inl rfl))) (fun _ _ _ _ _ => pts_nil) (fun _ _ _ _ _ => (pe_callTy (call_lstD K) (by rfl) T.list (by decide +kernel) (pa_cons (pv 4) pa_nil))))
      (pss_cons (ps_set (i := 6) scStuck.nd rfl (Or.inl rfl) pe_bl)
      (pss_cons (ps_while PassesOwn.never (pt_val (pv 6)) (pss_cons (ps_set (i := 6) scStuck.nd rfl (Or.inl rfl) pe_bl)
      (pss_one (ps_for PassesOwn.never rfl (pi_list (pv 5)) (pg_name (i := 4) scStuck.nd rfl (Or.inl rfl)) (pss_one (ps_while PassesOwn.never (PW.pt (pw_and (pt_cmpR (op_neDK K hr.units) (pv 4) (pe_lst pa_nil) (nomark _)) (pw_and1 (pt_not (pt_val (pe_call G1 hr (by rfl) D1.mgf D1.kp D1.b .nil pass0 (pa_cons (pv 0) (pa_cons (pv 3) (pa_cons (pe_ix ix_list (pv 4) pe_int (fun _ _ => rfl)) pa_nil))))))))) (pss_cons (ps_set (i := 7) scStuck.nd rfl (Or.inl rfl) (pe_bm PySem.F.plainAttrs_list PySem.F.slot_list_pop PySem.F.type_list_pop mt_popAt (pv 4) (pa_cons pe_int pa_nil)))
      (pss_cons (ps_set (i := 6) scStuck.nd rfl (Or.inl rfl) pe_bl)
      (pss_one (ps_if (pt_cmpR op_eq (pe_ix (ix_D K) (pv 7) pe_int (fun _ _ => rfl)) pe_str (nomark _)) (pss_one (ps_expr (pe_bm PySem.F.plainAttrs_list PySem.F.slot_list_append PySem.F.type_list_append mt_append (pv 3) (pa_cons (pe_ix (ix_D K) (pe_ix (ix_D K) (pv 0) (pe_ix (ix_D K) (pv 7) pe_int (fun _ _ => rfl)) (fun _ _ => rfl)) (pe_ix (ix_D K) (pv 7) pe_int (fun _ _ => rfl)) (fun _ _ => rfl)) pa_nil)))) pss_nil))))))))))
      (pss_cons (ps_setLc (i := 5) (own := [("_law_row", 4)]) (g := (gName 4)) rfl scStuck.nd rfl rfl (sw_true rfl rfl rfl (by decide +kernel)) (pi_list (pv 5)) (blkOk_by (N := nStuck) (sc := defScope sStuck) (by decide +kernel)) (fun _ _ _ _ _ => (pg_name (i := 4) scStuck.nd rfl (Or.inl rfl))) (fun _ _ _ _ _ => (pts_one (pt_cmpR (op_neDK K hr.units) (pv 4) (pe_lst pa_nil) (nomark _)))) (fun _ _ _ _ _ => (pv 4)))
      (pss_one (ps_ret (pe_ifExp (pt_cmpR (op_eqD hr.units) (pv 5) (pe_lst pa_nil) (nomark _)) pe_non (pe_ix (ix_D K) (pe_ix (ix_D K) (pv 0) (pe_ix (ix_D K) (pe_ix ix_list (pe_ix ix_list (pv 5) pe_int (fun _ _ => rfl)) pe_int (fun _ _ => rfl)) pe_int (fun _ _ => rfl)) (fun _ _ => rfl)) (pe_ix (ix_D K) (pe_ix ix_list (pe_ix ix_list (pv 5) pe_int (fun _ _ => rfl)) pe_int (fun _ _ => rfl)) pe_int (fun _ _ => rfl)) (fun _ _ => rfl)))))))))), ?_⟩
    -- there
    refine ⟨_, rfl, _, _, rfl, hR, fun th yr hth hyr => ?_⟩
    have eyr := tpAll_natsV hyr
    subst eyr
    have s1 := same_new (o := .lst (roots.map vNat)) hth
    have hth1 : (upd H th (.lst (roots.map vNat))) th = some (.lst (roots.map vNat)) := upd_same
    generalize upd H th (.lst (roots.map vNat)) = H1 at *
    -- left
    have hdl1 := s1 _ _ hdl
    have hyd : TpAll K H1 ys ((D.map (·.map dDeed)).map .tuple) := by
      rw [List.map_map]
      exact hys.mono (keep_same s1)
    have hyl : ys.length = D.length := by rw [hys.1, List.length_map]
    have hk6 := hok.1
    refine ⟨_, rfl, dl, rfl, ⟨_, SqL.of hdl1⟩, ?_⟩
    refine lc_lists (K := K) (walk_list (K := K) (a := dl) (xs := ys)) (fun H' s' => SqL.of (s' _ _ hdl1)) hyd (by omega) (by show 4 < 8; decide) fun ll as xss H2 s2 hll has hL hld => ?_
    have nth : th ≠ ll ∧ th ∉ as := ⟨ne_of_none hth1 hll, fun hm => by have := has th hm; rw [hth1] at this; cases this⟩
    have s02 := s1.trans s2
    have hLS0 : LS K H2 th ll as W roots D zero := ⟨⟨roots, s2 _ _ hth1, fun t => by rw [thB_zero]; simp, by omega⟩, ⟨xss, hL, by rw [leftD_zero]; exact hld⟩, nth⟩
    have frT : H th = none := hth
    have frL : H ll = none := s1.free hll
    have frA : ∀ a, a ∈ as → H a = none := fun a ha => s1.free (has a ha)
    have hrest := rest_le hok
    -- what changes leave alone
    have sameUpd : ∀ {H' : Hp} {a : Addr} {o : HO}, Same H H' → H a = none → Same H (upd H' a o) := fun s' h => Evl.Ex.mut s' h
    refine while_m (fun m σ H' => ∃ dn b y4 y7, σ = [some wv, some rv, some (.ref dl), some (.ref th), y4, some (.ref ll), some (.bl b), y7] ∧ Goes W roots D dn ∧ Same H H' ∧ LS K H' th ll as W roots D dn ∧ (b = true → m = restN D dn + 1) ∧ (b = false → m = 0 ∧ Stuck W roots D dn))
      (restN D zero + 1) ⟨zero, true, _, _, rfl, .zero, s02, hLS0, fun _ => rfl, fun h => by cases h⟩ ?_
    rintro m σ H3 ⟨dn, b, y4, y7, rfl, hgo, s3, hLS, hmt, hmf⟩
    refine ⟨b, fun H' => H' = H3, fun Q' hQ' => ⟨_, rfl, _, rfl, hQ' _ rfl⟩, fun H' e' => ?_⟩
    subst e'
    have hal := hLS.alen
    cases b with
    | true =>
      have em := hmt rfl
      subst em
      refine iteT ?_
      refine ⟨_, rfl, ll, rfl, ⟨_, SqL.of hLS.l.choose_spec.1.lst⟩, ?_⟩
      refine for_it (walk_list (K := K) (a := ll) (xs := as.map V.ref)) (fun i σ H4 => ∃ dn' b y4 y7, σ = [some wv, some rv, some (.ref dl), some (.ref th), y4, some (.ref ll), some (.bl b), y7] ∧ Goes W roots D dn' ∧ Same H H4 ∧ LS K H4 th ll as W roots D dn' ∧
          (b = false → dn' = dn ∧ ∀ j, j < i → en W roots D dn j = false) ∧ (b = true → restN D dn' < restN D dn))
        ⟨dn, false, _, _, rfl, hgo, s3, hLS, fun _ => ⟨rfl, fun j hj => absurd hj (Nat.not_lt_zero j)⟩, fun h => by cases h⟩ (fun i σ H4 _ q => by obtain ⟨_, _, _, _, _, _, _, q2, _⟩ := q; exact SqL.of q2.l.choose_spec.1.lst) ?_ ?_
      · rintro i x σ H4 H5 hi ⟨dn', b, y4', y7', rfl, hgo', s4, hLS', hbf, hbt⟩ ⟨rfl, hx⟩
        obtain ⟨a, ha, rfl⟩ := map_get hx
        rw [List.length_map, hal] at hi
        have hle : restN D dn' ≤ restN D dn := by
          cases b with
          | true => exact Nat.le_of_lt (hbt rfl)
          | false => rw [(hbf rfl).1]; exact Nat.le_refl _
        refine while_m (fun m σ H6 => ∃ dn' b y7, σ = [some wv, some rv, some (.ref dl), some (.ref th), some (.ref a), some (.ref ll), some (.bl b), y7] ∧ Goes W roots D dn' ∧ Same H H6 ∧ LS K H6 th ll as W roots D dn' ∧
            (b = false → dn' = dn ∧ ∀ j, j < i → en W roots D dn j = false) ∧ (b = true → restN D dn' < restN D dn) ∧ m = restN D dn' ∧ restN D dn' ≤ restN D dn)
          (restN D dn') ⟨dn', b, _, rfl, hgo', s4, hLS', hbf, hbt, rfl, hle⟩ ?_
        rintro m σ H6 ⟨dn2, b2, y7'', rfl, hgo2, s6, hLS2, hbf2, hbt2, rfl, hle2⟩
        obtain ⟨xs, hHa, hxs⟩ := hLS2.row ha
        refine ⟨en W roots D dn2 i, fun H' => Same H6 H', fun Q' hQ' => ?_, fun H7 s67 => ?_⟩
        · refine ⟨_, rfl, Nat.zero_le _, fun q hq => ?_⟩
          have s7 := same_new (o := .lst []) hq
          have hx7 := hxs.mono (keep_same s7)
          have hHa7 := s7 _ _ hHa
          refine ⟨_, .list [], dp_list (SqL.of hHa7) hx7, .lst (SqL.of upd_same) .nil, (sh_row _).ok, (sh_nats []).ok, _, rfl, ?_⟩
          rw [eqv_nil]
          have hLS7 := hLS2.same s7
          have hQ7 := hQ' _ s7
          have s07 := s6.trans s7
          generalize upd H6 q (.lst []) = H7 at *
          rcases Nat.lt_or_ge (dn2 i) (rowD D i).length with hlt | hge
          · obtain ⟨d, hd⟩ : ∃ d, (rowD D i)[dn2 i]? = some d := ⟨_, List.getElem?_eq_getElem hlt⟩
            have hdr : (rowD D i).drop (dn2 i) = d :: (rowD D i).drop (dn2 i + 1) := by
              rw [List.drop_eq_getElem_cons hlt]
              rw [List.getElem?_eq_getElem hlt] at hd
              cases hd
              rfl
            rw [hdr] at hx7 ⊢
            obtain ⟨v, xs', rfl, hv, htl⟩ := hx7.inv
            obtain ⟨L, hL1, hL2, _⟩ := hLS7.ht
            have hin := (hok.2 _ (rowD_mem hi)).2 d (List.mem_of_getElem? hd)
            refine iteT ⟨_, rfl, _, rfl, _, rfl, a, _, _, v, rfl, rfl, SqL.of hHa7, at_of (j := 0) rfl rfl, ?_⟩
            refine ⟨wv, th, v, W, L, d, rfl, hW.mono (keep_same s07), hL1, hv, hin, _, rfl, ?_⟩
            show Q' (!waitsB W L d) H7
            rw [waits_en hL2 hd]
            exact hQ7
          · have hdr : (rowD D i).drop (dn2 i) = [] := List.drop_of_length_le hge
            rw [hdr]
            have hen : en W roots D dn2 i = false := by
              unfold en
              rw [List.getElem?_eq_none hge]
            rw [hen] at hQ7
            exact iteF hQ7
        · have hLS7 := hLS2.same s67
          have s07 := s6.trans s67
          have hxs7 := hxs.mono (keep_same s67)
          have hHa7 := s67 _ _ hHa
          cases hen : en W roots D dn2 i with
          | false =>
            refine iteF ⟨dn2, b2, _, _, rfl, hgo2, s07, hLS7, fun h => ⟨(hbf2 h).1, fun j hj => ?_⟩, hbt2⟩
            rcases Nat.lt_or_ge j i with h' | h'
            · exact (hbf2 h).2 j h'
            · have : j = i := by omega
              subst this
              rw [← (hbf2 h).1]
              exact hen
          | true =>
            have hlt := en_lt hen
            obtain ⟨d, hd⟩ : ∃ d, (rowD D i)[dn2 i]? = some d := ⟨_, List.getElem?_eq_getElem hlt⟩
            have hdr : (rowD D i).drop (dn2 i) = d :: (rowD D i).drop (dn2 i + 1) := by
              rw [List.drop_eq_getElem_cons hlt]
              rw [List.getElem?_eq_getElem hlt] at hd
              cases hd
              rfl
            have hx8 := hxs7
            rw [hdr] at hx8
            obtain ⟨v, xs', rfl, hv, htl⟩ := hx8.inv
            have hin := (hok.2 _ (rowD_mem hi)).2 d (List.mem_of_getElem? hd)
            have hbr := bump_rest (dn := dn2) hi hlt
            have frAa := frA a (List.mem_of_getElem? ha)
            have k8 : Keep K H7 (upd H7 a (.lst xs')) := keep_upd hHa7 rfl
            -- deed = row.pop(0)
            refine iteT ⟨_, rfl, .inl ⟨rfl, _, SqL.of hHa7⟩, a, _, 0, 0, v, rfl, rfl, hHa7, (by decide), (by decide), ?_, rfl, ?_⟩
            · simp [seqIndex?]
            · show tSeq _ _ _ _ (upd H7 a (.lst xs'))
              have hW8 := (hW.mono (keep_same s07)).mono k8
              have hv8 := hv.mono k8
              obtain ⟨ds0, hds0, hd0⟩ := deed0 hv8
              refine ⟨_, rfl, _, 0, _, hds0, rfl, hd0, fun v0 h0 => ?_⟩
              have e0 := h0.str_inv
              subst e0
              refine ⟨rfl, _, rfl, ?_⟩
              have fin : ∀ H9, Same H H9 → LS K H9 th ll as W roots D (bump dn2 i) → ∃ m', m' < restN D dn2 ∧ ∃ dn' b y7, ([some wv, some rv, some (.ref dl), some (.ref th), some (.ref a), some (.ref ll), some (.bl true), some v] : L2.St) = [some wv, some rv, some (.ref dl), some (.ref th), some (.ref a), some (.ref ll), some (.bl b), y7] ∧ Goes W roots D dn' ∧ Same H H9 ∧ LS K H9 th ll as W roots D dn' ∧
                  (b = false → dn' = dn ∧ ∀ j, j < i → en W roots D dn j = false) ∧ (b = true → restN D dn' < restN D dn) ∧ m' = restN D dn' ∧ restN D dn' ≤ restN D dn := fun H9 s9 hL9 =>
                ⟨restN D (bump dn2 i), by omega, bump dn2 i, true, _, rfl, .fire hgo2 hi hen, s9, hL9, fun h => (by cases h), fun _ => by omega, rfl, by omega⟩
              cases d with
              | down x c =>
                rw [show decide (V.str (kindD (.down x c)) = V.str "down") = true from by simp [kindD]]
                obtain ⟨h1, h2, t, ht⟩ := hin
                obtain ⟨L, hL1, hL2, hL3⟩ := hLS7.popDown ha hHa7 hd hxs7 (t := t) ht
                refine iteT ⟨_, rfl, .inl ⟨rfl, _, SqL.of hL1⟩, _, rfl, _, rfl, _, 1, _, hv8, rfl, rfl, fun v1 hv1 => ?_⟩
                have e1 := nat_val hv1
                subst e1
                refine ⟨_, x, _, hW8, rfl, web_get h1, fun r1 hr1 => ⟨_, rfl, _, 2, _, hv8, rfl, rfl, fun v2 hv2 => ?_⟩⟩
                have e2 := nat_val hv2
                subst e2
                refine ⟨_, c, _, hr1, rfl, tie_get h2, fun t1 ht1 => ?_⟩
                have e3 := tie_val ht1
                subst e3
                have etv : vTie (tieAt W x c) = vNat t := by rw [ht]; rfl
                rw [etv]
                refine ⟨th, _, _, rfl, rfl, hL1, by rw [List.length_map]; exact Nat.lt_of_le_of_lt (show L.length ≤ 6006 by omega) (by decide), ?_⟩
                exact fin _ (sameUpd (sameUpd s07 frAa) frT) hL3
              | skip x c =>
                rw [show decide (V.str (kindD (.skip x c)) = V.str "down") = false from by show decide (V.str "skip" = V.str "down") = false; decide +kernel]
                exact iteF (fin _ (sameUpd s07 frAa) (hLS7.pop ha hHa7 hd hxs7 rfl))
              | up x =>
                rw [show decide (V.str (kindD (.up x)) = V.str "down") = false from by show decide (V.str "up" = V.str "down") = false; decide +kernel]
                exact iteF (fin _ (sameUpd s07 frAa) (hLS7.pop ha hHa7 hd hxs7 rfl))
              | stop x =>
                rw [show decide (V.str (kindD (.stop x)) = V.str "down") = false from by show decide (V.str "stop" = V.str "down") = false; decide +kernel]
                exact iteF (fin _ (sameUpd s07 frAa) (hLS7.pop ha hHa7 hd hxs7 rfl))
      · rintro σ H4 ⟨dn', b, y4', y7', rfl, hgo', s4, hLS', hbf, hbt⟩
        rw [List.length_map, hal] at hbf
        cases b with
        | true => exact ⟨restN D dn' + 1, by have := hbt rfl; omega, dn', true, _, _, rfl, hgo', s4, hLS', fun _ => rfl, fun h => by cases h⟩
        | false =>
          obtain ⟨e1, e2⟩ := hbf rfl
          exact ⟨0, by omega, dn', false, _, _, rfl, hgo', s4, hLS', fun h => (by cases h), fun _ => ⟨rfl, by rw [e1]; exact e2⟩⟩
    | false =>
      obtain ⟨_, hst⟩ := hmf rfl
      have kq := k dn hgo hst
      refine iteF ?_
      obtain ⟨xss3, hL3, hld3⟩ := hLS.l
      have hxl := hld3.1
      rw [leftD_len] at hxl
      refine ⟨_, rfl, ll, rfl, ⟨_, SqL.of hL3.lst⟩, fun D2 hD2 => ?_⟩
      have fiS : ∀ n, fiL D dn (n + 1) = fiL D dn n ++ (if dn n < (rowD D n).length then [n] else []) := fun n => by
        unfold fiL
        rw [List.range_succ, List.filter_append]
        by_cases h : dn n < (rowD D n).length <;> simp [h]
      have fiLen : ∀ n, (fiL D dn n).length ≤ n := fun n => by
        have := List.length_filter_le (fun i => decide (dn i < (rowD D i).length)) (List.range n)
        unfold fiL
        simpa using this
      refine lc_it (walk_list (K := K) (a := ll) (xs := as.map V.ref)) (fun i H4 => Same H' H4 ∧ H4 D2 = some (.lst ((fiL D dn i).map fun i => V.ref (as.getD i 0)))) ⟨same_new hD2, upd_same⟩ (fun i H4 _ q => SqL.of (q.1 _ _ hL3.lst)) ?_ ?_
      · rintro i x H4 H5 hi ⟨s4, hD4⟩ ⟨rfl, hx⟩
        obtain ⟨a, ha, rfl⟩ := map_get hx
        rw [List.length_map, hal] at hi
        obtain ⟨xs, hHa, hxs⟩ := hLS.row ha
        have hag : as.getD i 0 = a := by rw [List.getD_eq_getElem?_getD, ha]; rfl
        refine ⟨rfl, _, rfl, Nat.zero_le _, fun q hq => ?_⟩
        have s5 := s4.trans (same_new (o := .lst []) hq)
        have hD5 := same_new (o := .lst []) hq _ _ hD4
        refine ⟨_, .list [], dp_list (SqL.of (s5 _ _ hHa)) (hxs.mono (keep_same s5)), .lst (SqL.of upd_same) .nil, (sh_row _).ok, (sh_nats []).ok, _, rfl, ?_⟩
        rw [eqv_nil]
        have hfl := fiLen i
        rcases Nat.lt_or_ge (dn i) (rowD D i).length with hlt | hge
        · have e0 : (List.map dDeed ((rowD D i).drop (dn i))).isEmpty = false := by
            rw [List.drop_eq_getElem_cons hlt]
            rfl
          rw [e0]
          refine iteT ⟨_, rfl, _, hD5, by rw [List.length_map]; exact small1000 (by omega), Evl.Ex.mut s5 hD2, ?_⟩
          rw [upd_same, fiS, if_pos hlt, List.map_append]
          show some (HO.lst ((fiL D dn i).map (fun i => V.ref (as.getD i 0)) ++ [V.ref a])) = some (HO.lst ((fiL D dn i).map (fun i => V.ref (as.getD i 0)) ++ [V.ref (as.getD i 0)]))
          rw [hag]
        · have e0 : (List.map dDeed ((rowD D i).drop (dn i))).isEmpty = true := by
            rw [List.drop_of_length_le hge]
            rfl
          rw [e0]
          refine iteF ⟨s5, ?_⟩
          rw [fiS, if_neg (by omega), List.append_nil]
          exact hD5
      · rintro H4 ⟨s4, hD4⟩
        rw [List.length_map, hal] at hD4
        refine ⟨_, rfl, Nat.zero_le _, fun q hq => ?_⟩
        have s5 := s4.trans (same_new (o := .lst []) hq)
        have hD5 := same_new (o := .lst []) hq _ _ hD4
        have hLS5 := hLS.same s5
        have hdp : Dp K (upd H4 q (.lst [])) (.ref D2) (.list ((fiL D dn D.length).map fun i => .list (((rowD D i).drop (dn i)).map dDeed))) := by
          refine .lst (SqL.of hD5) (dpAll_of (by simp) fun n v d hv hd => ?_)
          obtain ⟨i, hi, rfl⟩ := map_get hv
          obtain ⟨i', hi', rfl⟩ := map_get hd
          rw [hi] at hi'
          cases hi'
          have hiD : i < D.length := by
            have := (List.mem_filter.mp (List.mem_of_getElem? hi)).1
            simpa using this
          have ha : as[i]? = some (as.getD i 0) := by rw [List.getD_eq_getElem?_getD, List.getElem?_eq_getElem (by omega)]; rfl
          obtain ⟨xs, hHa, hxs⟩ := hLS5.row ha
          exact dp_list (SqL.of hHa) hxs
        have hsh : Sh 3 (.list ((fiL D dn D.length).map fun i => .list (((rowD D i).drop (dn i)).map dDeed))) := sh_list fun d hd => by
          obtain ⟨i, _, rfl⟩ := List.mem_map.mp hd
          exact sh_row _
        refine ⟨_, .list [], hdp, .lst (SqL.of upd_same) .nil, hsh.ok, (sh_nats []).ok, _, rfl, ?_⟩
        rw [eqv_nil]
        have hhd : (fiL D dn D.length).head? = firstLeft D dn := by
          unfold fiL firstLeft
          exact List.head?_filter
        have s05 := s3.trans s5
        have hfin := kq _ s05
        cases hf : fiL D dn D.length with
        | nil =>
          rw [hf] at hhd
          have hfl : firstLeft D dn = none := hhd.symm
          refine iteT ?_
          unfold stuckTie at hfin
          rw [hfl] at hfin
          exact hfin
        | cons i rest =>
          rw [hf] at hhd hD5
          have hfl : firstLeft D dn = some i := hhd.symm
          obtain ⟨hiD, hlt⟩ := firstLeft_some hfl
          obtain ⟨x, c, t, hd, ht⟩ := stuck_waits hst hiD hlt
          have ha : as[i]? = some (as.getD i 0) := by rw [List.getD_eq_getElem?_getD, List.getElem?_eq_getElem (by omega)]; rfl
          obtain ⟨xs, hHa, hxs⟩ := hLS5.row ha
          have hdr : (rowD D i).drop (dn i) = .skip x c :: (rowD D i).drop (dn i + 1) := by
            rw [List.drop_eq_getElem_cons hlt]
            rw [List.getElem?_eq_getElem hlt] at hd
            injection hd with hd
            rw [hd]
          rw [hdr] at hxs
          obtain ⟨v, xs', rfl, hv, htl⟩ := hxs.inv
          have hin := (hok.2 _ (rowD_mem hiD)).2 _ (List.mem_of_getElem? hd)
          have hst' : stuckTie W D dn = tieAt W x c := by
            unfold stuckTie
            rw [hfl]
            show ((rowD D i)[dn i]?).bind (tieD W) = _
            rw [hd]
            rfl
          rw [hst'] at hfin
          have hW5 := hW.mono (keep_same s05)
          refine iteF ⟨_, rfl, _, rfl, D2, _, _, V.ref (as.getD i 0), rfl, rfl, SqL.of hD5, at_of (j := 0) rfl rfl, _, _, _, v, rfl, rfl, SqL.of hHa, at_of (j := 0) rfl rfl, _, 1, _, hv, rfl, rfl, fun v1 hv1 => ?_⟩
          have e1 := nat_val hv1
          subst e1
          refine ⟨_, x, _, hW5, rfl, web_get hin.1, fun r1 hr1 => ?_⟩
          refine ⟨_, rfl, D2, _, _, V.ref (as.getD i 0), rfl, rfl, SqL.of hD5, at_of (j := 0) rfl rfl, _, _, _, v, rfl, rfl, SqL.of hHa, at_of (j := 0) rfl rfl, _, 2, _, hv, rfl, rfl, fun v2 hv2 => ?_⟩
          have e2 := nat_val hv2
          subst e2
          refine ⟨_, c, _, hr1, rfl, tie_get hin.2, fun t1 ht1 => ?_⟩
          have e3 := tie_val ht1
          subst e3
          exact hfin
end
end Tb
end
section
set_option Elab.async false
set_option linter.all false
set_option maxRecDepth 100000
set_option maxHeartbeats 4000000
/-! The law's least order: _law_turns. -/
namespace Tb
open PySem PySem.Spec PyProof.Rows L2
theorem eqv_empties : ∀ dss : List (List PyData), PyData.eqv (.list (dss.map .list)) (.list (List.replicate dss.length (.list []))) = dss.all (·.isEmpty)
  | [] => by simp [PyData.eqv, PyData.eqvAll]
  | ds :: dss => by
    have ih := eqv_empties dss
    simp only [PyData.eqv] at ih
    have e := eqv_nil ds
    simp only [List.map_cons, List.length_cons, List.replicate_succ, PyData.eqv, PyData.eqvAll, List.all_cons]
    simp only [PyData.eqv] at e
    rw [ih, e]
theorem left_all {D : List (List Deed)} {dn : Nat → Nat} : (leftD D dn).all (·.isEmpty) = !(firstLeft D dn).isSome := by
  cases hf : firstLeft D dn with
  | none =>
    have h : ∀ i, i < D.length → ¬ dn i < (rowD D i).length := fun i hi => by
      unfold firstLeft at hf
      have := List.find?_eq_none.mp hf i (List.mem_range.mpr hi)
      simpa using this
    show (leftD D dn).all (·.isEmpty) = true
    rw [List.all_eq_true]
    intro x hx
    unfold leftD at hx
    obtain ⟨i, hi, rfl⟩ := List.mem_map.mp hx
    have := h i (List.mem_range.mp hi)
    rw [List.drop_of_length_le (by omega)]
    rfl
  | some i =>
    obtain ⟨hi, hlt⟩ := firstLeft_some hf
    show (leftD D dn).all (·.isEmpty) = false
    rw [List.all_eq_false]
    refine ⟨_, List.mem_of_getElem? (leftD_get hi), ?_⟩
    rw [List.drop_eq_getElem_cons hlt]
    simp [hlt]
theorem stuck_next {W : Web} {roots : List Nat} {D : List (List Deed)} {dn : Nat → Nat} (h : Stuck W roots D dn) : nextOne W roots D dn = none := find_range_none h
def spLTurns (K : PySem.W.Frag) : Sp := fun vs H Q _ => ∃ w r dl W roots D ys, vs = [w, r, .ref dl] ∧ Tp K H w (dWeb W) ∧ Tp K H r (dNats roots) ∧ H dl = some (.lst ys) ∧ TpAll K H ys (D.map fun row => .tuple (row.map dDeed)) ∧ DOk W D ∧ roots.length ≤ 6 ∧ Ends_ W roots D ∧
  ∀ v' H', Same H H' → Tp K H' v' (dNats ((order W roots D).map (· + 1))) → Q v' H'
section
variable {P : Program} {w : World} {K : PySem.W.Frag} {mg : Str → Option Value} {base : Heap}
abbrev nLTurns : List Str := ["_law_web", "_law_roots", "_law_deeds", "_law_there", "_law_left", "_law_found", "_law_able", "_law_walker", "_law_deed", "_law_row", "_law_at"]
theorem scLTurns : FnScope nLTurns ["_law_web", "_law_roots", "_law_deeds"] (defScope sLTurns) := ⟨rfl, rfl, rfl, by decide +kernel, rfl, by decide +kernel, by decide +kernel⟩
theorem ok_lturns {f f1 : Addr} {fd fd1 : FuncData} (F : Fun K "_law_turns" "_law_turns" sLTurns f fd) (T : Bt mg) (G1 : FnOk P w K mg base CX0 1 f1 fd1 ["_law_web", "_law_there", "_law_deed"] (spWaits K)) (D1 : Dn K mg "_law_waits" f1 fd1 ["_law_web", "_law_there", "_law_deed"]) :
    FnOk P w K mg base CX0 2 f fd ["_law_web", "_law_roots", "_law_deeds"] (spLTurns K) := by
  refine F.ok scLTurns (fun vs H Q E h => ?_) (fun cdv A outer s H vs Q E hr h => ?_)
  · obtain ⟨w, r, dl, W, roots, D, ys, rfl, _⟩ := h
    rfl
  · obtain ⟨wv, rv, dl, W, roots, D, ys, rfl, hW, hR, hdl, hys, hok, hr6, hends, k⟩ := h
    refine ⟨_, (pss_cons (ps_set (i := 3) scLTurns.nd rfl (Or.inr rfl) (pe_callTy (call_lstD K) (by rfl) T.list (by decide +kernel) (pa_cons (pv 1) pa_nil)))
      (pss_cons (ps_setLc (i := 4) (own := [("_law_row", 9)]) (g := (gName 9)) (tt := tYes) rfl scLTurns.nd rfl rfl (sw_true rfl rfl rfl (by decide +kernel)) (pi_list (pv 2)) (blkOk_by (N := nLTurns) (sc := defScope sLTurns) (by decide +kernel)) (fun _ _ _ _ _ => (pg_name (i := 9) scLTurns.nd rfl (Or.inl rfl))) (fun _ _ _ _ _ => pts_nil) (fun _ _ _ _ _ => (pe_callTy (call_lstD K) (by rfl) T.list (by decide +kernel) (pa_cons (pv 9) pa_nil))))
      (pss_cons (ps_set (i := 5) scLTurns.nd rfl (Or.inl rfl) (pe_lst pa_nil))
      (pss_cons (ps_while PassesOwn.never (pt_cmpR (op_neD hr.units) (pv 4) (pe_op op_rep (pe_lst (pa_cons (pe_lst pa_nil) pa_nil)) (pe_callB call_len_seq (by rfl) T.len PySem.boot_len (pa_cons (pv 4) pa_nil))) (nomark _)) (pss_cons (ps_setLc (i := 6) (own := [("_law_at", 10), ("_law_row", 9)]) (g := (gTup K 2 (gCons (gName 10) (gCons (gName 9) gNil)))) rfl scLTurns.nd rfl rfl (sw_true rfl rfl rfl (by decide +kernel)) (pi_enum (by rfl) T.enumerate (pa_cons (pv 4) pa_nil)) (blkOk_by (N := nLTurns) (sc := defScope sLTurns) (by decide +kernel)) (fun _ _ _ _ _ => (pg_tup rfl (pgs_cons (pg_name (i := 10) scLTurns.nd rfl (Or.inl rfl)) (pgs_cons (pg_name (i := 9) scLTurns.nd rfl (Or.inl rfl)) pgs_nil)))) (fun _ _ _ _ _ => (pts_one (PW.pt (pw_and (pt_cmpR (op_neDK K hr.units) (pv 9) (pe_lst pa_nil) (nomark _)) (pw_and1 (pt_not (pt_val (pe_call G1 hr (by rfl) D1.mgf D1.kp D1.b .nil pass0 (pa_cons (pv 0) (pa_cons (pv 3) (pa_cons (pe_ix (ix_listK K) (pv 9) pe_int (fun _ _ => rfl)) pa_nil))))))))))) (fun _ _ _ _ _ => (pv 10)))
      (pss_cons (ps_set (i := 7) scLTurns.nd rfl (Or.inl rfl) (pe_ix ix_list (pv 6) pe_int (fun _ _ => rfl)))
      (pss_cons (ps_set (i := 8) scLTurns.nd rfl (Or.inl rfl) (pe_bm PySem.F.plainAttrs_list PySem.F.slot_list_pop PySem.F.type_list_pop mt_popAt (pe_ix ix_list (pv 4) (pv 7) (fun _ _ => rfl)) (pa_cons pe_int pa_nil)))
      (pss_cons (ps_expr (pe_bm PySem.F.plainAttrs_list PySem.F.slot_list_append PySem.F.type_list_append mt_append (pv 5) (pa_cons (pe_op op_add (pv 7) pe_int) pa_nil)))
      (pss_one (ps_if (pt_cmpR op_eq (pe_ix (ix_D K) (pv 8) pe_int (fun _ _ => rfl)) pe_str (nomark _)) (pss_one (ps_expr (pe_bm PySem.F.plainAttrs_list PySem.F.slot_list_append PySem.F.type_list_append mt_append (pv 3) (pa_cons (pe_ix (ix_D K) (pe_ix (ix_D K) (pv 0) (pe_ix (ix_D K) (pv 8) pe_int (fun _ _ => rfl)) (fun _ _ => rfl)) (pe_ix (ix_D K) (pv 8) pe_int (fun _ _ => rfl)) (fun _ _ => rfl)) pa_nil)))) pss_nil)))))))
      (pss_one (ps_ret (pe_callTy (call_tupD K) (by rfl) T.tuple (by decide +kernel) (pa_cons (pv 5) pa_nil)))))))), ?_⟩
    -- there
    refine ⟨_, rfl, _, _, rfl, hR, fun th yr hth hyr => ?_⟩
    have eyr := tpAll_natsV hyr
    subst eyr
    have s1 := same_new (o := .lst (roots.map vNat)) hth
    have hth1 : (upd H th (.lst (roots.map vNat))) th = some (.lst (roots.map vNat)) := upd_same
    generalize upd H th (.lst (roots.map vNat)) = H1 at *
    -- left
    have hdl1 := s1 _ _ hdl
    have hyd : TpAll K H1 ys ((D.map (·.map dDeed)).map .tuple) := by
      rw [List.map_map]
      exact hys.mono (keep_same s1)
    have hyl : ys.length = D.length := by rw [hys.1, List.length_map]
    have hk6 := hok.1
    refine ⟨_, rfl, dl, rfl, ⟨_, SqL.of hdl1⟩, ?_⟩
    refine lc_lists (K := K) (walk_list (K := K) (a := dl) (xs := ys)) (fun H' s' => SqL.of (s' _ _ hdl1)) hyd (by omega) (by show 9 < 11; decide) fun ll as xss H2 s2 hll has hL hld => ?_
    have nth : th ≠ ll ∧ th ∉ as := ⟨ne_of_none hth1 hll, fun hm => by have := has th hm; rw [hth1] at this; cases this⟩
    have s02 := s1.trans s2
    have hLS0 : LS K H2 th ll as W roots D zero := ⟨⟨roots, s2 _ _ hth1, fun t => by rw [thB_zero]; simp, by omega⟩, ⟨xss, hL, by rw [leftD_zero]; exact hld⟩, nth⟩
    have frT : H th = none := hth
    have frL : H ll = none := s1.free hll
    have frA : ∀ a, a ∈ as → H a = none := fun a ha => s1.free (has a ha)
    have hrest := rest_le hok
    have sameUpd : ∀ {H' : Hp} {a : Addr} {o : HO}, Same H H' → H a = none → Same H (upd H' a o) := fun s' h => Evl.Ex.mut s' h
    -- found
    refine ⟨Nat.zero_le _, fun fo hfo => ?_⟩
    have s03 := s02.trans (same_new (o := .lst []) hfo)
    have hLS1 := hLS0.same (same_new (o := .lst []) hfo)
    have frF : H fo = none := s02.free hfo
    have nft : fo ≠ th := by
      obtain ⟨L, h1, _⟩ := hLS0.ht
      exact (ne_of_none h1 hfo).symm
    have nfl : fo ≠ ll := (ne_of_none hL.lst hfo).symm
    have nfa : fo ∉ as := fun hm => by
      obtain ⟨n, hn⟩ := List.mem_iff_getElem?.mp hm
      obtain ⟨xs, hx, _⟩ := hLS0.row hn
      rw [hfo] at hx
      cases hx
    obtain ⟨dnE, hgE, hsE, hfE⟩ := hends
    refine while_m (fun m σ H' => ∃ dn fired f y6 y7 y8, σ = [some wv, some rv, some (.ref dl), some (.ref th), some (.ref ll), some (.ref fo), y6, y7, y8, none, none] ∧ Goes W roots D dn ∧ Same H H' ∧ LS K H' th ll as W roots D dn ∧ H' fo = some (.lst ((fired.map (· + 1)).map vNat)) ∧
        order W roots D = fired ++ greedy W roots D f dn ∧ restN D dn ≤ f ∧ fired.length + restN D dn = restN D zero ∧ m = restN D dn)
      (restN D zero) ⟨zero, [], _, _, _, _, rfl, .zero, s03, hLS1, upd_same, rfl, Nat.le_refl _, by simp, rfl⟩ ?_
    rintro m σ H3 ⟨dn, fired, f, y6, y7, y8, rfl, hgo, s3, hLS, hf3, hord, hfu, hlen, rfl⟩
    have hal := hLS.alen
    refine ⟨(firstLeft D dn).isSome, fun H' => Same H3 H', fun Q' hQ' => ?_, fun H4 s34 => ?_⟩
    · obtain ⟨xss3, hL3, hld3⟩ := hLS.l
      refine ⟨_, rfl, Nat.zero_le _, fun q hq => ⟨(by show 1 ≤ sizeLine; decide), fun q2 hq2 => ?_⟩⟩
      have s4 : Same H3 (upd (upd H3 q (.lst [])) q2 (.lst [V.ref q])) := (same_new hq).trans (same_new hq2)
      have hq4 : (upd (upd H3 q (.lst [])) q2 (.lst [V.ref q])) q = some (.lst []) := same_new hq2 _ _ upd_same
      have hq24 : (upd (upd H3 q (.lst [])) q2 (.lst [V.ref q])) q2 = some (.lst [V.ref q]) := upd_same
      generalize upd (upd H3 q (.lst [])) q2 (.lst [V.ref q]) = H4 at *
      have hL4 := hL3.same s4
      refine ⟨_, rfl, ll, _, rfl, .inl (SqL.of hL4.lst), ?_⟩
      have eal : (((as.map V.ref).length : Nat) : Int) = (D.length : Int) := by rw [List.length_map, hal]
      rw [eal]
      refine ⟨q2, _, _, rfl, rfl, hq24, by omega, by omega, ?_, fun q3 hq3 => ?_⟩
      · rw [Int.toNat_natCast]
        exact Nat.le_trans (show [V.ref q].length * D.length ≤ 6 by simp; omega) (by decide)
      · rw [Int.toNat_natCast, flat_rep]
        have s5 := s4.trans (same_new (o := .lst (List.replicate D.length (V.ref q))) hq3)
        have hL5 := hL3.same s5
        have hld5 := hld3.mono (keep_same s5)
        have hd2 : Dp K (upd H4 q3 (.lst (List.replicate D.length (V.ref q)))) (.ref q3) (.list (List.replicate (leftD D dn).length (.list []))) := by
          refine .lst (SqL.of upd_same) (dpAll_of (by rw [leftD_len]; simp) fun n v d hv hd => ?_)
          rw [List.getElem?_replicate] at hv hd
          split at hv
          · cases hv
            split at hd
            · cases hd
              exact .lst (SqL.of (same_new hq3 _ _ hq4)) .nil
            · cases hd
          · cases hv
        have sh1 : Sh 3 (.list ((leftD D dn).map .list)) := sh_list fun d hd => by
          obtain ⟨ds, hds, rfl⟩ := List.mem_map.mp hd
          unfold leftD at hds
          obtain ⟨i, _, rfl⟩ := List.mem_map.mp hds
          exact sh_row _
        have sh2 : Sh 3 (.list (List.replicate (leftD D dn).length (.list []))) := sh_list fun d hd => by
          have := (List.mem_replicate.mp hd).2
          subst this
          exact ⟨(sh_nats []).1, Nat.le_trans (sh_nats []).2 (by decide)⟩
        refine ⟨_, _, dp_ll hL5 hld5, hd2, sh1.ok, sh2.ok, _, rfl, ?_⟩
        rw [eqv_empties, left_all, Bool.not_not]
        exact hQ' _ s5
    · have s04 := s3.trans s34
      have hLS4 := hLS.same s34
      have hf4 := s34 _ _ hf3
      cases hfl : firstLeft D dn with
      | none =>
        have hdone := firstLeft_none hgo hfl
        have hst := done_stuck (W := W) (roots := roots) hdone
        have hg : greedy W roots D f dn = [] := greedy_end (stuck_next hst)
        rw [hg, List.append_nil] at hord
        refine iteF ⟨_, rfl, fo, _, _, rfl, SqL.of hf4, tpAll_nats _, fun v' H5 s5 hv' => k v' H5 (s04.trans s5) ?_⟩
        rw [hord]
        exact hv'
      | some i0 =>
        obtain ⟨i, hnx⟩ : ∃ i, nextOne W roots D dn = some i := by
          cases hn : nextOne W roots D dn with
          | some i => exact ⟨i, rfl⟩
          | none =>
            have e := stuck_one hgo (nextOne_none hn) hgE hsE
            rw [e, hfE] at hfl
            cases hfl
        obtain ⟨hiD, hen⟩ := nextOne_some hnx
        obtain ⟨xss4, hL4, hld4⟩ := hLS4.l
        have abS : ∀ n, (List.range (n + 1)).filter (en W roots D dn) = (List.range n).filter (en W roots D dn) ++ (if en W roots D dn n = true then [n] else []) := fun n => by
          rw [List.range_succ, List.filter_append]
          by_cases h : en W roots D dn n = true <;> simp [h]
        have abLen : ∀ n, ((List.range n).filter (en W roots D dn)).length ≤ n := fun n => by
          have := List.length_filter_le (en W roots D dn) (List.range n)
          simpa using this
        -- able
        refine iteT ⟨_, rfl, ll, _, rfl, SqL.of hL4.lst, fun D2 hD2 => ?_⟩
        refine lc_it (walk_enum (K := K) (a := ll) (xs := as.map V.ref)) (fun n H5 => Same H4 H5 ∧ H5 D2 = some (.lst (((List.range n).filter (en W roots D dn)).map vNat))) ⟨same_new hD2, upd_same⟩ (fun n H5 _ q => SqL.of (q.1 _ _ hL4.lst)) ?_ ?_
        · rintro n x H5 H6 hn ⟨s5, hD5⟩ ⟨T1, xv, yv, rfl, hT1, rfl, hxv, hyv⟩
          cases hxv
          obtain ⟨a, ha, rfl⟩ := map_get hyv
          rw [List.length_map, hal] at hn
          have s6 := s5.trans (same_new (o := .tup [.int (n : Nat), V.ref a]) hT1)
          have hD6 := same_new (o := .tup [.int (n : Nat), V.ref a]) hT1 _ _ hD5
          refine g2_ok (SqT.of upd_same) ⟨rfl, ?_⟩
          generalize upd H5 T1 (.tup [.int (n : Nat), V.ref a]) = H6 at *
          have hLS6 := hLS4.same s6
          obtain ⟨xs, hHa, hxs⟩ := hLS6.row ha
          refine test_via (en W roots D dn n) (fun H' => Same H6 H') (fun Q' hQ' => ?_) (fun H7 s67 => ?_)
          · refine ⟨_, rfl, Nat.zero_le _, fun q hq => ?_⟩
            have s7 := same_new (o := .lst []) hq
            have hx7 := hxs.mono (keep_same s7)
            have hHa7 := s7 _ _ hHa
            refine ⟨_, .list [], dp_list (SqL.of hHa7) hx7, .lst (SqL.of upd_same) .nil, (sh_row _).ok, (sh_nats []).ok, _, rfl, ?_⟩
            rw [eqv_nil]
            have hLS7 := hLS6.same s7
            have hQ7 := hQ' _ s7
            have s07 := (s04.trans s6).trans s7
            generalize upd H6 q (.lst []) = H7 at *
            rcases Nat.lt_or_ge (dn n) (rowD D n).length with hlt | hge
            · obtain ⟨d, hd⟩ : ∃ d, (rowD D n)[dn n]? = some d := ⟨_, List.getElem?_eq_getElem hlt⟩
              have hdr : (rowD D n).drop (dn n) = d :: (rowD D n).drop (dn n + 1) := by
                rw [List.drop_eq_getElem_cons hlt]
                rw [List.getElem?_eq_getElem hlt] at hd
                cases hd
                rfl
              rw [hdr] at hx7 ⊢
              obtain ⟨v, xs', rfl, hv, htl⟩ := hx7.inv
              obtain ⟨L, hL1, hL2, _⟩ := hLS7.ht
              have hin := (hok.2 _ (rowD_mem hn)).2 d (List.mem_of_getElem? hd)
              refine iteT ⟨_, rfl, _, rfl, _, rfl, a, _, _, v, rfl, rfl, SqL.of hHa7, at_of (j := 0) rfl rfl, ?_⟩
              refine ⟨wv, th, v, W, L, d, rfl, hW.mono (keep_same s07), hL1, hv, hin, _, rfl, ?_⟩
              show Q' (!waitsB W L d) H7
              rw [waits_en hL2 hd]
              exact hQ7
            · have hdr : (rowD D n).drop (dn n) = [] := List.drop_of_length_le hge
              rw [hdr]
              have hen' : en W roots D dn n = false := by
                unfold en
                rw [List.getElem?_eq_none hge]
              rw [hen'] at hQ7
              exact iteF hQ7
          · have hD7 := s67 _ _ hD6
            have habl := abLen n
            cases hn2 : en W roots D dn n with
            | true =>
              refine iteT ⟨_, rfl, _, hD7, by rw [List.length_map]; exact small1000 (by omega), Evl.Ex.mut (s6.trans s67) hD2, ?_⟩
              rw [upd_same, abS, if_pos hn2, List.map_append]
              rfl
            | false =>
              refine iteF ⟨s6.trans s67, ?_⟩
              rw [abS, if_neg (by rw [hn2]; decide), List.append_nil]
              exact hD7
        · rintro H5 ⟨s5, hD5⟩
          rw [List.length_map, hal] at hD5
          have hhd : ((List.range D.length).filter (en W roots D dn)).head? = some i := by
            rw [List.head?_filter]
            exact hnx
          obtain ⟨rest, hab⟩ : ∃ rest, (List.range D.length).filter (en W roots D dn) = i :: rest := by
            cases hc : (List.range D.length).filter (en W roots D dn) with
            | nil => rw [hc] at hhd; cases hhd
            | cons y r =>
              rw [hc] at hhd
              cases hhd
              exact ⟨r, rfl⟩
          rw [hab] at hD5
          have hLS5 := hLS4.same s5
          have s05 := s04.trans s5
          have hf5 := s5 _ _ hf4
          obtain ⟨xss5, hL5, hld5⟩ := hLS5.l
          have ha : as[i]? = some (as.getD i 0) := by rw [List.getD_eq_getElem?_getD, List.getElem?_eq_getElem (by omega)]; rfl
          generalize as.getD i 0 = a at *
          obtain ⟨xs, hHa, hxs⟩ := hLS5.row ha
          have hlt := en_lt hen
          obtain ⟨d, hd⟩ : ∃ d, (rowD D i)[dn i]? = some d := ⟨_, List.getElem?_eq_getElem hlt⟩
          have hdr : (rowD D i).drop (dn i) = d :: (rowD D i).drop (dn i + 1) := by
            rw [List.drop_eq_getElem_cons hlt]
            rw [List.getElem?_eq_getElem hlt] at hd
            cases hd
            rfl
          have hx8 := hxs
          rw [hdr] at hx8
          obtain ⟨v, xs', rfl, hv, htl⟩ := hx8.inv
          have hin := (hok.2 _ (rowD_mem hiD)).2 d (List.mem_of_getElem? hd)
          obtain ⟨f', hgr, hf', hff⟩ := greedy_go hnx hfu
          have hbr := bump_rest (dn := dn) hiD hlt
          have mema := List.mem_of_getElem? ha
          have frAa := frA a mema
          have nfa' : fo ≠ a := fun z => nfa (z ▸ mema)
          have k8 : Keep K H5 (upd H5 a (.lst xs')) := keep_upd hHa rfl
          -- walker = able[0]; deed = left[walker].pop(0)
          refine ⟨_, rfl, D2, _, _, vNat i, rfl, rfl, SqL.of hD5, at_of (j := 0) rfl rfl, ?_⟩
          refine ⟨_, rfl, _, rfl, ll, _, _, V.ref a, rfl, rfl, SqL.of hL5.lst, atI_nat (get_mapV ha), .inl ⟨rfl, _, SqL.of hHa⟩, a, _, 0, 0, v, rfl, rfl, hHa, (by decide), (by decide), ?_, rfl, ?_⟩
          · simp [seqIndex?]
          · show tSeq _ _ _ _ (upd H5 a (.lst xs'))
            have hf6 : (upd H5 a (.lst xs')) fo = some (.lst ((fired.map (· + 1)).map vNat)) := by rw [upd_ne nfa']; exact hf5
            have efi : ((fired.map (· + 1)).map vNat) ++ [vNat (i + 1)] = (((fired ++ [i]).map (· + 1)).map vNat) := by simp
            -- found.append(walker + 1)
            refine ⟨_, rfl, .inl ⟨rfl, _, SqL.of hf6⟩, _, rfl, _, _, rfl, rfl, fo, _, vNat (i + 1), rfl, rfl, hf6, ?_, ?_⟩
            · rw [List.length_map, List.length_map]
              exact Nat.lt_of_le_of_lt (show fired.length ≤ 6000 by omega) (by decide)
            rw [efi]
            have k9 : Keep K H5 (upd (upd H5 a (.lst xs')) fo (.lst (((fired ++ [i]).map (· + 1)).map vNat))) := k8.trans (keep_upd hf6 rfl)
            have hW9 := (hW.mono (keep_same s05)).mono k9
            have hv9 := hv.mono k9
            have lsKeep : ∀ {H' : Hp} {dn' : Nat → Nat}, LS K H' th ll as W roots D dn' → ∀ o p, H' fo = some (.lst p) → LS K (upd H' fo (.lst o)) th ll as W roots D dn' := fun {H' dn'} h o p hp => by
              obtain ⟨⟨L, h1, h2, h3⟩, ⟨yss, h4, h5⟩, h6⟩ := h
              refine ⟨⟨L, by rw [upd_ne nft.symm]; exact h1, h2, h3⟩, ⟨yss, h4.keep fun b ob hb e => ?_, h5.mono (keep_upd hp rfl)⟩, h6⟩
              have : b ≠ fo := by
                rcases hb with hb | hb
                · rw [hb]; exact nfl.symm
                · exact fun z => nfa (z ▸ hb)
              rw [upd_ne this]
              exact e
            obtain ⟨ds0, hds0, hd0⟩ := deed0 hv9
            have s9 : Same H (upd (upd H5 a (.lst xs')) fo (.lst (((fired ++ [i]).map (· + 1)).map vNat))) := sameUpd (sameUpd s05 frAa) frF
            refine ⟨_, rfl, _, 0, _, hds0, rfl, hd0, fun v0 h0 => ?_⟩
            have e0 := h0.str_inv
            subst e0
            refine ⟨rfl, _, rfl, ?_⟩
            have fin : ∀ (y6 : Option V) H9, Same H H9 → LS K H9 th ll as W roots D (bump dn i) → H9 fo = some (.lst (((fired ++ [i]).map (· + 1)).map vNat)) →
                ∃ m', m' < restN D dn ∧ ∃ dn' fired' f y6' y7 y8, ([some wv, some rv, some (.ref dl), some (.ref th), some (.ref ll), some (.ref fo), y6, some (vNat i), some v, none, none] : L2.St) = [some wv, some rv, some (.ref dl), some (.ref th), some (.ref ll), some (.ref fo), y6', y7, y8, none, none] ∧ Goes W roots D dn' ∧ Same H H9 ∧ LS K H9 th ll as W roots D dn' ∧
                  H9 fo = some (.lst ((fired'.map (· + 1)).map vNat)) ∧ order W roots D = fired' ++ greedy W roots D f dn' ∧ restN D dn' ≤ f ∧ fired'.length + restN D dn' = restN D zero ∧ m' = restN D dn' := fun y6 H9 s9 hL9 hf9 =>
              ⟨restN D (bump dn i), by omega, bump dn i, fired ++ [i], f', _, _, _, rfl, .fire hgo hiD hen, s9, hL9, hf9, by rw [hord, hgr, List.append_assoc]; rfl, hf', by rw [List.length_append, List.length_singleton]; omega, rfl⟩
            cases d with
            | down x c =>
              rw [show decide (V.str (kindD (.down x c)) = V.str "down") = true from by simp [kindD]]
              obtain ⟨h1, h2, t, ht⟩ := hin
              obtain ⟨L, hL1, hL2, hL3⟩ := hLS5.popDown ha hHa hd hxs (t := t) ht
              have hth9 : (upd (upd H5 a (.lst xs')) fo (.lst (((fired ++ [i]).map (· + 1)).map vNat))) th = some (.lst (L.map vNat)) := by rw [upd_ne nft.symm]; exact hL1
              refine iteT ⟨_, rfl, .inl ⟨rfl, _, SqL.of hth9⟩, _, rfl, _, rfl, _, 1, _, hv9, rfl, rfl, fun v1 hv1 => ?_⟩
              have e1 := nat_val hv1
              subst e1
              refine ⟨_, x, _, hW9, rfl, web_get h1, fun r1 hr1 => ⟨_, rfl, _, 2, _, hv9, rfl, rfl, fun v2 hv2 => ?_⟩⟩
              have e2 := nat_val hv2
              subst e2
              refine ⟨_, c, _, hr1, rfl, tie_get h2, fun t1 ht1 => ?_⟩
              have e3 := tie_val ht1
              subst e3
              have etv : vTie (tieAt W x c) = vNat t := by rw [ht]; rfl
              rw [etv]
              refine ⟨th, _, _, rfl, rfl, hth9, by rw [List.length_map]; exact Nat.lt_of_le_of_lt (show L.length ≤ 6006 by omega) (by decide), ?_⟩
              have ecomm : upd (upd (upd H5 a (.lst xs')) fo (.lst (((fired ++ [i]).map (· + 1)).map vNat))) th (.lst (L.map vNat ++ [vNat t])) = upd (upd (upd H5 a (.lst xs')) th (.lst (L.map vNat ++ [vNat t]))) fo (.lst (((fired ++ [i]).map (· + 1)).map vNat)) := by
                funext b
                by_cases hb1 : b = th
                · subst hb1
                  rw [upd_same, upd_ne nft.symm, upd_same]
                · rw [upd_ne hb1]
                  by_cases hb2 : b = fo
                  · subst hb2
                    rw [upd_same, upd_same]
                  · rw [upd_ne hb2, upd_ne hb2, upd_ne hb1]
              have hfo2 : (upd (upd H5 a (.lst xs')) th (.lst (L.map vNat ++ [vNat t]))) fo = some (.lst ((fired.map (· + 1)).map vNat)) := by rw [upd_ne nft]; exact hf6
              refine fin _ _ (sameUpd s9 frT) ?_ ?_
              · rw [ecomm]
                exact lsKeep hL3 _ _ hfo2
              · rw [ecomm, upd_same]
            | skip x c =>
              rw [show decide (V.str (kindD (.skip x c)) = V.str "down") = false from by show decide (V.str "skip" = V.str "down") = false; decide +kernel]
              exact iteF (fin _ _ s9 (lsKeep (hLS5.pop ha hHa hd hxs rfl) _ _ hf6) upd_same)
            | up x =>
              rw [show decide (V.str (kindD (.up x)) = V.str "down") = false from by show decide (V.str "up" = V.str "down") = false; decide +kernel]
              exact iteF (fin _ _ s9 (lsKeep (hLS5.pop ha hHa hd hxs rfl) _ _ hf6) upd_same)
            | stop x =>
              rw [show decide (V.str (kindD (.stop x)) = V.str "down") = false from by show decide (V.str "stop" = V.str "down") = false; decide +kernel]
              exact iteF (fin _ _ s9 (lsKeep (hLS5.pop ha hHa hd hxs rfl) _ _ hf6) upd_same)
end
end Tb
end
section
set_option Elab.async false
set_option linter.all false
set_option maxRecDepth 100000
set_option maxHeartbeats 4000000
/-! The law's drawing. -/
namespace Tb
open PySem PySem.Spec PyProof.Rows L2
abbrev sStarted : Stmt := top 41
abbrev sDraw : Stmt := top 42
abbrev sOf : Stmt := top 43
abbrev kS : Key := .inr ("script" : Str)
abbrev kA : Key := .inr ("at" : Str)
abbrev kR : Key := .inr ("rest" : Str)
/-- the drawing's state: at m, over the heap H0 in which the script stands -/
structure MD (K : PySem.W.Frag) (H0 H : Hp) (m sa rl : Addr) (k : Nat) (ns rs : List Int) : Prop where
  d : ∃ kvs : List (Key × V), H m = some (.dK kvs) ∧ valV kvs kS = some (.ref sa) ∧ valV kvs kA = some (vNat k) ∧ valV kvs kR = some (.ref rl) ∧ kvs.length ≤ 10
  s : SqL K H0 sa (ns.map V.int)
  r : H rl = some (.lst (rs.map V.int))
  len : rs.length = ns.length
  n63 : ns.length ≤ 63
  same : Same H0 H
  m0 : H0 m = none
  r0 : H0 rl = none
theorem MD.keep {K : PySem.W.Frag} {H0 H H' : Hp} {m sa rl : Addr} {k : Nat} {ns rs : List Int} (h : MD K H0 H m sa rl k ns rs) (e : Same H H') : MD K H0 H' m sa rl k ns rs := by
  obtain ⟨⟨kvs, h1, h2⟩, h3, h4, h5, h6, h7, h8, h9⟩ := h
  exact ⟨⟨kvs, e _ _ h1, h2⟩, h3, e _ _ h4, h5, h6, h7.trans e, h8, h9⟩
/-- all but the drawing's own is as it was -/
def FrM (K : PySem.W.Frag) (H H' : Hp) (m rl : Addr) : Prop := (∀ b o, H b = some o → b ≠ m → b ≠ rl → H' b = some o) ∧ Keep K H H'
theorem FrM.refl (K : PySem.W.Frag) (H : Hp) (m rl : Addr) : FrM K H H m rl := ⟨fun _ _ e _ _ => e, Keep.refl H⟩
theorem FrM.trans {K : PySem.W.Frag} {H H1 H2 : Hp} {m rl : Addr} (a : FrM K H H1 m rl) (b : FrM K H1 H2 m rl) : FrM K H H2 m rl := ⟨fun x o e n1 n2 => b.1 x o (a.1 x o e n1 n2) n1 n2, a.2.trans b.2⟩
theorem FrM.of {K : PySem.W.Frag} {H H1 : Hp} {m rl : Addr} (a : Same H H1) : FrM K H H1 m rl := ⟨fun x o e _ _ => a x o e, keep_same a⟩
def spStarted (K : PySem.W.Frag) : Sp := fun vs H Q _ => ∃ sa, ∃ ns : List Int, vs = [.ref sa] ∧ SqL K H sa (ns.map V.int) ∧ ns.length ≤ 63 ∧ ∀ m rl rs H', MD K H H' m sa rl 0 ns rs → Q (.ref m) H'
def spDraw (K : PySem.W.Frag) : Sp := fun vs H Q _ => ∃ H0 m sa rl k ns rs, ∃ many : Nat, vs = [.ref m, vNat many] ∧ MD K H0 H m sa rl k ns rs ∧ 1 ≤ many ∧ many ≤ 1000 ∧ k < 2 ^ 40 ∧
  ∀ r rs' H', r < many → MD K H0 H' m sa rl (k + 1) ns rs' → FrM K H H' m rl → Q (vNat r) H'
def spOf (K : PySem.W.Frag) : Sp := fun vs H Q _ => ∃ H0 m sa rl k ns rs, ∃ p : Addr, ∃ xs : List V, vs = [.ref m, .ref p] ∧ MD K H0 H m sa rl k ns rs ∧ H p = some (.lst xs) ∧ p ≠ rl ∧ xs ≠ [] ∧ xs.length ≤ 1000 ∧ k < 2 ^ 40 ∧
  ∀ x rs' H', x ∈ xs → MD K H0 H' m sa rl (k + 1) ns rs' → FrM K H H' m rl → Q x H'
theorem putK_len {kvs : List (Key × V)} {k : Key} {v : V} (h : (valV kvs k).isSome = true) : (putK kvs k v).length = kvs.length := by
  unfold putK
  rw [valV_any, h, if_pos rfl, List.length_map]
theorem dget_of {H : Hp} {a : Addr} {kvs : List (Key × V)} {k : Key} {v : V} (hd : H a = some (.dK kvs)) (hv : valV kvs k = some v) : DGet H a (kV k) (some v) := hv ▸ DGet.k hd
theorem dp_ints {K : PySem.W.Frag} {H : Hp} {p : Addr} {zs : List Int} (h : SqL K H p (zs.map V.int)) : Dp K H (.ref p) (.list (zs.map .int)) :=
  dp_list h (.map zs fun z _ => .int z)
theorem sh_ints (zs : List Int) : Sh 1 (.list (zs.map .int)) := sh_list fun d hd => by
  obtain ⟨z, _, rfl⟩ := List.mem_map.mp hd
  exact sh_int z
section
variable {P : Program} {w : World} {K : PySem.W.Frag} {mg : Str → Option Value} {base : Heap}
abbrev nStarted : List Str := ["_law_script", "_law_cell"]
theorem scStarted : FnScope nStarted ["_law_script"] (defScope sStarted) := ⟨rfl, rfl, rfl, by decide +kernel, rfl, by decide +kernel, by decide +kernel⟩
theorem str_ne1 : ¬ (Sum.inr ("script" : Str) : Key) = (Sum.inr ("at" : Str) : Key) := by decide +kernel
theorem str_ne2 : ¬ (Sum.inr ("script" : Str) : Key) = (Sum.inr ("rest" : Str) : Key) := by decide +kernel
theorem str_ne3 : ¬ (Sum.inr ("at" : Str) : Key) = (Sum.inr ("rest" : Str) : Key) := by decide +kernel
theorem str_ne4 : ¬ (Sum.inr ("at" : Str) : Key) = (Sum.inr ("script" : Str) : Key) := by decide +kernel
theorem str_ne5 : ¬ (Sum.inr ("rest" : Str) : Key) = (Sum.inr ("at" : Str) : Key) := by decide +kernel
theorem str_ne6 : ¬ (Sum.inr ("rest" : Str) : Key) = (Sum.inr ("script" : Str) : Key) := by decide +kernel
theorem set_via {te : TE} {ts : TS} {D : Ends} {g : TG} {σ : L2.St} {H : Hp} (v : V) (P : Hp → Prop) (h : ∀ Q' : VK, (∀ H1, P H1 → Q' v H1) → te σ H Q') (k : ∀ H1, P H1 → g v σ H1 (ts D)) : tSeq (tAsg te g) ts D σ H := h _ k
theorem ok_started {f : Addr} {fd : FuncData} (F : Fun K "_law_started" "_law_started" sStarted f fd) (T : Bt mg) : FnOk P w K mg base CX0 1 f fd ["_law_script"] (spStarted K) := by
  refine F.ok scStarted (fun vs H Q E h => ?_) (fun cdv A outer s H vs Q E hr h => ?_)
  · obtain ⟨sa, ns, rfl, _⟩ := h
    rfl
  · obtain ⟨sa, ns, rfl, hS, h63, k⟩ := h
    refine ⟨_, (pss_one (ps_ret (pe_disp (pps_cons pe_str (pv 0) (pps_cons pe_str pe_int (pps_cons pe_str (pe_lc (own := [("_law_cell", 1)]) (g := (gName 1)) (tt := tYes) rfl scStarted.nd (pi_list (pv 0)) (blkOk_by (N := nStarted) (sc := defScope sStarted) (by decide +kernel)) (fun _ _ _ _ _ => (pg_name (i := 1) scStarted.nd rfl (Or.inl rfl))) (fun _ _ _ _ _ => pts_nil) (fun _ _ _ _ _ => (pe_op op_mul (pv 1) (pe_callTy call_int1 (by rfl) T.int (by decide +kernel) (pa_cons (pe_cmpR op_ge (pv 1) (pe_op op_pow pe_int pe_int) (nomark _)) pa_nil))))) pps_nil))) (by rfl) (by rfl) (fun z => by cases z) (by decide)))), ?_⟩
    intro m hm
    refine ⟨_, rfl, ?_⟩
    have hS1 : SqL K (upd H m (.dK [])) sa (ns.map V.int) := Same.seq (same_new hm) hS
    refine ⟨_, rfl, sa, rfl, ⟨_, hS1⟩, fun D hD => ?_⟩
    have s0 : Same H (upd (upd H m (.dK [])) D (.lst [])) := (same_new hm).trans (same_new hD)
    refine lc_it (walk_list (K := K) (a := sa) (xs := ns.map V.int)) (fun i H1 => Same (upd H m (.dK [])) H1 ∧ ∃ rs : List Int, H1 D = some (.lst (rs.map V.int)) ∧ rs.length = i) ⟨same_new hD, [], upd_same, rfl⟩ (fun i H1 _ q => Same.seq q.1 hS1) ?_ ?_
    · rintro i x H1 H2 hi ⟨s1, rs, hL, hl⟩ ⟨rfl, hx⟩
      obtain ⟨z, hz, rfl⟩ := map_get hx
      rw [List.length_map] at hi
      refine ⟨rfl, _, rfl, _, rfl, _, _, rfl, rfl, ⟨by decide, by decide, by decide⟩, _, _, rfl, rfl, .inr ⟨_, rfl, ?_⟩⟩
      refine ⟨_, _, rfl, rfl, .inr ?_, ?_⟩
      · split <;> exact ⟨by decide, by decide⟩
      · generalize (if (decide ((10 : Int) ^ (18 : Int).toNat ≤ z)) = true then (1 : Int) else 0) = b
        refine ⟨_, hL, by rw [List.length_map]; exact small1000 (by omega), Evl.Ex.mut s1 hD, rs ++ [z * b], ?_, by simp [hl]⟩
        rw [upd_same, List.map_append]
        rfl
    · rintro H1 ⟨s1, rs, hL, hl⟩
      rw [List.length_map] at hl
      have hm1 : H1 m = some (.dK []) := s1 _ _ upd_same
      refine ⟨hm1, [(kS, .ref sa), (kA, vNat 0), (kR, .ref D)], rfl, (by show 3 ≤ 15; decide), ?_⟩
      have nDm : D ≠ m := fun e => by rw [e, upd_same] at hD; cases hD
      have sH : Same H H1 := (same_new hm).trans s1
      refine k m D rs _ ⟨⟨_, upd_same, ?_, ?_, ?_, ?_⟩, hS, by rw [upd_ne nDm]; exact hL, hl, h63, fun b o e => ?_, hm, ?_⟩
      · show valV (putK (putK (putK ([] : List (Key × V)) kS (.ref sa)) kA (vNat 0)) kR (.ref D)) kS = _
        rw [valV_put, if_neg str_ne2, valV_put, if_neg str_ne1, valV_put, if_pos rfl]
      · show valV (putK (putK (putK ([] : List (Key × V)) kS (.ref sa)) kA (vNat 0)) kR (.ref D)) kA = _
        rw [valV_put, if_neg str_ne3, valV_put, if_pos rfl]
      · show valV (putK (putK (putK ([] : List (Key × V)) kS (.ref sa)) kA (vNat 0)) kR (.ref D)) kR = _
        rw [valV_put, if_pos rfl]
      · exact Nat.le_trans (length_mergeK _ _) (by simp)
      · rw [upd_ne (ne_of_none e hm)]
        exact sH b o e
      · exact (same_new hm).free hD
theorem scDraw : FnScope ["_law_m", "_law_many", "_law_k", "_law_cells", "_law_left", "_law_cell", "_law_number"] ["_law_m", "_law_many"] (defScope sDraw) := ⟨rfl, rfl, rfl, by decide +kernel, rfl, by decide +kernel, by decide +kernel⟩
theorem ok_draw {f : Addr} {fd : FuncData} (F : Fun K "_law_draw" "_law_draw" sDraw f fd) (T : Bt mg) : FnOk P w K mg base CX0 1 f fd ["_law_m", "_law_many"] (spDraw K) := by
  refine F.ok scDraw (fun vs H Q E h => ?_) (fun cdv A outer s H vs Q E hr h => ?_)
  · obtain ⟨H0, m, sa, rl, k, ns, rs, many, rfl, _⟩ := h
    rfl
  · obtain ⟨H0, m, sa, rl, k, ns, rs, many, rfl, hM, h1, h1000, hk, kq⟩ := h
    refine ⟨_, (pss_cons (ps_set (i := 2) scDraw.nd rfl (Or.inl rfl) (pe_dget (hu_of hr) (pv 0) pe_str (fun _ _ => rfl)))
      (pss_cons (ps_dput (hu_of hr) (pv 0) pe_str (pe_op op_add (pv 2) pe_int) rfl)
      (pss_cons (ps_set (i := 3) scDraw.nd rfl (Or.inl rfl) (pe_dget (hu_of hr) (pv 0) pe_str (fun _ _ => rfl)))
      (pss_cons (ps_set (i := 4) scDraw.nd rfl (Or.inl rfl) (pe_ifExp (pt_cmpR (op_neD hr.units) (pe_dget (hu_of hr) (pv 0) pe_str (fun _ _ => rfl)) (pe_lst pa_nil) (nomark _)) (pe_ix ix_list (pe_dget (hu_of hr) (pv 0) pe_str (fun _ _ => rfl)) (pe_op op_mod (pv 2) (pe_callB call_len_seq (by rfl) T.len PySem.boot_len (pa_cons (pv 3) pa_nil))) (fun _ _ => rfl)) pe_int))
      (pss_cons (ps_if (pt_cmpR op_gt (pv 4) pe_int (nomark _)) (pss_cons (ps_asg (pe_op op_fdiv (pv 4) (pv 1)) (pg_sub (pe_dget (hu_of hr) (pv 0) pe_str (fun _ _ => rfl)) (pe_op op_mod (pv 2) (pe_callB call_len_seq (by rfl) T.len PySem.boot_len (pa_cons (pv 3) pa_nil))) set_list))
      (pss_one (ps_ret (pe_op op_mod (pv 4) (pv 1))))) pss_nil)
      (pss_cons (ps_set (i := 5) scDraw.nd rfl (Or.inl rfl) (pe_ifExp (pt_cmpR (op_neD hr.units) (pv 3) (pe_lst pa_nil) (nomark _)) (pe_ix ix_list (pv 3) (pe_op op_mod (pv 2) (pe_callB call_len_seq (by rfl) T.len PySem.boot_len (pa_cons (pv 3) pa_nil))) (fun _ _ => rfl)) pe_int))
      (pss_cons (ps_set (i := 6) scDraw.nd rfl (Or.inl rfl) (pe_op op_mod (pe_op op_add (pe_op op_add (pe_op op_mul (pe_op op_mod (pv 5) pe_int) pe_int) (pe_op op_mul (pe_op op_mul pe_int (pv 2)) (pv 2))) pe_int) pe_int))
      (pss_cons (ps_set (i := 6) scDraw.nd rfl (Or.inl rfl) (pe_op op_mod (pe_op op_mul (pv 6) (pe_op op_add pe_int (pe_op op_mul pe_int (pv 2)))) pe_int))
      (pss_one (ps_ret (pe_op op_mod (pe_op op_fdiv (pe_op op_mod (pe_op op_mul (pv 6) (pv 6)) pe_int) pe_int) (pv 1)))))))))))), ?_⟩
    obtain ⟨kvs, hd, hvs, hva, hvr, hkl⟩ := hM.d
    have nrm : rl ≠ m := ne_of hM.r hd (by intro z; cases z)
    -- k = m['at']; m['at'] = k + 1
    refine ⟨_, rfl, m, _, rfl, dget_of (k := kA) hd hva, ?_⟩
    refine ⟨_, rfl, _, _, rfl, rfl, _, rfl, m, _, rfl, DPut.k (k := kA) hd (Nat.lt_of_le_of_lt hkl (by decide)), ?_⟩
    have hd1 : (upd H m (.dK (putK kvs kA (.int ((k : Int) + 1))))) m = some (.dK (putK kvs kA (vNat (k + 1)))) := upd_same
    have hr1 : (upd H m (.dK (putK kvs kA (.int ((k : Int) + 1))))) rl = some (.lst (rs.map V.int)) := by rw [upd_ne nrm]; exact hM.r
    have k1 : Keep K H (upd H m (.dK (putK kvs kA (.int ((k : Int) + 1))))) := keep_upd hd rfl
    have f1 : ∀ b o, H b = some o → b ≠ m → b ≠ rl → (upd H m (.dK (putK kvs kA (.int ((k : Int) + 1))))) b = some o := fun b o e n _ => by rw [upd_ne n]; exact e
    have s01 : Same H0 (upd H m (.dK (putK kvs kA (.int ((k : Int) + 1))))) := Evl.Ex.mut hM.same hM.m0
    have v1s : valV (putK kvs kA (vNat (k + 1))) kS = some (.ref sa) := by rw [valV_put, if_neg str_ne1]; exact hvs
    have v1a : valV (putK kvs kA (vNat (k + 1))) kA = some (vNat (k + 1)) := by rw [valV_put, if_pos rfl]
    have v1r : valV (putK kvs kA (vNat (k + 1))) kR = some (.ref rl) := by rw [valV_put, if_neg str_ne5]; exact hvr
    have hk1 : (putK kvs kA (vNat (k + 1))).length ≤ 10 := by rw [putK_len (by rw [hva]; rfl)]; exact hkl
    generalize putK kvs kA (vNat (k + 1)) = kvs1 at *
    generalize upd H m (.dK (putK kvs kA (.int ((k : Int) + 1)))) = H1 at *
    have hM1 : MD K H0 H1 m sa rl (k + 1) ns rs := ⟨⟨kvs1, hd1, v1s, v1a, v1r, hk1⟩, hM.s, hr1, hM.len, hM.n63, s01, hM.m0, hM.r0⟩
    have hS1 : SqL K H1 sa (ns.map V.int) := Same.seq s01 hM.s
    have hfr1 : FrM K H H1 m rl := ⟨f1, k1⟩
    -- cells
    refine ⟨_, rfl, m, _, rfl, dget_of (k := kS) hd1 v1s, ?_⟩
    have hlen := hM.len
    have h63 := hM.n63
    have eix : ∀ n : Nat, 0 < n → V.int ((k : Int) % ((n : Nat) : Int)) = V.int ((k % n : Nat) : Int) := fun n _ => by congr 1
    -- left
    obtain ⟨z, hz⟩ : ∃ z : Int, (ns = [] ∧ z = 0) ∨ (ns ≠ [] ∧ rs[k % ns.length]? = some z) := by
      by_cases h : ns = []
      · exact ⟨0, .inl ⟨h, rfl⟩⟩
      · have hp : 0 < ns.length := List.length_pos_iff.mpr h
        have : k % ns.length < rs.length := by rw [hlen]; exact Nat.mod_lt _ hp
        exact ⟨rs[k % ns.length], .inr ⟨h, List.getElem?_eq_getElem this⟩⟩
    dsimp only [gName]
    refine set_via (.int z) (fun H' => Same H1 H') (fun Q' hQ' => ?_) (fun H2 s2 => ?_)
    · refine ⟨_, rfl, m, _, rfl, dget_of (k := kR) hd1 v1r, Nat.zero_le _, fun q hq => ?_⟩
      have s2 := same_new (o := .lst []) hq
      have hr2 := s2 _ _ hr1
      have hd2 := s2 _ _ hd1
      have hS2 := Same.seq s2 hS1
      refine ⟨_, .list [], dp_ints (SqL.of hr2), .lst (SqL.of upd_same) .nil, (sh_ints _).ok, (sh_nats []).ok, _, rfl, ?_⟩
      rw [eqv_nil]
      rcases hz with ⟨h, rfl⟩ | ⟨h, hz⟩
      · have e0 : rs = [] := by
          rw [h] at hlen
          exact List.length_eq_zero_iff.mp hlen
        subst e0
        exact iteF (hQ' _ s2)
      · have hp : 0 < ns.length := List.length_pos_iff.mpr h
        have e0 : (rs.map PyData.int).isEmpty = false := by
          cases rs with
          | nil => simp at hz
          | cons _ _ => rfl
        rw [e0]
        refine iteT ⟨_, rfl, m, _, rfl, dget_of (k := kR) hd2 v1r, _, rfl, _, rfl, sa, _, rfl, .inl hS2, ?_⟩
        refine ⟨_, _, rfl, rfl, by rw [List.length_map]; omega, rl, _, _, .int z, rfl, rfl, SqL.of hr2, at_of (j := k % ns.length) ?_ (by rw [List.getElem?_map, hz]; rfl), hQ' _ s2⟩
        rw [List.length_map]
        rfl
    have hM2 := hM1.keep s2
    have hr2 := s2 _ _ hr1
    have hd2 := s2 _ _ hd1
    have hS2 := Same.seq s2 hS1
    have hfr2 : FrM K H H2 m rl := hfr1.trans (.of s2)
    -- if left > 0
    refine ⟨_, rfl, _, _, rfl, rfl, _, rfl, ?_⟩
    by_cases hz0 : 0 < z
    · rw [decide_eq_true hz0]
      rcases hz with ⟨h, rfl⟩ | ⟨h, hz⟩
      · exact absurd hz0 (by decide)
      have hp : 0 < ns.length := List.length_pos_iff.mpr h
      have hix : k % ns.length < rs.length := (List.getElem?_eq_some_iff.mp hz).1
      refine iteT ⟨_, rfl, _, rfl, _, _, rfl, rfl, ⟨by omega, by omega⟩, _, rfl, m, _, rfl, dget_of (k := kR) hd2 v1r, ?_⟩
      refine ⟨_, rfl, _, rfl, sa, _, rfl, .inl hS2, _, _, rfl, rfl, by rw [List.length_map]; omega, ?_⟩
      have e1 : V.int ((k : Int) % (((ns.map V.int).length : Nat) : Int)) = V.int ((k % ns.length : Nat) : Int) := by rw [List.length_map]; rfl
      refine ⟨rl, _, _, k % ns.length, rfl, e1, hr2, ixN_nat (by rw [List.length_map]; exact hix), ?_⟩
      have k3 : Keep K H2 (upd H2 rl (.lst ((rs.map V.int).set (k % ns.length) (.int (z / (many : Int)))))) := keep_upd hr2 rfl
      have eset : (rs.map V.int).set (k % ns.length) (.int (z / (many : Int))) = (rs.set (k % ns.length) (z / (many : Int))).map V.int := by rw [List.map_set]
      refine ⟨_, rfl, _, rfl, _, _, rfl, rfl, by omega, ?_⟩
      have e2 : V.int (z % (many : Int)) = vNat (z % (many : Int)).toNat := by
        show _ = V.int (((z % (many : Int)).toNat : Nat) : Int)
        congr 1
        have := Int.emod_nonneg z (show (many : Int) ≠ 0 by omega)
        omega
      show Q (V.int (z % (many : Int))) _
      rw [e2]
      have hlt := Int.emod_lt_of_pos z (show (0 : Int) < (many : Int) by omega)
      have hge := Int.emod_nonneg z (show (many : Int) ≠ 0 by omega)
      refine kq _ (rs.set (k % ns.length) (z / (many : Int))) _ (by omega) ⟨⟨kvs1, by rw [upd_ne nrm.symm]; exact hd2, v1s, v1a, v1r, hk1⟩, hM.s, by rw [upd_same, eset], by rw [List.length_set]; exact hlen, h63, Evl.Ex.mut hM2.same hM.r0, hM.m0, hM.r0⟩ ?_
      exact hfr2.trans ⟨fun b o e n1 n2 => by rw [upd_ne n2]; exact e, k3⟩
    · rw [decide_eq_false hz0]
      refine iteF ?_
      -- cell
      obtain ⟨c, hc⟩ : ∃ c : Int, (ns = [] ∧ c = 0) ∨ (ns ≠ [] ∧ ns[k % ns.length]? = some c) := by
        by_cases h : ns = []
        · exact ⟨0, .inl ⟨h, rfl⟩⟩
        · have hp : 0 < ns.length := List.length_pos_iff.mpr h
          exact ⟨ns[k % ns.length]'(Nat.mod_lt _ hp), .inr ⟨h, List.getElem?_eq_getElem _⟩⟩
      dsimp only [tNext]
      refine set_via (.int c) (fun H' => Same H2 H') (fun Q' hQ' => ?_) (fun H3 s3 => ?_)
      · refine ⟨_, rfl, Nat.zero_le _, fun q hq => ?_⟩
        have s3 := same_new (o := .lst []) hq
        have hS3 := Same.seq s3 hS2
        refine ⟨_, .list [], dp_ints hS3, .lst (SqL.of upd_same) .nil, (sh_ints _).ok, (sh_nats []).ok, _, rfl, ?_⟩
        rw [eqv_nil]
        rcases hc with ⟨h, rfl⟩ | ⟨h, hc⟩
        · subst h
          exact iteF (hQ' _ s3)
        · have hp : 0 < ns.length := List.length_pos_iff.mpr h
          have e0 : (ns.map PyData.int).isEmpty = false := by
            cases ns with
            | nil => exact absurd rfl h
            | cons _ _ => rfl
          rw [e0]
          refine iteT ⟨_, rfl, _, rfl, _, rfl, sa, _, rfl, .inl hS3, ?_⟩
          refine ⟨_, _, rfl, rfl, by rw [List.length_map]; omega, sa, _, _, .int c, rfl, rfl, hS3, at_of (j := k % ns.length) ?_ (by rw [List.getElem?_map, hc]; rfl), hQ' _ s3⟩
          rw [List.length_map]
          rfl
      -- number
      have hM3 := hM2.keep s3
      have hfr3 := hfr2.trans (.of s3)
      have hkI : ((k : Nat) : Int) < 2 ^ 40 := by exact_mod_cast hk
      refine ⟨_, rfl, _, _, rfl, rfl, (by show (0 : Int) < 2147483629; decide), _, _, rfl, rfl, .inr ⟨by decide, by decide⟩, _, rfl, _, _, rfl, rfl, .inl ⟨by decide, by decide⟩, _, rfl, _, _, rfl, rfl, .inr ⟨?_, ?_⟩, _, _, rfl, rfl, _, _, rfl, rfl, _, _, rfl, rfl, (by show (0 : Int) < 2147483647; decide), ?_⟩
      · exact Int.lt_of_lt_of_le (show (-(2 ^ 64) : Int) < 0 by decide) (Int.natCast_nonneg k)
      · exact Int.lt_trans hkI (by decide)
      · refine ⟨_, rfl, _, rfl, _, _, rfl, rfl, .inl ⟨by decide, by decide⟩, _, _, rfl, rfl, _, _, rfl, rfl, .inl ⟨?_, ?_⟩, _, _, rfl, rfl, (by show (0 : Int) < 2147483629; decide), ?_⟩
        · exact Int.lt_of_lt_of_le (show (-(2 ^ 64) : Int) < 0 by decide) (Int.emod_nonneg _ (by decide))
        · exact Int.lt_trans (Int.emod_lt_of_pos _ (show (0 : Int) < 2147483647 by decide)) (show (2147483647 : Int) < 2 ^ 64 by decide)
        · refine ⟨_, rfl, _, rfl, _, _, rfl, rfl, .inl ⟨?_, ?_⟩, _, _, rfl, rfl, (by show (0 : Int) < 1000000007; decide), _, _, rfl, rfl, ⟨by decide, by decide⟩, _, rfl, _, _, rfl, rfl, (by show (0 : Int) < (many : Int); omega), ?_⟩
          · exact Int.lt_of_lt_of_le (show (-(2 ^ 64) : Int) < 0 by decide) (Int.emod_nonneg _ (by decide))
          · exact Int.lt_trans (Int.emod_lt_of_pos _ (show (0 : Int) < 2147483629 by decide)) (show (2147483629 : Int) < 2 ^ 64 by decide)
          · have fin : ∀ n3 : Int, Q (V.int (n3 % (many : Int))) H3 := fun n3 => by
              have e2 : V.int (n3 % (many : Int)) = vNat (n3 % (many : Int)).toNat := by
                show _ = V.int (((n3 % (many : Int)).toNat : Nat) : Int)
                congr 1
                have := Int.emod_nonneg n3 (show (many : Int) ≠ 0 by omega)
                omega
              rw [e2]
              have hlt := Int.emod_lt_of_pos n3 (show (0 : Int) < (many : Int) by omega)
              have hge := Int.emod_nonneg n3 (show (many : Int) ≠ 0 by omega)
              exact kq _ rs H3 (by omega) hM3 hfr3
            exact fin _
theorem scOf : FnScope ["_law_m", "_law_some"] ["_law_m", "_law_some"] (defScope sOf) := ⟨rfl, rfl, rfl, by decide +kernel, rfl, by decide +kernel, by decide +kernel⟩
theorem ok_of {f f1 : Addr} {fd fd1 : FuncData} (F : Fun K "_law_of" "_law_of" sOf f fd) (T : Bt mg) (G1 : FnOk P w K mg base CX0 1 f1 fd1 ["_law_m", "_law_many"] (spDraw K)) (D1 : Dn K mg "_law_draw" f1 fd1 ["_law_m", "_law_many"]) : FnOk P w K mg base CX0 2 f fd ["_law_m", "_law_some"] (spOf K) := by
  refine F.ok scOf (fun vs H Q E h => ?_) (fun cdv A outer s H vs Q E hr h => ?_)
  · obtain ⟨H0, m, sa, rl, k, ns, rs, p, xs, rfl, _⟩ := h
    rfl
  · obtain ⟨H0, m, sa, rl, k, ns, rs, p, xs, rfl, hM, hp, nprl, hne, hlen, hk, kq⟩ := h
    refine ⟨_, (pss_one (ps_ret (pe_ix ix_list (pv 1) (pe_call G1 hr (by rfl) D1.mgf D1.kp D1.b .nil pass0 (pa_cons (pv 0) (pa_cons (pe_callB call_len_seq (by rfl) T.len PySem.boot_len (pa_cons (pv 1) pa_nil)) pa_nil))) (fun _ _ => rfl)))), ?_⟩
    have hpos : 0 < xs.length := List.length_pos_iff.mpr hne
    refine ⟨_, rfl, _, rfl, _, rfl, p, _, rfl, .inl (SqL.of hp), ?_⟩
    refine ⟨H0, m, sa, rl, k, ns, rs, xs.length, rfl, hM, hpos, hlen, hk, fun r rs' H' hr' hM' hfr => ?_⟩
    obtain ⟨kvs, hd, _⟩ := hM.d
    have npm : p ≠ m := ne_of hp hd (by intro z; cases z)
    exact ⟨p, _, _, xs[r], rfl, rfl, SqL.of (hfr.1 _ _ hp npm nprl), atI_nat (List.getElem?_eq_getElem hr'), kq _ rs' H' (List.getElem_mem hr') hM' hfr⟩
end
end Tb
end
section
set_option Elab.async false
set_option linter.all false
set_option maxRecDepth 100000
set_option maxHeartbeats 4000000
/-! A caught exception that is kept; a call of a local def that may raise. -/
namespace Tb
open PySem PySem.Spec PyProof.Rows L2
/-- an exception that stands by itself -/
def exk (a : Addr) (cls : Value) (d : Option Addr) : HO := .ext fun h => ∃ oe, h.get? a = some oe ∧ Zc cls d oe ∧ ∃ vs, oe.data = .fields vs
theorem exk_ok {P : Program} {w : World} {H : Hp} {h : Heap} {a : Addr} {cls : Value} {d : Option Addr} {oe : Obj} (he : h.get? a = some oe) (hz : Zc cls d oe) (hf : ∃ vs, oe.data = .fields vs) : ObjOk P w H h a (exk a cls d) :=
  ⟨⟨oe, he, hz, hf⟩, ⟨_, he⟩, fun h1 h2 z k => by
    obtain ⟨o, q, r⟩ := z
    exact ⟨o, k _ q, r⟩⟩
theorem exk_at {P : Program} {w : World} {H : Hp} {h : Heap} {a : Addr} {cls : Value} {d : Option Addr} (hok : HOk P w H h) (e : H a = some (exk a cls d)) : ∃ oe, h.get? a = some oe ∧ Zc cls d oe ∧ ∃ vs, oe.data = .fields vs := by
  have x : ObjOk P w H h a (.ext fun h => ∃ oe, h.get? a = some oe ∧ Zc cls d oe ∧ ∃ vs, oe.data = .fields vs) := hok a _ e
  exact x.1
/-- it is told of from now on -/
theorem track {X : Cx} {pins : List (Addr × Obj)} {σ : L2.St} {H : Hp} {s : Shared} {a : Addr} {cls : Value} {d : Option Addr} {oe : Obj} (I : Inv X pins σ H s) (he : s.heap.get? a = some oe) (hz : Zc cls d oe) (hf : ∃ vs, oe.data = .fields vs) (na : H a = none)
    (n0 : X.s_0.heap.get? a = none) (nL : a ≠ X.env.locals) (nP : ∀ p ∈ X.pn ++ pins, p.1 ≠ a) : Inv X pins σ (upd H a (exk a cls d)) s := by
  have ne : ∀ {b : Addr} {o : HO}, H b = some o → b ≠ a := fun {b o} e z => by rw [z, na] at e; cases e
  refine ⟨I.ok, I.os, I.bare, ⟨I.base.keep, I.base.slot, fun b o e n hx => ?_, I.base.there, fun b xs e => ?_, fun b o u e => ?_, fun b ps e => ?_⟩, I.loc, I.cell, ?_, fun x c e => ?_, fun p hp => ?_, fun b o e => ?_, I.len⟩
  · have : b ≠ a := fun z => by rw [z, n0] at e; cases e
    rw [upd_ne this]
    exact I.base.free b o e n hx
  · have h1 := I.base.tups b xs e
    rw [upd_ne (ne h1)]
    exact h1
  · have h1 := I.base.frzs b o u e
    rw [upd_ne (ne h1)]
    exact h1
  · obtain ⟨more, h1⟩ := I.base.tbls b ps e
    exact ⟨more, by rw [upd_ne (ne h1)]; exact h1⟩
  · rw [upd_ne nL.symm]
    exact I.free
  · have : c ≠ a := fun z => by
      obtain ⟨v, o, ho, hd⟩ := I.cell x c e
      obtain ⟨vs, hf⟩ := hf
      rw [z, he] at ho
      cases ho
      rw [hf] at hd
      cases hd
    rw [upd_ne this]
    exact I.freeC x c e
  · obtain ⟨h1, h2, h3, h4, h5⟩ := I.pin p hp
    exact ⟨h1, by rw [upd_ne (nP p hp)]; exact h2, h3, h4, h5⟩
  · by_cases hb : b = a
    · subst hb
      rw [upd_same] at e
      cases e
      exact exk_ok he hz hf
    · rw [upd_ne hb] at e
      exact (I.hok b o e).stay (fun c v _ z => z) (fun c hc => by rw [upd_ne (ne hc)]; exact hc) (fun c xs hc => by rw [upd_ne (ne hc)]; exact hc)
def wKeep (K : PySem.W.Frag) (c : Value) (i : Nat) (ts : Addr → Value → Option Addr → TS) (Wout : WX) (D : Ends) : WX := fun cls d σ H =>
  ∃ b, PySem.W.exmOne K cls c = some b ∧ (b = true → ∀ a, H a = none → ts a cls d { nx := fun σ' H' => H' a = none → D.nx (σ'.set i none) (upd H' a (exk a cls d)), rt := fun _ _ => False, bk := fun _ _ => False, ct := fun _ _ => False } (σ.set i (some (.ref a))) H) ∧
    (b = false → Wout cls d σ H)
section
variable {X : Cx} {x n : Str} {c : Value} {i : Nat} {body suite : List Stmt} {b₀ : Stmt} {np pos pos' : Pos} {tb : WX → TS} {ts : Addr → Value → Option Addr → TS} {Wout : WX}
theorem ps_try_keep (hs : X.stack = X.env :: X.outer) (hf : X.env.frame = some X.env.locals) (hex : X.ex = []) (hN : X.N.Nodup) (hi : X.N[i]? = some n) (hln : X.env.kindOf n = some .local) (hc : Names X x c) (tk : Takes X Wout)
    (hb : ∀ (W : WX) (pn : List (Addr × Obj)) (xe : Value → Shared → Prop), Takes (X.tr pn xe) W → PassesOwn (model X.prog X.w) X.A X.env xe → PSs (X.tr pn xe) body (tb W))
    (hsu : ∀ (a : Addr) (oe : Obj) (cls : Value) (d : Option Addr) (pn : List (Addr × Obj)), Zc cls d oe → (∃ vs, oe.data = .fields vs) → PSs (X.suite a ((a, oe) :: pn)) (b₀ :: suite) (ts a cls d)) :
    PS X (.Try body [.ExceptHandler (some (.Name x np)) (some n) (b₀ :: suite) pos'] [] [] pos) (fun D σ H => tb (wKeep X.K c i ts Wout D) D σ H) := by
  refine ⟨fun pins s σ H D I h => ?_⟩
  have ok := I.ok
  have hfr : X.A.frames = some (X.env :: X.outer) := by rw [ok.frames, hs]
  have hloc : Loc X.env.scope n := .inl hln
  refine wpAny_Try_except ?_
  refine wpAny_mono ((hb (wKeep X.K c i ts Wout D) (X.pn ++ pins) (fun e s₁ => wpAny (model X.prog X.w) X.A (noteFrame e X.env) (fun _ s₂ => wpAny (model X.prog X.w) X.A (setFlight e none) (fun _ s₃ =>
    wpAny (model X.prog X.w) X.A (handleBy e X.env [.ExceptHandler (some (.Name x np)) (some n) (b₀ :: suite) pos']) (SP X pins D) X.xe s₃) X.xe s₂) X.xe s₁) (fun u s' xx => ?_) PassesOwn.looking).run [] s σ H D (I.toTry _) h) (fun f s1 hsp => ?_) (fun e s1 he => he)
  · obtain ⟨a, B, sI, pins', σ', H', cls, d, rfl, J', nb, up, sky, na, os, ag, b, hb1, hyes, hno⟩ := xx
    have J : Inv X pins σ' H' sI := J'.ofTry ok
    have sky' : Sky B (X.env :: X.outer) a (Zc cls d) X.env.locals s'.heap := by rw [← hs]; exact sky
    show wpAny (model X.prog X.w) X.A (noteFrame (.ref a) X.env) _ _ _
    refine Sky.land Zc.steady hfr hf sky' fun h3 fl3 up3 => ?_
    have J3 : Inv X pins σ' H' { s' with heap := h3 } := J.landed nb fl3.1 (up.trans up3) os ag
    obtain ⟨oe3, vs3, he3, hz3, hd3⟩ := fl3.there
    have notFr : ∀ {h : Heap} {o : Obj} {vs : Array Value}, h.FunFrames B (X.env :: X.outer) → h.get? a = some o → o.data = .fields vs → a ∉ frs (X.env :: X.outer) := fun {h o vs} ff e dd hm => by
      obtain ⟨_, o', e', hnf⟩ := ff.mem hm
      rw [e] at e'; cases e'
      exact hnf _ dd
    have nfr := notFr fl3.2.2.1 he3 hd3
    have nL : a ≠ X.env.locals := fun z => nfr (List.mem_filterMap.mpr ⟨X.env, List.mem_cons_self, by rw [hf, z]⟩)
    have nF : a ∉ X.fs := fun hm => by
      obtain ⟨e, he, q⟩ := List.mem_filterMap.mp hm
      exact nfr (List.mem_filterMap.mpr ⟨e, List.mem_cons_of_mem _ he, q⟩)
    -- it is none of the older objects
    have nfr' : a ∉ frs X.stack := by rw [hs]; exact nfr
    have nI : sI.heap.get? a = none := by
      cases e : sI.heap.get? a with
      | none => rfl
      | some o =>
        have := nb a o e nfr'
        rw [fl3.2.1] at this
        cases this
    have n0 : X.s_0.heap.get? a = none := by
      cases e : X.s_0.heap.get? a with
      | none => rfl
      | some o =>
        obtain ⟨o', e'⟩ := J.base.there a o e (by rw [hex]; simp)
        rw [nI] at e'
        cases e'
    have nP : ∀ p ∈ X.pn ++ pins, p.1 ≠ a := fun p hp z => by
      have := (J.pin p hp).1
      rw [z, nI] at this
      cases this
    have S3 := J3.suite he3 hd3 na nL nF
    refine wpAny_handleBy_cons (codeAny_handlers_test ?_) (by intro q; cases q)
    have LT : PySem.W.Looks (model X.prog X.w) h3 (typeOf (.ref a)) cls := fun A Q E s k q => wpAny_typeOf_ref (k _ _ he3) (by rw [hz3.1]; exact q)
    have LM := PySem.W.exm_one (M := model X.prog X.w) (J3.kIn) LT hb1
    have test : ∀ {Q : Value → Shared → Prop} {E : Value → Shared → Prop}, Q c { s' with heap := h3 } → wpAny (model X.prog X.w) (X.A.mark (some (.ref a))) (eval (.Name x np) X.env) Q E { s' with heap := h3 } := fun {Q E} q => by
      obtain ⟨hg, hdbg, hm | ⟨hm, hv, hnn⟩⟩ := hc
      · exact ld_glob (X := X.suite a ((a, oe3) :: (X.pn ++ pins))) S3 hg hm q hdbg
      · exact ld_blt (X := X.suite a ((a, oe3) :: (X.pn ++ pins))) S3 hg hm hv q hnn hdbg
    refine test (LM.here ?_)
    cases b with
    | true =>
      refine codeAny_handlers_suite_as ?_
      refine HandSPX.lands_againZ fl3 fun h4 fl4 up4 => ?_
      have J4 : Inv X pins σ' H' { s' with heap := h4 } := J.landed nb fl4.1 ((up.trans up3).trans up4) os ag
      obtain ⟨oe4, vs4, he4, hz4, hd4⟩ := fl4.there
      have S4 := J4.suite he4 hd4 na nL nF
      refine store_ok (X := X.suite a ((a, oe4) :: (X.pn ++ pins))) (v := .ref a) S4 hN hi hloc rfl (fun s5 S5 => ?_) (.inr hln)
      refine wpAny_mono ((hsu a oe4 cls d (X.pn ++ pins) hz4 ⟨_, hd4⟩).run [] s5 _ H' _ S5 (hyes rfl a na)) (fun f s6 hsp => ?_) (fun _ _ z => False.elim z)
      cases f with
      | next =>
        obtain ⟨σ6, H6, S6, q6⟩ := hsp
        have hp6 := S6.pin (a, oe4) (List.mem_append_left _ List.mem_cons_self)
        have T6 := track (S6.unsuite ok) hp6.1 hz4 ⟨_, hd4⟩ hp6.2.1 n0 nL nP
        exact gone_ok T6 hN hi hln fun s7 J7 => ⟨_, _, J7, q6 hp6.2.1⟩
      | brk =>
        obtain ⟨σ6, H6, S6, q6⟩ := hsp
        exact q6.elim
      | cont =>
        obtain ⟨σ6, H6, S6, q6⟩ := hsp
        exact q6.elim
      | ret u =>
        obtain ⟨v6, σ6, H6, S6, r6, q6⟩ := hsp
        exact q6.elim
    | false =>
      show wpAny _ X.A (handleBy (.ref a) X.env []) _ _ _
      refine wpAny_handleBy_nil ?_
      obtain ⟨k1, k2, k3, oe, vs, T, oT, ts', he, hz, hd, h1, hr⟩ := id fl3
      unfold PySem.passOn
      refine wpAny_bind (wpAny_field he hd h1 ?_)
      rw [if_neg (show ¬ ((Value.ref T == Value.none) = true) from by simp)]
      have fin : wpAny (model X.prog X.w) X.A (setFlight (.ref a) X.env.frame) (fun _ s4 => wpAny (model X.prog X.w) X.A (throw (.ref a) : Sem Flow) (SP X pins D) X.xe s4) X.xe { s' with heap := h3 } := by
        rw [hf]
        refine HandSPX.setFlight_upZ fl3 fun h4 hh4 up4 => wpAny_throw (tk _ _ ?_)
        exact ⟨a, B, sI, pins, σ', H', cls, d, rfl, J, nb, (up.trans up3).trans up4, .inr (.inr (by rw [hs]; exact hh4)), na, os, ag, hno rfl⟩
      first
        | exact wpAny_bind (wpAny_pure (wpAny_bind fin))
        | exact wpAny_bind fin
  · cases f with
    | next =>
      obtain ⟨σ', H', J', q⟩ := hsp
      exact wpAny_execs_nil ⟨σ', H', J'.ofTry ok, q⟩
    | brk =>
      obtain ⟨σ', H', J', q⟩ := hsp
      exact ⟨σ', H', J'.ofTry ok, q⟩
    | cont =>
      obtain ⟨σ', H', J', q⟩ := hsp
      exact ⟨σ', H', J'.ofTry ok, q⟩
    | ret u =>
      obtain ⟨v, σ', H', J', r, q⟩ := hsp
      exact ⟨v, σ', H', J'.ofTry ok, r, q⟩
end
/-! ### a def in a local that may raise -/
def tCallLS (i : Nat) (f : Addr) (sp : Sp) (E : L2.St → XK) (t : TA) : TE := fun σ H Q => σ[i]? = some (some (.ref f)) ∧ t σ H fun vs H1 => sp vs H1 Q (E σ)
section
variable {X : Cx} {CX : CXT} {k i : Nat} {f : Addr} {fd : FuncData} {ps : List Str} {sp : Sp} {E : L2.St → XK} {x : Str} {p pos : Pos} {e : Expr} {es : List Expr} {t : TA}
theorem pe_callLS (F : FnOk X.prog X.w X.K X.mg X.base CX k f fd ps sp) (hr : Room k X.A) (hN : X.N[i]? = some x) (hv : Vis X.env.scope x) (hk : PySem.W.keepIn X.K (.ref f) = true) (hb : Binds X.K fd ps []) (hx : ∀ σ, PassesAt CX X σ (E σ)) (ha : PA X (e :: es) t)
    (hdb : (x == ("__debug__" : Str)) = false := by decide) (hcd : (x == ("__classdict__" : Str)) = false := by decide)
    (he : starEach (e :: es) X.env = (false, eval e X.env) :: starEach es X.env := by rfl) (hpl : (backTo pos (starEach es X.env)).any (·.1) = false := by rfl) : PE X (.Call (.Name x p) (e :: es) [] pos) (tCallLS i f sp E t) := by
  refine ⟨fun pins s σ H Q I h => ?_⟩
  obtain ⟨hs, ht⟩ := h
  refine wpAny_Call_Name_kw (thn ((pe_var (pos := p) hN hv hdb hcd).run pins s σ H (fun v H1 => v = .ref f ∧ H1 = H) I ⟨.ref f, hs, rfl, rfl⟩) fun u s1 ⟨v, H1, I1, r1, q1⟩ => ?_)
  obtain ⟨rfl, rfl⟩ := q1
  cases r1
  refine PySem.W.callWith_K (h₀ := X.base) I.ok.mod.kin hk (thn (ha.run pos pins s1 σ _ _ I1 ht) fun us s2 ⟨vs, H2, I2, r, q⟩ => ⟨I2.kIn, ?_⟩) he hpl
  exact run_fnS F hr hb (hx σ) I2 r q
end
/-! ### the kept exception asked -/
structure KitE (K : PySem.W.Frag) (C : Addr) : Prop where
  cl : (PySem.W.clsIn K C).isSome = true
  ga : PySem.W.findIn K (.ref C) "__getattribute__" = some (some (.builtin "BaseException.__getattribute__"))
  gg : PySem.W.findIn K (.ref C) "__getattr__" = some none
  sub : PySem.W.subIn K (.ref C) (.type "BaseException") = some true
  cls : PySem.W.findIn K (.ref C) "__class__" = some (some (.builtin "object.__class__"))
  sp : PySem.W.specialIn K (.builtin "object.__class__") "__get__" = some (some (.builtin "getset_descriptor.__get__"))
  tk : PySem.W.takesIn K (.builtin "object.__class__") = some true
  mro : PySem.W.mroIn K C (.type "object") = some true
  hd : PySem.W.hasDictIn K C = true
section
variable {X : Cx} {pins : List (Addr × Obj)} {σ : L2.St} {H : Hp} {s : Shared} {a C d : Addr}
theorem kit_exk (T : KitE X.K C) (I : Inv X pins σ H s) (e : H a = some (exk a (.ref C) (some d))) {fs : List (Str × V)} (ed : H d = some (.xd fs)) :
    ∃ P : Heap → Prop, PySem.W.KitX X.K (.ref a) (.ref C) P ∧ P s.heap := by
  obtain ⟨oe, ho, hz, vs, hf⟩ := exk_at I.hok e
  have hx : ObjOk X.prog X.w H s.heap d (.xd fs) := I.hok d _ ed
  obtain ⟨mA, hns, hr⟩ := hx
  obtain ⟨od, hod, hl⟩ := lookIn_ns hns
  have J : PySem.W.InstAt s.heap a oe C (some od) := ⟨ho, hz.1, by unfold PySem.W.notCls; rw [hf] <;> rfl, by rw [hz.2]; exact hod⟩
  exact ⟨_, PySem.W.kitx_exc T.cl T.ga T.gg T.sub T.cls T.sp T.tk T.mro, J⟩
def rIsiE (K : PySem.W.Frag) (C : Addr) : List V → Hp → VK → Prop := fun xs H Q => ∃ (a d : Addr) (fs : List (Str × V)) (c : V) (u : Value) (b : Bool), xs = [.ref a, c] ∧ H a = some (exk a (.ref C) (some d)) ∧ H d = some (.xd fs) ∧ ClsV c u ∧ PySem.W.kitOne K (.ref C) u = some b ∧ Q (.bl b) H
theorem call_isiE (K : PySem.W.Frag) (T : KitE K C) (hK : X.K = K := by rfl) : CallR X (.builtin "isinstance") (rIsiE K C) := by
  subst hK
  intro pins s σ H xs us Q I r h
  obtain ⟨a, d, fs, c, u, b, rfl, ea, ed, k, e, q⟩ := h
  obtain ⟨u1, u2, rfl, r1, r2⟩ := vals2 r
  have e2 := k.eq r2
  subst e2
  cases (show u1 = Value.ref a from r1)
  obtain ⟨P, Z, p⟩ := kit_exk T I ea ed
  exact PySem.W.kia_one Z I.kIn p e (fun z => nomatch z) fun tk => ⟨.bl b, H, I.tok tk, rfl, q⟩
def rIsiET (K : PySem.W.Frag) (C : Addr) : List V → Hp → VK → Prop := fun xs H Q => ∃ (a d : Addr) (fs : List (Str × V)) (tp : Addr) (cs : List V) (us : List Value) (b : Bool), xs = [.ref a, .ref tp] ∧ H a = some (exk a (.ref C) (some d)) ∧ H d = some (.xd fs) ∧ H tp = some (.tup cs) ∧ Paired ClsV cs us ∧
  PySem.W.kitAny K (.ref C) us = some b ∧ Q (.bl b) H
theorem call_isiET (K : PySem.W.Frag) (T : KitE K C) (hK : X.K = K := by rfl) : CallR X (.builtin "isinstance") (rIsiET K C) := by
  subst hK
  intro pins s σ H xs us Q I r h
  obtain ⟨a, d, fs, tp, cs, ws, b, rfl, ea, ed, hT, k, e, q⟩ := h
  obtain ⟨u1, u2, rfl, r1, r2⟩ := vals2 r
  cases (show u1 = Value.ref a from r1)
  cases (show u2 = Value.ref tp from r2)
  obtain ⟨P, Z, p⟩ := kit_exk T I ea ed
  obtain ⟨_, its, rv, o, h1, h2, n, h3⟩ := (show ObjOk X.prog X.w H s.heap tp (.tup cs) from I.hok tp _ hT)
  have e3 := ClsV.all k rv
  subst e3
  obtain ⟨oc, od, dt, sl⟩ := o
  simp only at h2 h3
  subst h2 h3
  exact PySem.W.kia_tup Z I.kIn p h1 e (fun z => nomatch z) fun tk => ⟨.bl b, H, I.tok tk, rfl, q⟩
/-- e.f -/
def tXk (C : Addr) (f : Str) (te : TE) : TE := fun σ H Q => te σ H fun x H1 => ∃ (a dd : Addr) (fs : List (Str × V)) (v : V), x = .ref a ∧ H1 a = some (exk a (.ref C) (some dd)) ∧ H1 dd = some (.xd fs) ∧ fs.lookup f = some v ∧ Q v H1
theorem pe_xk {e : Expr} {te : TE} {pos : Pos} {n : Str} (T : KitE X.K C) (hno : PySem.W.findIn X.K (.ref C) n = some none) (he : PE X e te) (hb : attributeBase e n X.env (eval e X.env) = eval e X.env := by rfl) :
    PE X (.Attribute e n pos) (tXk C n te) := by
  refine ⟨fun pins s σ H Q I h => ?_⟩
  refine attr_of hb (thn (he.run pins s σ H _ I h) fun u s1 hh => ?_)
  obtain ⟨x, H1, I1, rx, a, dd, fs, v, ex, ea, ed, l, q⟩ := hh
  subst ex
  obtain rfl : u = Value.ref a := rx
  obtain ⟨oe, ha, hz, vs, hd⟩ := exk_at I1.hok ea
  have hx : ObjOk X.prog X.w H1 s1.heap dd (.xd fs) := I1.hok dd _ ed
  obtain ⟨mA, hns, hr⟩ := hx
  obtain ⟨od, ho, hl⟩ := lookIn_ns hns
  obtain ⟨u, hu, ru⟩ := RelO.some_of (v := v) (o := mA n) (by rw [← l]; exact hr n)
  have J : PySem.W.InstAt s1.heap a oe C (some od) := ⟨ha, hz.1, by unfold PySem.W.notCls; rw [hd] <;> rfl, by rw [hz.2]; exact ho⟩
  exact HandSPX.exc_get I1.kIn J T.ga T.gg T.sub (PySem.W.findObj_own T.hd hno rfl (by rw [hl, hu])) (handed_of ru) ⟨v, H1, I1.tok _, ru, q⟩
end
/-! ### the law's words for it -/
abbrev sWord : Stmt := top 47
abbrev sRefused : Stmt := top 48
structure WordC (K : PySem.W.Frag) (mg : Str → Option Value) (CB CW : Addr) : Prop where
  kit : KitE K CB
  nN : PySem.W.findIn K (.ref CB) "node" = some none
  mgB : mg "BadState" = some (.ref CB)
  mgW : mg "WebError" = some (.ref CW)
  xW : PySem.W.exmOne K (.ref CB) (.ref CW) = some true
  kB : PySem.W.kitOne K (.ref CB) (.ref CB) = some true
  kV : PySem.W.kitOne K (.ref CB) (.type "ValueError") = some true
  oth : ∃ c1 c2 c3 c4 c5 c6 : Addr, mg "BadOrder" = some (.ref c1) ∧ mg "BadPaper" = some (.ref c2) ∧ mg "BadRow" = some (.ref c3) ∧ mg "BadSharing" = some (.ref c4) ∧ mg "BadWeb" = some (.ref c5) ∧ mg "TooGreat" = some (.ref c6) ∧
    PySem.W.kitAny K (.ref CB) [.ref c1, .ref c2, .ref c3, .ref c4, .ref c5, .ref c6] = some false
  oop : ∃ c7 : Addr, mg "OutOfPlace" = some (.ref c7) ∧ PySem.W.kitOne K (.ref CB) (.ref c7) = some false
def dTold : PyData := .tuple [.str "told"]
def dNamed (y : Option Nat) : PyData := .tuple [.str "state", dTie y]
def spWord (K : PySem.W.Frag) (CB : Addr) : Sp := fun vs H Q _ => ∃ v, vs = [v] ∧ ((v = .non ∧ ∀ v' H', Same H H' → Tp K H' v' dTold → Q v' H') ∨
  (∃ a d y, v = .ref a ∧ H a = some (exk a (.ref CB) (some d)) ∧ H d = some (.xd [("node", vTie y)]) ∧ ∀ v' H', Same H H' → Tp K H' v' (dNamed y) → Q v' H'))
def spRefused (K : PySem.W.Frag) (fn : Addr) : Sp := fun vs H Q _ => ∃ v W roots Rs, vs = [.ref fn, v] ∧ StIn K H v W roots Rs ∧
  (Ends_ W roots (deedsOf Rs) → ∀ v' H', Same H H' → Tp K H' v' dTold → Q v' H') ∧ (∀ y, Waits W roots (deedsOf Rs) y → ∀ v' H', Same H H' → Tp K H' v' (dNamed y) → Q v' H')
section
variable {P : Program} {w : World} {K : PySem.W.Frag} {mg : Str → Option Value} {base : Heap}
theorem scWord : FnScope ["_law_caught", "_law_others"] ["_law_caught"] (defScope sWord) := ⟨rfl, rfl, rfl, by decide +kernel, rfl, by decide +kernel, by decide +kernel⟩
theorem ok_word {f CB CW : Addr} {fd : FuncData} (F : Fun K "_law_word" "_law_word" sWord f fd) (T : Bt mg) (TW : WordC K mg CB CW) : FnOk P w K mg base CX0 1 f fd ["_law_caught"] (spWord K CB) := by
  refine F.ok scWord (fun vs H Q E h => ?_) (fun cdv A outer s H vs Q E hr h => ?_)
  · obtain ⟨v, rfl, _⟩ := h
    rfl
  · obtain ⟨v, rfl, h⟩ := h
    obtain ⟨c1, c2, c3, c4, c5, c6, m1, m2, m3, m4, m5, m6, hany⟩ := TW.oth
    obtain ⟨c7, m7, ho⟩ := TW.oop
    refine ⟨_, pss_cons (ps_if (pt_cmpR op_isN (pv 0) pe_non (nomark _)) (pss_one (ps_ret (pe_tup (pa_cons pe_str pa_nil)))) pss_nil)
      (pss_cons (ps_set (i := 1) scWord.nd rfl (Or.inl rfl) (pe_callB (call_isiET K TW.kit) (by rfl) T.isi (by decide +kernel) (pa_cons (pv 0) (pa_cons (pe_tup (pa_cons (pe_glob (v := .ref c1) rfl m1 rfl) (pa_cons (pe_glob (v := .ref c2) rfl m2 rfl) (pa_cons (pe_glob (v := .ref c3) rfl m3 rfl)
        (pa_cons (pe_glob (v := .ref c4) rfl m4 rfl) (pa_cons (pe_glob (v := .ref c5) rfl m5 rfl) (pa_cons (pe_glob (v := .ref c6) rfl m6 rfl) pa_nil))))))) pa_nil))))
      (pss_cons (ps_if (PW.pt (pw_or (pt_val (pv 1)) (pw_or1 (pt_not (pt_val (pe_callB (call_isiE K TW.kit) (by rfl) T.isi (by decide +kernel) (pa_cons (pv 0) (pa_cons (pe_bltn (v := .ty "ValueError") (by rfl) T.verr (by decide +kernel) rfl) pa_nil)))))))) (pss_one (ps_ret (pe_tup (pa_cons pe_str pa_nil)))) pss_nil)
      (pss_cons (ps_if (pt_val (pe_callB (call_isiE K TW.kit) (by rfl) T.isi (by decide +kernel) (pa_cons (pv 0) (pa_cons (pe_glob (v := .ref CB) rfl TW.mgB rfl) pa_nil))))
        (pss_one (ps_ret (pe_ifExp (pt_val (pe_callB (call_isiE K TW.kit) (by rfl) T.isi (by decide +kernel) (pa_cons (pv 0) (pa_cons (pe_glob (v := .ref c7) rfl m7 rfl) pa_nil)))) (pe_tup (pa_cons pe_str pa_nil)) (pe_tup (pa_cons pe_str (pa_cons (pe_xk TW.kit TW.nN (pv 0)) pa_nil)))))) pss_nil)
      (pss_one (ps_never))))), ?_⟩
    rcases h with ⟨rfl, k⟩ | ⟨a, d, y, rfl, ha, hd, k⟩
    · refine ⟨_, rfl, rfl, _, rfl, iteT ⟨(by show 1 ≤ sizeLine; decide), fun t ht => ?_⟩⟩
      exact k _ _ (same_new ht) (tp_one (.str _) ht)
    · refine ⟨_, rfl, rfl, _, rfl, iteF ?_⟩
      refine ⟨_, rfl, (by show 6 ≤ sizeLine; decide), fun t ht => ?_⟩
      have s1 := same_new (o := .tup [.ref c1, .ref c2, .ref c3, .ref c4, .ref c5, .ref c6]) ht
      have ha1 := s1 _ _ ha
      have hd1 := s1 _ _ hd
      refine ⟨a, d, _, t, _, _, false, rfl, ha1, hd1, upd_same, .cons (.own _) (.cons (.own _) (.cons (.own _) (.cons (.own _) (.cons (.own _) (.cons (.own _) .nil))))), hany, ?_⟩
      generalize upd H t (.tup [.ref c1, .ref c2, .ref c3, .ref c4, .ref c5, .ref c6]) = H1 at *
      refine ⟨_, rfl, _, rfl, iteF ⟨_, rfl, a, d, _, _, _, true, rfl, ha1, hd1, .ty _, TW.kV, _, rfl, iteF ?_⟩⟩
      refine ⟨_, rfl, a, d, _, _, _, true, rfl, ha1, hd1, .own _, TW.kB, _, rfl, iteT ?_⟩
      refine ⟨_, rfl, a, d, _, _, _, false, rfl, ha1, hd1, .own _, ho, _, rfl, iteF ?_⟩
      refine ⟨_, rfl, a, d, _, vTie y, rfl, ha1, hd1, ?_, (by show 2 ≤ sizeLine; decide), fun t2 ht2 => ?_⟩
      · rw [lookup_put, if_pos rfl]
      · exact k _ _ (s1.trans (same_new ht2)) (tp_two (.str _) (tp_tie y) ht2)
abbrev nRefused : List Str := ["_law_deed", "_law_thing", "_law_caught", "e"]
theorem scRefused : FnScope nRefused ["_law_deed", "_law_thing"] (defScope sRefused) := ⟨rfl, rfl, rfl, by decide +kernel, rfl, by decide +kernel, by decide +kernel⟩
theorem ok_refused {f f1 f2 CB CW : Addr} {fd fd1 fd2 : FuncData} (F : Fun K "_law_refused" "_law_refused" sRefused f fd) (TW : WordC K mg CB CW) (G1 : FnOk P w K mg base (L2.CX P w) 8 f1 fd1 ["thing"] (spNeedMoment K CB)) (D1 : Dn K mg "need_moment" f1 fd1 ["thing"])
    (G2 : FnOk P w K mg base CX0 1 f2 fd2 ["_law_caught"] (spWord K CB)) (D2 : Dn K mg "_law_word" f2 fd2 ["_law_caught"]) : FnOk P w K mg base CX0 9 f fd ["_law_deed", "_law_thing"] (spRefused K f1) := by
  refine F.ok scRefused (fun vs H Q E h => ?_) (fun cdv A outer s H vs Q E hr h => ?_)
  · obtain ⟨v, W, roots, Rs, rfl, _⟩ := h
    rfl
  · obtain ⟨v, W, roots, Rs, rfl, hst, k1, k2⟩ := h
    have hr1 := hr.mono (by decide : 1 ≤ 8)
    refine ⟨_, pss_cons (ps_set (i := 2) scRefused.nd rfl (Or.inl rfl) pe_non)
      (pss_cons (ps_try_keep (i := 3) (tb := fun W => tDrop (tCallLS 0 f1 (spNeedMoment K CB) (WE W) (tCons (tVar 1) tNil))) (ts := fun _ _ _ => tAsg (tVar 3) (gName 2)) (Wout := fun _ _ _ _ => False) rfl rfl rfl scRefused.nd rfl rfl ⟨rfl, by decide, Or.inl TW.mgW⟩ takes0
        (fun W pn xe tk _ => pss_one (ps_expr (by exact (pe_callLS (i := 0) G1 hr rfl (Or.inl rfl) D1.kp D1.b (fun σ => passAt tk σ) (pa_cons (pv 1) pa_nil)))))
        (fun a oe cls d pn _ _ => pss_one (ps_set (i := 2) scRefused.nd rfl (Or.inl rfl) (pv 3))))
      (pss_one (ps_ret (pe_call G2 hr1 (by rfl) D2.mgf D2.kp D2.b .nil pass0 (pa_cons (pv 2) pa_nil))))), ?_⟩
    refine ⟨rfl, _, rfl, v, W, roots, Rs, rfl, hst, fun he H' s1 => ?_, fun y hy H' dx s1 hdx => ⟨true, TW.xW, fun _ a ha => ?_, fun q => Bool.noConfusion q⟩⟩
    · exact ⟨_, rfl, _, rfl, .inl ⟨rfl, fun v' H2 s2 hv' => k1 he v' H2 (s1.trans s2) hv'⟩⟩
    · refine ⟨_, rfl, fun ha' => ?_⟩
      have s2 := same_new (o := exk a (.ref CB) (some dx)) ha
      refine ⟨_, rfl, _, rfl, .inr ⟨a, dx, y, rfl, upd_same, s2 _ _ hdx, fun v' H2 s3 hv' => k2 y hy v' H2 ((s1.trans s2).trans s3) hv'⟩⟩
end
end Tb
end
section
set_option Elab.async false
set_option linter.all false
set_option maxRecDepth 100000
set_option maxHeartbeats 4000000
/-! A def that asks besides that no repr is under way around it. -/
namespace Tg
open PySem PySem.Spec PyProof.Rows L2
structure FnOkG (P : Program) (w : World) (K : PySem.W.Frag) (mg : Str → Option Value) (base : Heap) (CX : CXT) (k : Nat) (f : Addr) (fd : FuncData) (ps : List Str) (sp : Sp) : Prop where
  len : ∀ vs H Q E, sp vs H Q E → vs.length = ps.length
  run : ∀ (A : Around) (outer : List Env) (s : Shared) (H : Hp), A.guards = some [] → ∀ (args : Args) (us : List Value) (vs : List V) (Q : VK) (E : XK), Room k A → Env0 P w K mg base A outer s H → BindsTo s fd args (ps.zip us) → Vals vs us → sp vs H Q E →
    codeAny (model P w) A (.call (.ref f) args) (CR CX outer P w H s Q E) s
theorem fn_ofG {CX : CXT} {P : Program} {w : World} {K : PySem.W.Frag} {mg : Str → Option Value} {base : Heap} {k : Nat} {f : Addr} {name qual : Str} {params : Arguments} {body : List Stmt} {scope : Scope} {dV kV doc pm cdv ct oc : Value} {an od : Option Addr}
    {osl : Array (Option Value)} {N ps : List Str} {sp : Sp} (lk : K.lookup f = some ⟨oc, od, .func (PySem.W.fnOf name qual params body scope dV kV doc pm an cdv ct), osl⟩) (hcd : PySem.W.codeIn K cdv qual = true) (S : FnScope N ps scope)
    (len : ∀ vs H Q E, sp vs H Q E → vs.length = ps.length)
    (hbody : ∀ (A : Around) (outer : List Env) (s : Shared) (H : Hp) (vs : List V) (Q : VK) (E : XK), (A.deeper (envOfC qual scope s.heap.objs.size f cdv)).guards = some [] → Room k (A.deeper (envOfC qual scope s.heap.objs.size f cdv)) → sp vs H Q E →
      ∃ t, PSs (cxOf CX P w K mg base N qual scope f cdv A outer s H E) body t ∧ t { nx := fun _ H' => Q .non H', rt := Q } (start N vs) H) :
    FnOkG P w K mg base CX (k + 1) f (PySem.W.fnOf name qual params body scope dV kV doc pm an cdv ct) ps sp := by
  refine ⟨len, fun A outer s H hgd args us vs Q E hr e0 hb r hsp => ?_⟩
  have hl := len _ _ _ _ hsp
  have KX : K.In s.heap := e0.mod.kin.keeps fun b o e => (e0.bs b o e).1
  have lim : s.heap.NoLimit := e0.mod.nolimit.keeps fun b o e => (e0.bs b o e).1
  have hkind : ∀ y ∈ ps.zip us, scope.names.lookup y.1 = some .local ∨ (scope.names.lookup y.1 = some .cell ∧ ((cellsFrom (s.heap.objs.size + 1) scope.names []).lookup y.1).isSome = true) := fun ⟨n, v⟩ hy => by
    rcases S.par n (List.of_mem_zip hy).1 with q | q
    · exact .inl q
    · exact .inr ⟨q, PySem.W.cellsFrom_some _ _ _ (.inl q)⟩
  refine codeAny_call_function hr.depth (KX _ _ lk) rfl S.co S.gen rfl (PySem.W.codeRec_of KX hcd) (hb _ _ _ _ ?_)
  refine wpAny_newFunctionEnv_cells S.kind hkind fun env he s1 x => ?_
  subst he
  refine ⟨lim.keeps x.toInCall.keep, codeAny_func ?_⟩
  obtain ⟨t, ht, hq⟩ := hbody A outer s H vs Q E hgd (hr.deeper _) hsp
  have I : Inv (cxOf CX P w K mg base N qual scope f cdv A outer s H E) [] (start N vs) H s1 := inv_start S hr.hd e0 hl r x
  refine wpAny_mono (ht.run [] s1 (start N vs) H _ I hq) (fun fl s' hs => ?_) fun e s' hs => hs
  have fin : ∀ {σ' : L2.St} {H' : Hp} {v : V} {u : Value}, Inv (cxOf CX P w K mg base N qual scope f cdv A outer s H E) [] σ' H' s' → RelV v u → Q v H' → CE outer P w H s Q u s' :=
    fun {σ' H' v u} J rv q => ⟨v, H', J.os, J.bare, J.base, J.hok, rv, q⟩
  cases fl with
  | ret u =>
    obtain ⟨v, σ', H', J, rv, q⟩ := hs
    exact fin J rv q
  | next =>
    obtain ⟨σ', H', J, q⟩ := hs
    exact fin (v := V.non) (u := Value.none) J rfl q
  | brk =>
    obtain ⟨_, _, _, q⟩ := hs
    exact False.elim q
  | cont =>
    obtain ⟨_, _, _, q⟩ := hs
    exact False.elim q
theorem okG {P : Program} {w : World} {K : PySem.W.Frag} {mg : Str → Option Value} {base : Heap} {x qual : Str} {st : Stmt} {f : Addr} {fd : FuncData} {N ps : List Str} {k : Nat} {sp : Sp} (F : Fun K x qual st f fd) (S : FnScope N ps (defScope st)) (len : ∀ vs H Q E, sp vs H Q E → vs.length = ps.length)
    (hbody : ∀ (cdv : Value) (A : Around) (outer : List Env) (s : Shared) (H : Hp) (vs : List V) (Q : VK) (E : XK), (A.deeper (envOfC qual (defScope st) s.heap.objs.size f cdv)).guards = some [] → Room k (A.deeper (envOfC qual (defScope st) s.heap.objs.size f cdv)) → sp vs H Q E →
      ∃ t, PSs (cxOf CX0 P w K mg base N qual (defScope st) f cdv A outer s H E).nox (defBody st) t ∧ t { nx := fun _ H' => Q .non H', rt := Q } (start N vs) H) : FnOkG P w K mg base CX0 (k + 1) f fd ps sp := by
  obtain ⟨oc, od, kV, doc, pm, an, cdv, ct, osl, rfl, lk, hcd⟩ := F.ex
  refine fn_ofG lk hcd S len fun A outer s H vs Q E hg hr hsp => ?_
  obtain ⟨t, h, q⟩ := hbody cdv A outer s H vs Q E hg hr hsp
  exact ⟨t, h.nox, q⟩
section
variable {X : Cx} {CX : CXT} {k : Nat} {f : Addr} {fd : FuncData} {ps : List Str} {sp : Sp} {E : XK} {x : Str} {p pos : Pos} {e : Expr} {es : List Expr} {t : TA}
theorem pe_callG (F : FnOkG X.prog X.w X.K X.mg X.base CX k f fd ps sp) (hgd : X.A.guards = some []) (hr : Room k X.A) (hg : Gl X x) (hm : X.mg x = some (.ref f)) (hk : PySem.W.keepIn X.K (.ref f) = true) (hb : Binds X.K fd ps []) (hx : Passes CX X E)
    (ha : PA X (e :: es) t) (hdb : (x == ("__debug__" : Str)) = false := by decide) (he : starEach (e :: es) X.env = (false, eval e X.env) :: starEach es X.env := by rfl) (hpl : (backTo pos (starEach es X.env)).any (·.1) = false := by rfl) :
    PE X (.Call (.Name x p) (e :: es) [] pos) (tCall sp [] E t) := by
  refine ⟨fun pins s σ H Q I h => ?_⟩
  refine wpAny_Call_Name_kw (ld_glob I hg hm ?_ hdb)
  refine PySem.W.callWith_K (h₀ := X.base) I.ok.mod.kin hk (thn (ha.run pos pins s σ H _ I h) fun us s1 ⟨vs, H1, I1, r, q⟩ => ⟨I1.kIn, ?_⟩) he hpl
  have q' : sp vs H1 Q E := by rw [← List.append_nil vs]; exact q
  have hl : us.length = ps.length := by rw [← r.length]; exact F.len _ _ _ _ q'
  have b := hb s1 us I1.kIn (by rw [List.append_nil]; exact hl)
  rw [List.append_nil] at b
  refine wpAny_call (codeAny_mono (F.run X.A X.stack s1 H1 hgd ⟨us, []⟩ us vs Q E hr I1.env0 b r q') fun r s' hq => ?_)
  cases r with
  | error e => exact hx pins σ H1 s1 e s' I1 hq
  | ok fl =>
    cases fl with
    | ret u => exact I1.after hq
    | next => exact False.elim hq
    | brk => exact False.elim hq
    | cont => exact False.elim hq
end
theorem law_callG {P : Program} {w : World} {K : PySem.W.Frag} {mg mb : Str → Option Value} {CX : CXT} {k : Nat} {fa a : Addr} {fd : FuncData} {x : Str} {sp : Sp} {s₁ : Shared} {vs : List Value} {ns : List Int}
    (KX : K.In s₁.heap) (hns : s₁.heap.Ns mainGlobals mg) (hb : s₁.heap.Ns builtinsNs mb) (hbb : ∀ x : Str, x ≠ "__name__" → mb x = bootBuiltins x) (hlim : s₁.heap.NoLimit) (hg : s₁.gens = #[])
    (ha : s₁.heap.get? a = some { cls := .type "list", data := .seq vs.toArray }) (hi : IntsAre vs ns) (hl : ns.length ≤ sizeLine) (hr : Room k callerA)
    (F : ∀ base : Heap, K.In base → base.Ns mainGlobals mg → FnOkG P w K mg base CX k fa fd [x] sp) (hbind : ∀ (s : Shared) (u : Value), BindsTo s fd ⟨[u], []⟩ [(x, u)])
    (hsp : ∀ H : Hp, Only H → SqL K H a (ns.map V.int) → sp [.ref a] H (fun v _ => v = .bl true) fun _ _ _ => False)
    (hCX : ∀ H e s', CX [] H s₁ (fun _ _ _ => False) e s' → False) :
    codeAny (model P w) callerA (.call (.ref fa) ⟨[.ref a], []⟩) (fun r s' => r = .ok (.ret (.bool true)) ∧ OldK s₁.heap s'.heap ∧ s'.os = s₁.os ∧ AllBare s'.gens) s₁ := by
  have rv := vals_ints hi
  have lenV := hi.length
  -- from an abstract heap in which nothing but the script may be tracked
  have core : ∀ H : Hp, Only H → SqL K H a (ns.map V.int) → HOk P w H s₁.heap → (∀ b, H b ≠ none → b = a) → (H a ≠ none → K.lookup a = none) →
      codeAny (model P w) callerA (.call (.ref fa) ⟨[.ref a], []⟩) (fun r s' => r = .ok (.ret (.bool true)) ∧ OldK s₁.heap s'.heap ∧ s'.os = s₁.os ∧ AllBare s'.gens) s₁ := by
    intro H hO hS hok hA hK
    have base_of : ∀ {b : Addr} {o : Obj}, s₁.heap.get? b = some o → H b = none → (hidT s₁.heap H).get? b = some o := fun e n => hidT_get e n
    have noA : ∀ {b : Addr} {o : Obj} {es : Array DictEntry} {ep : Nat}, s₁.heap.get? b = some o → o.data = .dict es ep → H b = none := fun {b o es ep} e d => by
      cases q : H b with
      | none => rfl
      | some u =>
        have e' : b = a := hA b (by rw [q]; simp)
        subst e'
        rw [ha] at e; cases e
        have d' : Data.seq vs.toArray _ = Data.dict es ep := d
        cases d'
    have nsK : ∀ {b : Addr} {m : Str → Option Value}, s₁.heap.Ns b m → (hidT s₁.heap H).Ns b m := fun {b m} ⟨o, es, ep, e, d, r⟩ => ⟨o, es, ep, base_of e (noA e d), d, r⟩
    have hKb : K.In (hidT s₁.heap H) := fun b o e => base_of (KX b o e) (by
      cases q : H b with
      | none => rfl
      | some u =>
        have e' : b = a := hA b (by rw [q]; simp)
        subst e'
        rw [hK (by rw [q]; simp)] at e; cases e)
    have hM : Mod K mg (hidT s₁.heap H) := ⟨hKb, nsK hns, ⟨mb, nsK hb, hbb⟩, let ⟨mc, h1, h2⟩ := hlim; ⟨mc, nsK h1, h2⟩⟩
    have e0 : Env0 P w K mg (hidT s₁.heap H) callerA [] s₁ H := ⟨rfl, hM, fun b o e => of_hidT e, Nat.le_of_eq (hidT_size _ _), trivial, fun b hb => absurd (show b ∈ ([] : List Addr) from hb) (by simp), hok, .of_eq hg⟩
    refine codeAny_mono ((F _ hKb (nsK hns)).run callerA [] s₁ H rfl ⟨[.ref a], []⟩ [.ref a] [.ref a] _ _ hr e0 (hbind s₁ (.ref a)) (.cons rfl .nil) (hsp H hO hS)) fun r s' h => ?_
    cases r with
    | error e => exact (hCX H e s' h).elim
    | ok fl =>
      cases fl with
      | next => exact False.elim h
      | brk => exact False.elim h
      | cont => exact False.elim h
      | ret u =>
        obtain ⟨v, H', os, bare, un, hok', r', q⟩ := h
        have q' : v = .bl true := q
        subst q'
        obtain rfl : u = Value.bool true := r'
        refine ⟨rfl, OldK.of_keep fun b o e => ?_, os, bare⟩
        cases q : H b with
        | none => exact un.keep b o e q (by intro z; exact absurd (show b ∈ ([] : List Addr) from z) (by simp)) (by simp)
        | some u =>
          rcases hO b with z | ⟨ob, xs, z⟩
          · rw [q] at z; cases z
          · have z2 := un.frzs b ob _ z
            obtain ⟨e1, _⟩ := hok b _ z
            obtain ⟨e2, _⟩ := hok' b _ z2
            rw [e] at e1; cases e1
            exact e2
  cases hk : K.lookup a with
  | some o =>
    -- the script is one of the module's own objects
    have e := KX a o hk
    rw [ha] at e
    cases e
    refine core (fun _ => none) (fun _ => .inl rfl) (.inr ⟨_, vs.toArray, _, hk, rfl, rfl, rfl, by rw [List.size_toArray, lenV]; exact hl, by simpa using rv⟩) (fun b u z => by have z' : (none : Option HO) = some u := z; cases z') (fun b z => absurd rfl z) fun z => absurd rfl z
  | none =>
    refine core (fun b => if b = a then some (.frz { cls := .type "list", data := .seq vs.toArray } (.lst (ns.map V.int))) else none) (fun b => ?_) (.inl (.inr ⟨{ cls := .type "list", data := .seq vs.toArray }, if_pos rfl⟩)) (fun b u z => ?_) (fun b z => ?_) fun _ => hk
    · by_cases hb : b = a
      · exact .inr ⟨_, _, if_pos hb⟩
      · exact .inl (if_neg hb)
    · by_cases hb : b = a
      · have z' := (if_pos hb).symm.trans z
        cases z'
        subst hb
        exact ⟨ha, by rw [List.length_map]; exact hl, vs, _, rv, ha⟩
      · have z' := (if_neg hb).symm.trans z
        cases z'
    · by_cases hb : b = a
      · exact hb
      · exact absurd (if_neg hb) z
theorem walk_ofG {l : PySem.W.OpenLaw} {n k : Nat} {q : Program} {loose : List Str} {XP : (Str → Option Value) → Heap → Prop} {YP : World → Heap → Prop} {d : DefRec} {K : Params → PySem.W.Frag} {CX : World → CXT} {sp : World → Sp} {x : Str}
    (hn : l.most = some n) (hn2 : n ≤ sizeLine) (hdf : d.params.defaults = []) (hr : Room k callerA)
    (hY : ∀ (w : World) (h : Heap), YP w h → (K w.params).In h)
    (F : ∀ (w : World) (mg : Str → Option Value) (fa : Addr) (h : Heap), (K w.params).In h → h.Ns mainGlobals mg → mg d.name = some (.ref fa) →
      ∃ fd : FuncData, (∀ (s : Shared) (u : Value), BindsTo s fd ⟨[u], []⟩ [(x, u)]) ∧
        ∀ base : Heap, (K w.params).In base → base.Ns mainGlobals mg → FnOkG l.prog w (K w.params) mg base (CX w) k fa fd [x] (sp w))
    (hsp : ∀ (w : World) (H : Hp) (a : Addr) (ns : List Int), ns.length ≤ n → Only H → SqL (K w.params) H a (ns.map V.int) → sp w [.ref a] H (fun v _ => v = .bl true) fun _ _ _ => False)
    (hCX : ∀ (w : World) (H : Hp) (s : Shared) (e : Value) (s' : Shared), CX w [] H s (fun _ _ _ => False) e s' → False) :
    PySem.W.WalkO q loose XP YP l.row.toRowW d [] (fun f vs => PySem.call f vs) := by
  refine Att.attach_call hn hdf fun w s₀ s₁ mg mb fa o pm cd doc a vs ns G Y ho hd hcd hmg hobj hints hlen hg => ?_
  have KX := hY w _ Y
  obtain ⟨fd, hb, hF⟩ := F w mg fa _ KX G.T.g hmg
  exact law_callG KX G.T.g G.T.b G.T.builtins G.T.nolimit hg hobj hints (Nat.le_trans hlen hn2) hr hF hb (fun H hO hS => hsp w H a ns hlen hO hS) fun H e s' => hCX w H s₁ e s'
end Tg
end
section
set_option Elab.async false
set_option linter.all false
set_option maxRecDepth 100000
set_option maxHeartbeats 4000000
/-! What the law builds is what the program reads. -/
namespace Tb
open PySem PySem.Spec PyProof.Rows L2
structure CutOk (W : Web) (M : List Nat) (free : Bool) (r : Nat) (R : List (Deed × Wk)) (S : List (Nat × Nat)) : Prop where
  ex : ∃ l cut, IsLast (goAll W M r) l ∧ l ≤ cut ∧ cut ≤ (goAll W M r).length ∧ (free = false → cut = l) ∧ R = (goAll W M r).take cut
  S_ : S = (endOf (start r) R).S
structure RightIn (W : Web) (M : List Nat) (roots : List Nat) (free : Bool) : Prop where
  good : Good W M roots
  all : free = true → ∀ x, x < W.length → markAt M x ≠ 0
  path : free = false → ∀ i r, roots[i]? = some r → ∃ row, OnPath W M (i + 1) r row
def esOf (roots : List Nat) (Rs : List (List (Deed × Wk))) : List Wk := List.zipWith (fun r R => endOf (start r) R) roots Rs
structure Built (W : Web) (M : List Nat) (roots : List Nat) (free : Bool) (Rs : List (List (Deed × Wk))) (Ss : List (List (Nat × Nat))) : Prop where
  rin : RightIn W M roots free
  rl : Rs.length = roots.length
  sl : Ss.length = roots.length
  cut : ∀ (i : Nat) r R S, roots[i]? = some r → Rs[i]? = some R → Ss[i]? = some S → CutOk W M free r R S
theorem linked_tail {W : Web} : ∀ {S : List (Nat × Nat)}, Linked W S → ∀ p, p ∈ S.tail → p.2 < (rowAt W p.1).length
  | [], _, p, h => by cases h
  | [_], _, p, h => by cases h
  | a :: q :: r, l, p, h => by
    have h' : p = q ∨ p ∈ r := List.mem_cons.mp h
    rcases h' with e | h'
    · rw [e]; exact l.1
    · exact linked_tail (S := q :: r) l.2.2 p h'
theorem below_mem : ∀ {R : List (Nat × Nat)} {y d : Nat} {b : Option Nat}, (y, (d, b)) ∈ below R → (y, d) ∈ R ∧ ∀ t, b = some t → t ∈ R.map (·.1)
  | [], _, _, _, h => by cases h
  | (x, c) :: R, y, d, b, h => by
    rcases List.mem_cons.mp h with e | h
    · cases e
      refine ⟨by simp, fun t ht => ?_⟩
      cases R with
      | nil => cases ht
      | cons q R =>
        cases ht
        simp
    · obtain ⟨h1, h2⟩ := below_mem h
      exact ⟨List.mem_cons_of_mem _ h1, fun t ht => by
        rw [List.map_cons]
        exact List.mem_cons_of_mem _ (h2 t ht)⟩
theorem prs_left : ∀ S : List (Nat × Nat), prs (wayOf S) = (left S).reverse
  | [] => rfl
  | [_] => rfl
  | p :: q :: r => by
    have ih := prs_left (q :: r)
    have e1 : wayOf (p :: q :: r) = wayOf (q :: r) ++ [p.1] := by simp [wayOf]
    have e2 : wayOf (q :: r) = wayOf r ++ [q.1] := by simp [wayOf]
    show prs (wayOf (p :: q :: r)) = ((q.1, p.1) :: left (q :: r)).reverse
    rw [List.reverse_cons, ← ih, e1]
    unfold prs
    have key : ∀ (l : List Nat) (a b : Nat), ((l ++ [a]) ++ [b]).zip ((l ++ [a]) ++ [b]).tail = (l ++ [a]).zip (l ++ [a]).tail ++ [(a, b)] := by
      intro l a b
      induction l with
      | nil => rfl
      | cons x l ih =>
        cases l with
        | nil => rfl
        | cons y l =>
          have : ((x :: y :: l ++ [a]) ++ [b]).zip ((x :: y :: l ++ [a]) ++ [b]).tail = (x, y) :: ((y :: l ++ [a]) ++ [b]).zip ((y :: l ++ [a]) ++ [b]).tail := rfl
          rw [this, ih]
          rfl
    rw [e2]
    exact key _ _ _
theorem flat_perm {α β : Type} {f g : α → List β} : ∀ {L : List α}, (∀ x, x ∈ L → (f x).Perm (g x)) → (L.map f).flatten.Perm (L.map g).flatten
  | [], _ => .nil
  | a :: L, h => by
    rw [List.map_cons, List.map_cons, List.flatten_cons, List.flatten_cons]
    exact (h a (by simp)).append (flat_perm fun x hx => h x (List.mem_cons_of_mem _ hx))
section
variable {W : Web} {M roots : List Nat} {free : Bool} {Rs : List (List (Deed × Wk))} {Ss : List (List (Nat × Nat))}
theorem Built.es_get (B : Built W M roots free Rs Ss) {i : Nat} {r : Nat} {R : List (Deed × Wk)} (hr : roots[i]? = some r) (hR : Rs[i]? = some R) : (esOf roots Rs)[i]? = some (endOf (start r) R) := by
  unfold esOf
  rw [List.getElem?_zipWith, hr, hR]
theorem Built.es_len (B : Built W M roots free Rs Ss) : (esOf roots Rs).length = roots.length := by
  unfold esOf
  rw [List.length_zipWith, B.rl, Nat.min_self]
theorem Built.es_S (B : Built W M roots free Rs Ss) : (esOf roots Rs).map (·.S) = Ss := by
  apply List.ext_getElem?
  intro i
  rw [List.getElem?_map]
  by_cases h : i < roots.length
  · have hr : roots[i]? = some roots[i] := List.getElem?_eq_getElem h
    have hR : Rs[i]? = some (Rs[i]'(by rw [B.rl]; exact h)) := List.getElem?_eq_getElem _
    have hS : Ss[i]? = some (Ss[i]'(by rw [B.sl]; exact h)) := List.getElem?_eq_getElem _
    rw [B.es_get hr hR, hS, (B.cut i _ _ _ hr hR hS).S_]
    rfl
  · rw [List.getElem?_eq_none (by rw [B.es_len]; omega), List.getElem?_eq_none (by rw [B.sl]; omega)]
    rfl
theorem Built.chain (B : Built W M roots free Rs Ss) {i r : Nat} {R : List (Deed × Wk)} (hr : roots[i]? = some r) (hR : Rs[i]? = some R) : Chain W M (i + 1) (start r) R ∧ WInv W M (i + 1) r (start r) ∧ R.length ≤ 1000 ∧ ∀ x, x < W.length → markAt M x = i + 1 → x ∈ (endOf (start r) R).G := by
  have hlt := (List.getElem?_eq_some_iff.mp hr).1
  have hS : Ss[i]? = some (Ss[i]'(by rw [B.sl]; exact hlt)) := List.getElem?_eq_getElem _
  obtain ⟨⟨l, cut, h1, h2, h3, h4, rfl⟩, _⟩ := B.cut i r R _ hr hR hS
  obtain ⟨g1, g2⟩ := B.rin.good.root i r hr
  have hch : Chain W M (i + 1) (start r) (goAll W M r) := by
    unfold goAll
    rw [g2]
    exact runN_chain _ _
  have hI := inv_start g2 g1
  have e := List.take_append_drop cut (goAll W M r)
  have hlen : (goAll W M r).length ≤ fuel W := runN_len _ _
  refine ⟨(chain_append.mp (e ▸ hch)).1, hI, ?_, fun x hx hm => ?_⟩
  · rw [List.length_take]
    have := B.rin.good.n60
    unfold fuel at hlen
    omega
  · rw [cut_G hch h1 h2]
    have := runN_own (f := fuel W) B.rin.good.ties B.rin.good.row8 g2 g1 (B.rin.good.reach i r hr) mu_start x hx hm
    unfold goAll
    rw [g2]
    exact this
theorem Built.fin (B : Built W M roots free Rs Ss) : Fin W M roots (esOf roots Rs) := by
  refine ⟨B.es_len, fun i e he => ?_⟩
  have hlt : i < roots.length := by rw [← B.es_len]; exact (List.getElem?_eq_some_iff.mp he).1
  have hr : roots[i]? = some roots[i] := List.getElem?_eq_getElem hlt
  have hR : Rs[i]? = some (Rs[i]'(by rw [B.rl]; exact hlt)) := List.getElem?_eq_getElem _
  rw [B.es_get hr hR] at he
  cases he
  obtain ⟨c1, c2, c3, c4⟩ := B.chain hr hR
  exact ⟨_, hr, inv_chain B.rin.good.ties c2 c1, c4⟩
theorem Built.closed (B : Built W M roots free Rs Ss) : Closed W M (esOf roots Rs) := by
  cases hf : free with
  | true => exact closed_all B.rin.good.ties (B.rin.all hf)
  | false =>
    refine closed_path B.rin.good.ties B.fin (fun x hx => ?_) fun i r hr => ?_
    · unfold markAt
      rw [List.getD_eq_getElem?_getD, List.getElem?_eq_getElem (by rw [B.rin.good.mlen]; exact hx)]
      exact B.rin.good.mks _ (List.getElem_mem _)
    · obtain ⟨row, P⟩ := B.rin.path hf i r hr
      refine ⟨row, P, fun e he => ?_⟩
      have hlt := (List.getElem?_eq_some_iff.mp hr).1
      have hR : Rs[i]? = some (Rs[i]'(by rw [B.rl]; exact hlt)) := List.getElem?_eq_getElem _
      have hS : Ss[i]? = some (Ss[i]'(by rw [B.sl]; exact hlt)) := List.getElem?_eq_getElem _
      rw [B.es_get hr hR] at he
      cases he
      obtain ⟨c1, c2, c3, c4⟩ := B.chain hr hR
      obtain ⟨⟨l, cut, h1, h2, h3, h4, hRe⟩, _⟩ := B.cut i r _ _ hr hR hS
      have ec := h4 hf
      subst ec
      rw [hRe] at c4 ⊢
      obtain ⟨g1, g2⟩ := B.rin.good.root i r hr
      have hch : Chain W M (i + 1) (start r) (goAll W M r) := by
        unfold goAll
        rw [g2]
        exact runN_chain _ _
      exact path_last B.rin.good.ties P c2 hch h1 c4
theorem Built.ents_perm (B : Built W M roots free Rs Ss) : ((Ss.map ents).flatten).Perm (EE (esOf roots Rs)) := by
  unfold EE
  rw [← B.es_S, List.map_map]
  refine flat_perm fun e _ => ?_
  show (ents e.S).Perm (below e.S.tail)
  rw [ents_eq]
  exact List.reverse_perm _
theorem Built.cnts_perm (B : Built W M roots free Rs Ss) : ((Ss.map List.reverse).flatten).Perm (PP (esOf roots Rs)) := by
  unfold PP
  rw [← B.es_S, List.map_map]
  exact flat_perm fun e _ => List.reverse_perm _
theorem Built.prs_perm (B : Built W M roots free Rs Ss) : (((Ss.map wayOf).map prs).flatten).Perm (LL (esOf roots Rs)) := by
  unfold LL
  rw [← B.es_S, List.map_map, List.map_map]
  refine flat_perm fun e _ => ?_
  show (prs (wayOf e.S)).Perm (left e.S)
  rw [prs_left]
  exact List.reverse_perm _
theorem Built.W0_eq (B : Built W M roots free Rs Ss) : W0 W Ss = tiesL W (esOf roots Rs) := ties_fold B.fin B.ents_perm
theorem Built.C0_eq (B : Built W M roots free Rs Ss) : C0 W.length Ss = countsL W (esOf roots Rs) := counts_fold B.fin B.cnts_perm
theorem mem_ways {Es : List Wk} {x : Nat} : x ∈ ((Es.map (·.S)).map wayOf).flatten ↔ stays Es x := by
  unfold stays PP
  constructor
  · intro h
    obtain ⟨l, hl, hx⟩ := List.mem_flatten.mp h
    obtain ⟨S, hS, rfl⟩ := List.mem_map.mp hl
    unfold wayOf at hx
    obtain ⟨p, hp, rfl⟩ := List.mem_map.mp (List.mem_reverse.mp hx)
    exact List.mem_map.mpr ⟨p, List.mem_flatten.mpr ⟨S, hS, hp⟩, rfl⟩
  · intro h
    obtain ⟨p, hp, rfl⟩ := List.mem_map.mp h
    obtain ⟨S, hS, hp⟩ := List.mem_flatten.mp hp
    refine List.mem_flatten.mpr ⟨wayOf S, List.mem_map.mpr ⟨S, hS, rfl⟩, ?_⟩
    unfold wayOf
    exact List.mem_reverse.mpr (List.mem_map.mpr ⟨p, hp, rfl⟩)
theorem Built.mem_ways (B : Built W M roots free Rs Ss) {x : Nat} : x ∈ (Ss.map wayOf).flatten ↔ stays (esOf roots Rs) x := by
  rw [← B.es_S]
  exact Tb.mem_ways
theorem Built.lasts (B : Built W M roots free Rs Ss) : lastsOf (Ss.map wayOf) = tops (esOf roots Rs) := by
  rw [← B.es_S]
  unfold lastsOf tops
  rw [List.map_map, List.filterMap_map]
  congr 1
  funext e
  show (wayOf e.S).getLast? = _
  unfold wayOf
  rw [List.getLast?_reverse, List.head?_map]
theorem Built.stay_lt (B : Built W M roots free Rs Ss) {x : Nat} (h : stays (esOf roots Rs) x) : x < W.length := by
  obtain ⟨p, hp, rfl⟩ := List.mem_map.mp h
  obtain ⟨i, e, he, hx⟩ := of_flat (f := (·.S)) hp
  obtain ⟨r, _, I, _⟩ := B.fin.inv i e he
  exact (I.own _ (I.sub p hx)).2
theorem Built.C_getD (B : Built W M roots free Rs Ss) (x : Nat) : (C0 W.length Ss).getD x 0 = cntF (esOf roots Rs) x := by
  rw [B.C0_eq]
  unfold countsL
  rw [List.getD_eq_getElem?_getD, List.getElem?_map]
  by_cases h : x < W.length
  · rw [List.getElem?_range h]
    rfl
  · rw [List.getElem?_eq_none (by simpa using h)]
    exact (cnt_off fun z => h (B.stay_lt z)).symm
theorem mark_get (g : Good W M roots) {x : Nat} (h : x < W.length) : M[x]? = some (markAt M x) := by
  unfold markAt
  rw [List.getD_eq_getElem?_getD, List.getElem?_eq_getElem (by rw [g.mlen]; exact h)]
  rfl
theorem Built.seen_eq (B : Built W M roots free Rs Ss) {x : Nat} : seenV W M (C0 W.length Ss) (Ss.map wayOf) x = seenF W M (esOf roots Rs) x := by
  unfold seenV
  by_cases h : stays (esOf roots Rs) x
  · rw [if_pos (B.mem_ways.mpr h), seen_stays B.fin h, B.C_getD, B.lasts]
  · rw [if_neg fun z => h (B.mem_ways.mp z), seen_off h]
    rfl
theorem Built.S_get (B : Built W M roots free Rs Ss) {x : Nat} (h : x < W.length) : ((List.range W.length).map (seenV W M (C0 W.length Ss) (Ss.map wayOf))).getD x 0 = seenF W M (esOf roots Rs) x := by
  rw [List.getD_eq_getElem?_getD, List.getElem?_map, List.getElem?_range h]
  exact B.seen_eq
theorem Built.row0 (B : Built W M roots free Rs Ss) {x : Nat} (h : x < W.length) : rowAt (W0 W Ss) x = rowF W (esOf roots Rs) x := by
  rw [B.W0_eq]
  unfold rowAt tiesL
  rw [List.getD_eq_getElem?_getD, List.getElem?_map, List.getElem?_range h]
  rfl
/-- each walker's stand -/
theorem Built.stand (B : Built W M roots free Rs Ss) {i : Nat} {S : List (Nat × Nat)} (hS : Ss[i]? = some S) : ∃ r R e, roots[i]? = some r ∧ Rs[i]? = some R ∧ (esOf roots Rs)[i]? = some e ∧ e = endOf (start r) R ∧ S = e.S ∧ WInv W M (i + 1) r e := by
  have hlt : i < roots.length := by rw [← B.sl]; exact (List.getElem?_eq_some_iff.mp hS).1
  have hr : roots[i]? = some roots[i] := List.getElem?_eq_getElem hlt
  have hR : Rs[i]? = some (Rs[i]'(by rw [B.rl]; exact hlt)) := List.getElem?_eq_getElem _
  obtain ⟨c1, c2, _, _⟩ := B.chain hr hR
  exact ⟨_, _, _, hr, hR, B.es_get hr hR, rfl, (B.cut i _ _ _ hr hR hS).S_, inv_chain B.rin.good.ties c2 c1⟩
theorem Built.stand_ok (B : Built W M roots free Rs Ss) : ∀ S, S ∈ Ss → S.length ≤ 60 ∧ (∀ p, p ∈ S → p.1 < W.length) ∧ ∀ p, p ∈ S.tail → p.2 < (rowAt W p.1).length := by
  intro S hS
  obtain ⟨i, hi⟩ := List.mem_iff_getElem?.mp hS
  obtain ⟨r, R, e, _, _, _, _, rfl, I⟩ := B.stand hi
  have hlt : ∀ p, p ∈ e.S → p.1 < W.length := fun p hp => (I.own _ (I.sub p hp)).2
  refine ⟨?_, hlt, linked_tail I.link⟩
  have := nodup_le I.nd (n := W.length) fun x hx => by
    obtain ⟨q, hq, rfl⟩ := List.mem_map.mp hx
    exact hlt q hq
  rw [List.length_map] at this
  have := B.rin.good.n60
  omega
theorem Built.heres_get (B : Built W M roots free Rs Ss) {i r : Nat} {S : List (Nat × Nat)} (hr : roots[i]? = some r) (hS : Ss[i]? = some S) : (heresL roots Ss)[i]? = some (spotOf r S) := by
  unfold heresL
  rw [List.getElem?_zipWith, hr, hS]
theorem Built.heres_len (B : Built W M roots free Rs Ss) : (heresL roots Ss).length = roots.length := by
  unfold heresL
  rw [List.length_zipWith, B.sl, Nat.min_self]
theorem Built.dok (B : Built W M roots free Rs Ss) : DOk W (deedsOf Rs) := by
  refine ⟨by unfold deedsOf; rw [List.length_map, B.rl]; exact B.rin.good.rn6, fun row hrow => ?_⟩
  unfold deedsOf at hrow
  obtain ⟨R, hR, rfl⟩ := List.mem_map.mp hrow
  obtain ⟨i, hi⟩ := List.mem_iff_getElem?.mp hR
  have hlt : i < roots.length := by rw [← B.rl]; exact (List.getElem?_eq_some_iff.mp hi).1
  obtain ⟨c1, c2, c3, _⟩ := B.chain (List.getElem?_eq_getElem hlt) hi
  refine ⟨by rw [List.length_map]; exact c3, fun d hd => ?_⟩
  obtain ⟨q, hq, rfl⟩ := List.mem_map.mp hd
  exact chain_in B.rin.good.ties c2 c1 q hq
theorem Built.back (B : Built W M roots free Rs Ss) (i : Nat) (S : List (Nat × Nat)) (r : Nat) (hS : Ss[i]? = some S) (hr : roots[i]? = some r) : BackIn (W0 W Ss) M (C0 W.length Ss) (heresL roots Ss) i r S := by
  obtain ⟨r', R, e, hr', hR, he, _, rfl, I⟩ := B.stand hS
  rw [hr] at hr'
  cases hr'
  have g := B.rin.good
  obtain ⟨g1, g2⟩ := g.root i r hr
  have hlt : ∀ p, p ∈ e.S → p.1 < W.length := fun p hp => (I.own _ (I.sub p hp)).2
  refine ⟨B.heres_get hr hS, fun _ => by rw [mark_get g g1, g2], I.nd, fun p hp => ⟨by rw [mark_get g (hlt p hp), (I.own _ (I.sub p hp)).1], by unfold W0; rw [setT_len]; exact hlt p hp⟩, fun y d b hb => ?_, (B.stand_ok e.S (List.mem_of_getElem? hS)).1⟩
  obtain ⟨h1, h2⟩ := below_mem hb
  have hyS : (y, d) ∈ e.S := List.mem_of_mem_tail h1
  have hyl := hlt _ hyS
  constructor
  · have hc := B.C_getD y
    rw [cnt_of B.fin he hyS] at hc
    rw [List.getD_eq_getElem?_getD] at hc
    have hl : y < (C0 W.length Ss).length := by unfold C0; rw [setC_len, List.length_replicate]; exact hyl
    rw [List.getElem?_eq_getElem hl] at hc ⊢
    simp at hc
    rw [hc]
  · have hd := linked_tail I.link (y, d) h1
    rw [B.row0 hyl, row_of B.fin he hb, List.getElem?_set_self hd]
theorem Built.momIn (B : Built W M roots free Rs Ss) : MomIn (W0 W Ss) W M (C0 W.length Ss) (heresL roots Ss) roots Ss Rs := by
  have g := B.rin.good
  refine ⟨g.n60, by unfold W0; rw [setT_len], by rw [B.heres_len, B.sl], by rw [B.heres_len]; exact g.rn6, B.sl.symm, by rw [B.rl, B.sl], g.mlen, by unfold C0; rw [setC_len, List.length_replicate], g.row8, g.ties, B.back, ?_, ?_, ?_, ?_, ?_, ?_, ?_⟩
  · intro i way h r hway hh hr
    obtain ⟨S, hS, rfl⟩ := map_get hway
    rw [B.heres_get hr hS] at hh
    cases hh
    obtain ⟨r', R, e, hr', hR, he, _, rfl, I⟩ := B.stand hS
    rw [hr] at hr'
    cases hr'
    constructor
    · intro hn
      unfold wayOf at hn
      have : e.S = [] := by simpa using hn
      rw [this]
      rfl
    · intro hn
      unfold wayOf at hn ⊢
      rw [← List.head?_eq_getElem?, List.head?_reverse, List.getLast?_map]
      cases hl : e.S.getLast? with
      | none =>
        exfalso
        apply hn
        have : e.S = [] := List.getLast?_eq_none_iff.mp hl
        rw [this]
        rfl
      | some p =>
        have := I.bot p hl
        simp [this]
  · intro way hway q hq
    obtain ⟨S, hS, rfl⟩ := List.mem_map.mp hway
    obtain ⟨i, hi⟩ := List.mem_iff_getElem?.mp hS
    obtain ⟨r, R, e, hr, hR, he, _, rfl, I⟩ := B.stand hi
    rw [prs_left] at hq
    obtain ⟨x, y⟩ := q
    obtain ⟨c, h1, h2, h3, b, h4⟩ := linked_left I.link x y (List.mem_reverse.mp hq)
    have hxl : x < W.length := (I.own _ (I.sub (x, c) (List.mem_of_mem_tail h1))).2
    refine ⟨by unfold W0; rw [setT_len]; exact hxl, by unfold C0; rw [setC_len, List.length_replicate]; exact hxl, ?_⟩
    show (C0 W.length Ss).getD x 0 < (rowAt (W0 W Ss) x).length
    rw [B.C_getD, cnt_of B.fin he (List.mem_of_mem_tail h1), B.row0 hxl, row_len]
    exact h2
  · have e : upf (C0 W.length Ss) = fun (l : Web) p => l.modify p.1 (·.set (cntF (esOf roots Rs) p.1) (some p.2)) := by
      funext l p
      unfold upf
      rw [B.C_getD]
    rw [e, B.W0_eq]
    exact back_fold B.fin B.prs_perm
  · intro x _ hx
    rw [B.C_getD] at hx
    rw [B.mem_ways]
    by_cases h : stays (esOf roots Rs) x
    · exact h
    · exact absurd (cnt_off h) hx
  · intro x c t hx hc ht
    rw [B.seen_eq] at hc
    have htl := g.ties x c t ht
    exact ⟨by rw [g.mlen]; exact htl, B.closed x c t hx hc ht⟩
  · intro i r S R hr hS hR
    obtain ⟨r', R', e, hr', hR', he, ee, rfl, I⟩ := B.stand hS
    rw [hr] at hr'
    rw [hR] at hR'
    cases hr'
    cases hR'
    subst ee
    obtain ⟨c1, c2, c3, c4⟩ := B.chain hr hR
    refine ⟨c1, c2, rfl, fun x c hm => ?_, ?_, c4, c3⟩
    · rw [B.mem_ways]
      have hxl : x < W.length := by
        rcases Nat.lt_or_ge x W.length with h | h
        · exact h
        · exfalso
          have : markAt M x = 0 := by
            unfold markAt
            rw [List.getD_eq_getElem?_getD, List.getElem?_eq_none (by rw [g.mlen]; exact h)]
            rfl
          omega
      rw [B.S_get hxl]
      exact conv_mine B.fin he hm
    · have := conv_seen B.fin he
      rw [← this]
      apply List.map_congr_left
      intro p hp
      have hpl := (I.own _ (I.sub p hp)).2
      rw [B.S_get hpl]
  · have hnd : ((Ss.map wayOf).flatten).Nodup := by
      have hp : ((Ss.map wayOf).flatten).Perm ((PP (esOf roots Rs)).map (·.1)) := by
        unfold PP
        rw [← B.es_S, List.map_flatten, List.map_map, List.map_map]
        exact flat_perm fun e _ => List.reverse_perm _
      exact hp.nodup_iff.mpr (nd_PP B.fin)
    have := nodup_le hnd (n := W.length) fun x hx => B.stay_lt (B.mem_ways.mp hx)
    have := g.n60
    omega
theorem Built.wellS (B : Built W M roots free Rs Ss) : WellS (W0 W Ss) M (C0 W.length Ss) (heresL roots Ss) := by
  have g := B.rin.good
  have hl : (W0 W Ss).length = W.length := by unfold W0; rw [setT_len]
  refine ⟨by rw [hl]; exact g.n1, by rw [hl]; exact g.n60, ?_, by rw [hl]; exact g.mlen, by rw [B.heres_len]; exact g.mks, by rw [hl]; unfold C0; rw [setC_len, List.length_replicate], ?_, by rw [B.heres_len]; exact g.rn1, by rw [B.heres_len]; exact g.rn6, ?_⟩
  · intro row hrow
    obtain ⟨x, hx⟩ := List.mem_iff_getElem?.mp hrow
    have hxl : x < W.length := by rw [← hl]; exact (List.getElem?_eq_some_iff.mp hx).1
    have er : row = rowF W (esOf roots Rs) x := by
      rw [← B.row0 hxl]
      unfold rowAt
      rw [List.getD_eq_getElem?_getD, hx]
      rfl
    subst er
    refine ⟨by rw [row_len]; exact g.row8 x, fun t ht => ?_⟩
    rw [hl]
    unfold rowF at ht
    cases hl' : (EE (esOf roots Rs)).lookup x with
    | none =>
      rw [hl'] at ht
      obtain ⟨c, hc⟩ := List.mem_iff_getElem?.mp ht
      refine g.ties x c t ?_
      unfold tieAt
      rw [List.getD_eq_getElem?_getD, hc]
      rfl
    | some v =>
      obtain ⟨c, b⟩ := v
      rw [hl'] at ht
      rcases List.mem_or_eq_of_mem_set ht with ht | ht
      · obtain ⟨c, hc⟩ := List.mem_iff_getElem?.mp ht
        refine g.ties x c t ?_
        unfold tieAt
        rw [List.getD_eq_getElem?_getD, hc]
        rfl
      · obtain ⟨i, e, he, hb⟩ := of_flat (f := fun e => below e.S.tail) (lookup_mem hl')
        obtain ⟨r, _, I, _⟩ := B.fin.inv i e he
        obtain ⟨p, hp, e1⟩ := List.mem_map.mp ((below_mem hb).2 t ht.symm)
        rw [← e1]
        exact (I.own _ (I.sub p (List.mem_of_mem_tail hp))).2
  · intro i c hc
    have e := B.C_getD i
    rw [List.getD_eq_getElem?_getD, hc] at e
    simp at e
    have hil : i < W.length := by
      have := (List.getElem?_eq_some_iff.mp hc).1
      unfold C0 at this
      rw [setC_len, List.length_replicate] at this
      exact this
    rw [B.row0 hil, row_len, e]
    by_cases h : stays (esOf roots Rs) i
    · obtain ⟨p, hp, rfl⟩ := List.mem_map.mp h
      obtain ⟨j, w, hj, hx⟩ := of_flat (f := (·.S)) hp
      obtain ⟨r, _, I, _⟩ := B.fin.inv j w hj
      rw [cnt_of B.fin (x := p.1) (c := p.2) hj hx]
      exact I.cnt p hx
    · rw [cnt_off h]
      exact Nat.zero_le _
  · intro s hs
    obtain ⟨i, hi⟩ := List.mem_iff_getElem?.mp hs
    have hlt : i < roots.length := by rw [← B.heres_len]; exact (List.getElem?_eq_some_iff.mp hi).1
    have hr : roots[i]? = some roots[i] := List.getElem?_eq_getElem hlt
    have hS : Ss[i]? = some (Ss[i]'(by rw [B.sl]; exact hlt)) := List.getElem?_eq_getElem _
    rw [B.heres_get hr hS] at hi
    cases hi
    obtain ⟨_, hlt2, _⟩ := B.stand_ok _ (List.mem_of_getElem? hS)
    rw [hl]
    generalize Ss[i]'(by rw [B.sl]; exact hlt) = S at *
    cases S with
    | nil => exact (g.root i _ hr).1
    | cons p R =>
      obtain ⟨x, c⟩ := p
      refine ⟨hlt2 (x, c) (by simp), fun y hy => ?_⟩
      cases R with
      | nil => cases hy
      | cons q R =>
        cases hy
        exact hlt2 q (by simp)
theorem Built.stIn (B : Built W M roots free Rs Ss) {K : PySem.W.Frag} {H : Hp} {v : V} (h : Tp K H v (dState (W0 W Ss) M (C0 W.length Ss) (heresL roots Ss))) : StIn K H v W roots Rs :=
  ⟨⟨_, _, _, _, _, h, B.wellS, B.momIn⟩⟩
end
end Tb
end
section
set_option Elab.async false
set_option linter.all false
set_option maxRecDepth 100000
set_option maxHeartbeats 4000000
/-! The law: _law_right. -/
namespace Tb
open PySem PySem.Spec PyProof.Rows L2
abbrev sRight : Stmt := top 52
theorem set_any {te : TE} {ts : TS} {D : Ends} {g : TG} {σ : L2.St} {H : Hp} (P : V → Hp → Prop) (h : ∀ Q' : VK, (∀ v H1, P v H1 → Q' v H1) → te σ H Q') (k : ∀ v H1, P v H1 → g v σ H1 (ts D)) : tSeq (tAsg te g) ts D σ H := h _ k
theorem if_via {c : TT} {a b ts : TS} {D : Ends} {σ : L2.St} {H : Hp} (bv : Bool) (P : Hp → Prop) (h : ∀ Q' : Bool → Hp → Prop, (∀ H1, P H1 → Q' bv H1) → c σ H Q') (k : ∀ H1, P H1 → if bv = true then a { D with nx := ts D } σ H1 else b { D with nx := ts D } σ H1) : tSeq (tIfS c a b) ts D σ H := h _ k
theorem cutV_take (xs : List V) (n : Nat) : cutV xs none (some (n : Int)) = xs.take n := by
  unfold cutV
  rw [HT.sIx_none, HT.sIx_nat, List.drop_zero, Nat.sub_zero]
  rcases Nat.le_total n xs.length with h | h
  · rw [Nat.min_eq_left h]
  · rw [Nat.min_eq_right h, List.take_of_length_le (Nat.le_refl _), List.take_of_length_le h]
/-! ### what repr asks -/
structure Rp (k b : Nat) (d : PyData) : Prop where
  sh : d.showable = true
  nd : d.hasDict = false
  lf : d.leavesShort 13 = true
  bk : d.bulk ≤ b
  dp : d.depth ≤ k
theorem Rp.mono {k b k' b' : Nat} {d : PyData} (h : Rp k b d) (h1 : k ≤ k') (h2 : b ≤ b') : Rp k' b' d := ⟨h.sh, h.nd, h.lf, Nat.le_trans h.bk h2, Nat.le_trans h.dp h1⟩
theorem rp_nat {k : Nat} {n : Nat} (h : n ≤ 1000) : Rp k 0 (dNat n) := by
  refine ⟨?_, rfl, ?_, Nat.le_refl _, by simp [dNat, PyData.depth]⟩
  · show decide ((n : Int).natAbs.log2 < 1920) = true
    refine decide_eq_true ?_
    rw [Int.natAbs_natCast]
    exact Nat.lt_of_le_of_lt (Nat.log2_le_self n) (by omega)
  · show decide ((PyData.shown (.int (n : Int))).length ≤ 13) = true
    exact decide_eq_true (PyData.shown_int_le2 (by omega) (by omega))
theorem rp_all {k b : Nat} : ∀ {ds : List PyData}, (∀ d, d ∈ ds → Rp k b d) → PyData.showableAll ds = true ∧ PyData.hasDictAll ds = false ∧ PyData.leavesShortAll 13 ds = true ∧ PyData.bulkAll ds ≤ ds.length * (b + 1) ∧ PyData.depthAll ds ≤ k
  | [], _ => ⟨rfl, rfl, rfl, Nat.zero_le _, by simp [PyData.depthAll]⟩
  | d :: ds, h => by
    obtain ⟨h1, h2, h3, h4, h5⟩ := rp_all (ds := ds) fun e he => h e (List.mem_cons_of_mem _ he)
    obtain ⟨g1, g2, g3, g4, g5⟩ := h d (by simp)
    refine ⟨by simp [PyData.showableAll, g1, h1], by simp [PyData.hasDictAll, g2, h2], by simp [PyData.leavesShortAll, g3, h3], ?_, by simp only [PyData.depthAll]; exact Nat.max_le.mpr ⟨g5, h5⟩⟩
    simp only [PyData.bulkAll, List.length_cons, Nat.add_mul, Nat.one_mul]
    omega
theorem rp_tup {k b n : Nat} {ds : List PyData} (h : ∀ d, d ∈ ds → Rp k b d) (hn : ds.length ≤ n) : Rp (k + 1) (n * (b + 1)) (.tuple ds) := by
  obtain ⟨h1, h2, h3, h4, h5⟩ := rp_all h
  refine ⟨by simpa [PyData.showable] using h1, by simpa [PyData.hasDict] using h2, by simpa [PyData.leavesShort] using h3, ?_, by simp only [PyData.depth]; omega⟩
  simp only [PyData.bulk]
  exact Nat.le_trans h4 (Nat.mul_le_mul_right _ hn)
theorem rp_str {k : Nat} {x : Str} (h : (PyData.str x).leavesShort 13 = true) (h2 : x.cps.size ≤ 4) : Rp k 4 (.str x) := ⟨rfl, rfl, h, h2, by simp [PyData.depth]⟩
theorem rp_kinds : Rp 0 4 (.str "skip") ∧ Rp 0 4 (.str "down") ∧ Rp 0 4 (.str "up") ∧ Rp 0 4 (.str "stop") := by
  refine ⟨rp_str ?_ ?_, rp_str ?_ ?_, rp_str ?_ ?_, rp_str ?_ ?_⟩ <;> decide +kernel
def nodeD : Deed → Nat
  | .skip x _ => x
  | .down x _ => x
  | .up x => x
  | .stop x => x
theorem step_node {W : Web} {M : List Nat} {me : Nat} {s s' : Wk} {d : Deed} (h : step W M me s = some (d, s')) : ∃ c R, s.S = (nodeD d, c) :: R := by
  obtain ⟨S, G⟩ := s
  cases S with
  | nil => simp [step] at h
  | cons p R =>
    obtain ⟨x, c⟩ := p
    refine ⟨c, R, ?_⟩
    suffices e : nodeD d = x by rw [e]
    unfold step at h
    dsimp only at h
    by_cases hc : c = (rowAt W x).length
    · rw [if_pos hc] at h
      cases R with
      | nil =>
        cases h
        rfl
      | cons q R =>
        cases h
        rfl
    · rw [if_neg hc] at h
      cases ht : tieAt W x c with
      | none =>
        rw [ht] at h
        cases h
        rfl
      | some t =>
        rw [ht] at h
        dsimp only at h
        by_cases hm : markAt M t ≠ me ∨ t ∈ G
        · rw [if_pos hm] at h
          cases h
          rfl
        · rw [if_neg hm] at h
          cases h
          rfl
theorem chain_node {W : Web} {M : List Nat} {me root : Nat} (T : TiesIn W) : ∀ {R : List (Deed × Wk)} {s : Wk}, WInv W M me root s → Chain W M me s R → ∀ q, q ∈ R → nodeD q.1 < W.length
  | [], _, _, _, _, h => by cases h
  | p :: R, s, I, c, q, h => by
    rcases List.mem_cons.mp h with e | h
    · rw [e]
      obtain ⟨d, s'⟩ := p
      obtain ⟨n, R', hS⟩ := step_node c.1
      exact (I.own _ (I.sub (nodeD d, n) (by rw [hS]; simp))).2
    · exact chain_node T (inv_step T I c.1) c.2 q h
theorem Built.node {W : Web} {M roots : List Nat} {free : Bool} {Rs : List (List (Deed × Wk))} {Ss : List (List (Nat × Nat))} (B : Built W M roots free Rs Ss) : ∀ row, row ∈ deedsOf Rs → ∀ d, d ∈ row → nodeD d < W.length := by
  intro row hrow d hd
  unfold deedsOf at hrow
  obtain ⟨R, hR, rfl⟩ := List.mem_map.mp hrow
  obtain ⟨i, hi⟩ := List.mem_iff_getElem?.mp hR
  have hlt : i < roots.length := by rw [← B.rl]; exact (List.getElem?_eq_some_iff.mp hi).1
  obtain ⟨c1, c2, c3, _⟩ := B.chain (List.getElem?_eq_getElem hlt) hi
  obtain ⟨q, hq, rfl⟩ := List.mem_map.mp hd
  exact chain_node B.rin.good.ties c2 c1 q hq
theorem rp_deed {W : Web} (hn : W.length ≤ 60) (h8 : ∀ x, (rowAt W x).length ≤ 8) {d : Deed} (h : DeedIn W d) (hnd : nodeD d < W.length) : Rp 1 15 (dDeed d) := by
  obtain ⟨k1, k2, k3, k4⟩ := rp_kinds
  cases d with
  | skip x c =>
    have := h8 x
    refine rp_tup (k := 0) (b := 4) (n := 3) (fun e he => ?_) (by show 3 ≤ 3; decide)
    simp at he
    obtain ⟨g1, g2⟩ := h
    rcases he with rfl | rfl | rfl
    · exact k1
    · exact (rp_nat (by omega)).mono (Nat.le_refl _) (by decide)
    · exact (rp_nat (by omega)).mono (Nat.le_refl _) (by decide)
  | down x c =>
    have := h8 x
    refine rp_tup (k := 0) (b := 4) (n := 3) (fun e he => ?_) (by show 3 ≤ 3; decide)
    simp at he
    obtain ⟨g1, g2, _⟩ := h
    rcases he with rfl | rfl | rfl
    · exact k2
    · exact (rp_nat (by omega)).mono (Nat.le_refl _) (by decide)
    · exact (rp_nat (by omega)).mono (Nat.le_refl _) (by decide)
  | up x =>
    have g1 : x < W.length := hnd
    refine rp_tup (k := 0) (b := 4) (n := 3) (fun e he => ?_) (by show 2 ≤ 3; decide)
    simp at he
    rcases he with rfl | rfl
    · exact k3
    · exact (rp_nat (by omega)).mono (Nat.le_refl _) (by decide)
  | stop x =>
    have g1 : x < W.length := hnd
    refine rp_tup (k := 0) (b := 4) (n := 3) (fun e he => ?_) (by show 2 ≤ 3; decide)
    simp at he
    rcases he with rfl | rfl
    · exact k4
    · exact (rp_nat (by omega)).mono (Nat.le_refl _) (by decide)
def dDue (W : Web) (roots : List Nat) (D : List (List Deed)) : PyData := .tuple [dDeeds D, dNats ((order W roots D).map (· + 1))]
theorem rp_due {W : Web} {roots : List Nat} {D : List (List Deed)} (hn : W.length ≤ 60) (h8 : ∀ x, (rowAt W x).length ≤ 8) (h : DOk W D) (hnd : ∀ row, row ∈ D → ∀ d, d ∈ row → nodeD d < W.length) : Rp 4 300000 (dDue W roots D) := by
  have h1 : Rp 3 100000 (dDeeds D) := by
    refine (rp_tup (k := 2) (b := 16000) (n := 6) (fun e he => ?_) (by rw [List.length_map]; exact h.1)).mono (Nat.le_refl _) (by decide)
    obtain ⟨row, hrow, rfl⟩ := List.mem_map.mp he
    obtain ⟨g1, g2⟩ := h.2 row hrow
    refine rp_tup (k := 1) (b := 15) (n := 1000) (fun e he => ?_) (by rw [List.length_map]; exact g1)
    obtain ⟨d, hd, rfl⟩ := List.mem_map.mp he
    exact rp_deed hn h8 (g2 d hd) (hnd row hrow d hd)
  have h2 : Rp 1 6000 (dNats ((order W roots D).map (· + 1))) := by
    refine rp_tup (k := 0) (b := 0) (n := 6000) (fun e he => ?_) ?_
    · obtain ⟨n, hn, rfl⟩ := List.mem_map.mp he
      obtain ⟨i, hi, rfl⟩ := List.mem_map.mp hn
      have := greedy_lt _ _ i hi
      have := h.1
      exact rp_nat (by omega)
    · rw [List.length_map, List.length_map]
      exact Nat.le_trans (greedy_len _ _) (rest_le h)
  refine (rp_tup (k := 3) (b := 100000) (n := 2) (fun e he => ?_) (by show 2 ≤ 2; decide)).mono (Nat.le_refl _) (by decide)
  simp at he
  rcases he with rfl | rfl
  · exact h1
  · exact h2.mono (by decide) (by decide)
theorem Rp.fit {k b : Nat} {d : PyData} (h : Rp k b d) (hb : b ≤ 2 ^ 20) : d.shown.length ≤ sizeLine := PyData.shown_fits_bulk (by decide) (by decide) h.lf (Nat.le_trans h.bk hb)
/-! ### the last step down -/
def dnAt (R : List (Deed × Wk)) (i : Nat) : Bool := match R[i]? with
  | some p => p.1.isDown
  | none => false
def dnL (R : List (Deed × Wk)) (n : Nat) : List Nat := ((List.range n).filter (dnAt R)).map (· + 1)
theorem dnL_len (R : List (Deed × Wk)) (n : Nat) : (dnL R n).length ≤ n := by
  unfold dnL
  rw [List.length_map]
  have := List.length_filter_le (dnAt R) (List.range n)
  simpa using this
theorem dnL_succ (R : List (Deed × Wk)) (n : Nat) : dnL R (n + 1) = dnL R n ++ (if dnAt R n = true then [n + 1] else []) := by
  unfold dnL
  rw [List.range_succ, List.filter_append, List.map_append]
  by_cases h : dnAt R n = true <;> simp [h]
theorem last_of {R : List (Deed × Wk)} {m : Int} (hm : m ∈ ([0] ++ dnL R R.length).map (fun n : Nat => (n : Int))) (ha : ∀ y, y ∈ ([0] ++ dnL R R.length).map (fun n : Nat => (n : Int)) → y ≤ m) : ∃ l : Nat, m = (l : Int) ∧ IsLast R l := by
  obtain ⟨l, hl, rfl⟩ := List.mem_map.mp hm
  refine ⟨l, rfl, ?_, fun i p hp hd => ?_, ?_⟩
  · rcases List.mem_append.mp hl with h | h
    · simp at h
      omega
    · unfold dnL at h
      obtain ⟨i, hi, rfl⟩ := List.mem_map.mp h
      have := List.mem_range.mp (List.mem_filter.mp hi).1
      omega
  · have hi := (List.getElem?_eq_some_iff.mp hp).1
    have : i + 1 ∈ dnL R R.length := by
      unfold dnL
      refine List.mem_map.mpr ⟨i, List.mem_filter.mpr ⟨List.mem_range.mpr hi, ?_⟩, rfl⟩
      unfold dnAt
      rw [hp]
      exact hd
    have := ha ((i + 1 : Nat) : Int) (List.mem_map.mpr ⟨i + 1, List.mem_append_right _ this, rfl⟩)
    omega
  · rcases List.mem_append.mp hl with h | h
    · simp at h
      exact .inl h
    · unfold dnL at h
      obtain ⟨i, hi, rfl⟩ := List.mem_map.mp h
      have hf := (List.mem_filter.mp hi).2
      unfold dnAt at hf
      cases hp : R[i]? with
      | none => rw [hp] at hf; cases hf
      | some p =>
        rw [hp] at hf
        exact .inr ⟨p, hp, hf⟩
theorem end_take {s : Wk} {R : List (Deed × Wk)} {cut : Nat} (h : cut ≤ R.length) : ([s.S] ++ R.map fun p => p.2.S)[cut]? = some (endOf s (R.take cut)).S := by
  cases cut with
  | zero => rfl
  | succ n =>
    have hn : n < R.length := by omega
    show (R.map fun p => p.2.S)[n]? = _
    rw [List.getElem?_map, List.getElem?_eq_getElem hn, List.take_succ_eq_append_getElem hn, endOf_append]
    rfl
theorem FrM.upd {K : PySem.W.Frag} {H H' : Hp} {m rl a : Addr} {o p : HO} (h : FrM K H H' m rl) (ha : H a = none) (e : H' a = some o) (hn : noTup o = true) : FrM K H (L2.upd H' a p) m rl :=
  ⟨fun b ob hb n1 n2 => by
    rw [upd_ne (ne_of_none hb ha)]
    exact h.1 b ob hb n1 n2, h.2.trans (keep_upd e hn)⟩
theorem MD.upd {K : PySem.W.Frag} {H0 H : Hp} {m sa rl a : Addr} {k : Nat} {ns rs : List Int} {xs : List V} {p : HO} (h : MD K H0 H m sa rl k ns rs) (e : H a = some (.lst xs)) (hne : a ≠ rl) (h0 : H0 a = none) : MD K H0 (L2.upd H a p) m sa rl k ns rs := by
  obtain ⟨⟨kvs, h1, h2⟩, h3, h4, h5, h6, h7, h8, h9⟩ := h
  have n1 : m ≠ a := (ne_of e h1 (by intro z; cases z)).symm
  exact ⟨⟨kvs, by rw [upd_ne n1]; exact h1, h2⟩, h3, by rw [upd_ne hne.symm]; exact h4, h5, h6, Evl.Ex.mut h7 h0, h8, h9⟩
def dRowD (R : List (Deed × Wk)) : PyData := .tuple (R.map fun p => dDeed p.1)
theorem rowsD (Rs : List (List (Deed × Wk))) : Rs.map dRowD = (deedsOf Rs).map fun row => .tuple (row.map dDeed) := by
  unfold deedsOf dRowD
  rw [List.map_map]
  apply List.map_congr_left
  intro R _
  simp [Function.comp_def]
theorem sh_told : Sh 1 dTold := sh_tup fun d hd => by
  simp at hd
  subst hd
  exact sh_str (by decide +kernel)
theorem sh_named (t : Nat) : Sh 1 (dNamed (some t)) := sh_tup fun d hd => by
  simp at hd
  rcases hd with rfl | rfl
  · exact sh_str (by decide +kernel)
  · exact sh_nat t
theorem waits_one {W : Web} {roots : List Nat} {D : List (List Deed)} {y z : Option Nat} (h : Waits W roots D y) (h2 : Waits W roots D z) : y = z := by
  obtain ⟨dn, i, d, g, s, f, e, rfl⟩ := h
  obtain ⟨dn2, i2, d2, g2, s2, f2, e2, rfl⟩ := h2
  have en := stuck_one g s g2 s2
  subst en
  rw [f] at f2
  cases f2
  rw [e] at e2
  cases e2
  rfl
def spRight (K : PySem.W.Frag) : Sp := fun vs H Q _ => ∃ H0 m sa rl k ns rs w mv r W M roots free, vs = [.ref m, w, mv, r, .bl free] ∧ MD K H0 H m sa rl k ns rs ∧ k + 10 < 2 ^ 40 ∧ Tp K H w (dWeb W) ∧ Tp K H mv (dNats M) ∧ Tp K H r (dNats roots) ∧ RightIn W M roots free ∧
  ∀ k' rs' H', k' ≤ k + 6 → MD K H0 H' m sa rl k' ns rs' → FrM K H H' m rl → Q (.bl true) H'
section
variable {P : Program} {w : World} {K : PySem.W.Frag} {mg : Str → Option Value} {base : Heap}
abbrev nRight : List Str := ["_law_m", "_law_web", "_law_marks", "_law_roots", "_law_is_free", "_law_stands", "_law_deeds", "_law_root", "_law_rows", "_law_last", "_law_cut", "_law_state_here", "_law_node", "_law_due", "_law_at", "_law_deed", "_law_stand"]
theorem scRight : FnScope nRight ["_law_m", "_law_web", "_law_marks", "_law_roots", "_law_is_free"] (defScope sRight) := ⟨rfl, rfl, rfl, by decide +kernel, rfl, by decide +kernel, by decide +kernel⟩
theorem ok_right {f fg fdr fs fk fi fr ft fe fo fN : Addr} {fd fdg fdd fds fdk fdi fdr' fdt fde fdo fdN : FuncData} (F : Fun K "_law_right" "_law_right" sRight f fd) (T : Bt mg)
    (Gg : FnOk P w K mg base CX0 1 fg fdg ["_law_web", "_law_marks", "_law_root"] (spGone K)) (Dg : Dn K mg "_law_gone" fg fdg ["_law_web", "_law_marks", "_law_root"])
    (Gd : FnOk P w K mg base CX0 1 fdr fdd ["_law_m", "_law_many"] (spDraw K)) (Dd : Dn K mg "_law_draw" fdr fdd ["_law_m", "_law_many"])
    (Gs : FnOk P w K mg base CX0 1 fs fds ["_law_web", "_law_roots", "_law_kept"] (spState K)) (Ds : Dn K mg "_law_state" fs fds ["_law_web", "_law_roots", "_law_kept"])
    (Gk : FnOk P w K mg base CX0 2 fk fdk ["_law_web", "_law_roots", "_law_deeds"] (spStuck K)) (Dk : Dn K mg "_law_stuck" fk fdk ["_law_web", "_law_roots", "_law_deeds"])
    (Gi : FnOk P w K mg base CX0 9 fi fdi ["thing"] (spIsMoment K)) (Di : Dn K mg "is_moment" fi fdi ["thing"])
    (Gr : FnOk P w K mg base CX0 9 fr fdr' ["_law_deed", "_law_thing"] (spRefused K fN)) (Dr : Dn K mg "_law_refused" fr fdr' ["_law_deed", "_law_thing"]) (DN : Dn K mg "need_moment" fN fdN ["thing"])
    (Gt : FnOk P w K mg base CX0 2 ft fdt ["_law_web", "_law_roots", "_law_deeds"] (spLTurns K)) (Dt : Dn K mg "_law_turns" ft fdt ["_law_web", "_law_roots", "_law_deeds"])
    (Ge : FnOk P w K mg base CX0 8 fe fde ["state"] (spDeedsOf K)) (De : Dn K mg "deeds_of" fe fde ["state"])
    (Go : FnOk P w K mg base CX0 8 fo fdo ["state"] (spOrderTo K)) (Do : Dn K mg "order_to" fo fdo ["state"]) :
    Tg.FnOkG P w K mg base CX0 10 f fd ["_law_m", "_law_web", "_law_marks", "_law_roots", "_law_is_free"] (spRight K) := by
  refine Tg.okG F scRight (fun vs H Q E h => ?_) (fun cdv A outer s H vs Q E hg hr h => ?_)
  · obtain ⟨H0, m, sa, rl, k, ns, rs, w, mv, r, W, M, roots, free, rfl, _⟩ := h
    rfl
  · obtain ⟨H0, m, sa, rl, k, ns, rs, wv, mv, rv, W, M, roots, free, rfl, hMD, hk, hW, hM, hR, hin, kq⟩ := h
    refine ⟨_, (pss_cons (ps_par (i := 5) (j := 6) (by rfl) scRight.nd rfl rfl (by decide) rfl rfl (pa_cons (pe_lst pa_nil) (pa_cons (pe_lst pa_nil) pa_nil)) (by rfl))
      (pss_cons (ps_for PassesOwn.never rfl (pi_tup (pv 3)) (pg_name (i := 7) scRight.nd rfl (Or.inl rfl)) (pss_cons (ps_set (i := 8) scRight.nd rfl (Or.inl rfl) (pe_call Gg (hr.mono (by decide : 1 ≤ 9)) (by rfl) Dg.mgf Dg.kp Dg.b .nil pass0 (pa_cons (pv 1) (pa_cons (pv 2) (pa_cons (pv 7) pa_nil)))))
      (pss_cons (ps_set (i := 9) scRight.nd rfl (Or.inl rfl) (pe_callB (cr_max rfl) (by rfl) T.max (by decide +kernel) (pa_cons (pe_op op_cat (pe_lst (pa_cons pe_int pa_nil)) (pe_lc (own := [("_law_at", 14), ("_law_deed", 15), ("_law_stand", 16)]) (g := (gTup K 2 (gCons (gName 14) (gCons (gTup K 2 (gCons (gName 15) (gCons (gName 16) gNil))) gNil)))) rfl scRight.nd (pi_enum (by rfl) T.enumerate (pa_cons (pv 8) pa_nil)) (blkOk_by (N := nRight) (sc := defScope sRight) (by decide +kernel)) (fun _ _ _ _ _ => (pg_tup rfl (pgs_cons (pg_name (i := 14) scRight.nd rfl (Or.inl rfl)) (pgs_cons (pg_tup rfl (pgs_cons (pg_name (i := 15) scRight.nd rfl (Or.inl rfl)) (pgs_cons (pg_name (i := 16) scRight.nd rfl (Or.inl rfl)) pgs_nil))) pgs_nil)))) (fun _ _ _ _ _ => (pts_one (pt_cmpR op_eq (pe_ix (ix_D K) (pv 15) pe_int (fun _ _ => rfl)) pe_str (nomark _)))) (fun _ _ _ _ _ => (pe_op op_add (pv 14) pe_int)))) pa_nil)))
      (pss_cons (ps_set (i := 10) scRight.nd rfl (Or.inl rfl) (pe_ifExp (pt_val (pv 4)) (pe_op op_add (pv 9) (pe_call Gd (hr.mono (by decide : 1 ≤ 9)) (by rfl) Dd.mgf Dd.kp Dd.b .nil pass0 (pa_cons (pv 0) (pa_cons (pe_op op_sub (pe_op op_add (pe_callB call_len_seq (by rfl) T.len PySem.boot_len (pa_cons (pv 8) pa_nil)) pe_int) (pv 9)) pa_nil)))) (pv 9)))
      (pss_cons (ps_expr (pe_bm PySem.F.plainAttrs_list PySem.F.slot_list_append PySem.F.type_list_append mt_append (pv 5) (pa_cons (pe_ix ix_list (pe_op op_cat (pe_lst (pa_cons (pe_tup (pa_cons (pe_tup (pa_cons (pv 7) (pa_cons pe_int pa_nil))) pa_nil)) pa_nil)) (pe_lc (own := [("_law_deed", 15), ("_law_stand", 16)]) (g := (gTup K 2 (gCons (gName 15) (gCons (gName 16) gNil)))) (tt := tYes) rfl scRight.nd (pi_list (pv 8)) (blkOk_by (N := nRight) (sc := defScope sRight) (by decide +kernel)) (fun _ _ _ _ _ => (pg_tup rfl (pgs_cons (pg_name (i := 15) scRight.nd rfl (Or.inl rfl)) (pgs_cons (pg_name (i := 16) scRight.nd rfl (Or.inl rfl)) pgs_nil)))) (fun _ _ _ _ _ => pts_nil) (fun _ _ _ _ _ => (pv 16)))) (pv 10) (fun _ _ => rfl)) pa_nil)))
      (pss_one (ps_expr (pe_bm PySem.F.plainAttrs_list PySem.F.slot_list_append PySem.F.type_list_append mt_append (pv 6) (pa_cons (pe_callTy (call_tupD K) (by rfl) T.tuple (by decide +kernel) (pa_cons (pe_lc (own := [("_law_deed", 15), ("_law_stand", 16)]) (g := (gTup K 2 (gCons (gName 15) (gCons (gName 16) gNil)))) (tt := tYes) rfl scRight.nd (pi_list (pe_slice sl_list (pv 8) po_none (po_some (pv 10)))) (blkOk_by (N := nRight) (sc := defScope sRight) (by decide +kernel)) (fun _ _ _ _ _ => (pg_tup rfl (pgs_cons (pg_name (i := 15) scRight.nd rfl (Or.inl rfl)) (pgs_cons (pg_name (i := 16) scRight.nd rfl (Or.inl rfl)) pgs_nil)))) (fun _ _ _ _ _ => pts_nil) (fun _ _ _ _ _ => (pv 15))) pa_nil)) pa_nil)))))))))
      (pss_cons (ps_set (i := 11) scRight.nd rfl (Or.inl rfl) (pe_call Gs (hr.mono (by decide : 1 ≤ 9)) (by rfl) Ds.mgf Ds.kp Ds.b .nil pass0 (pa_cons (pv 1) (pa_cons (pv 3) (pa_cons (pe_tup (pa_cons (pv 2) (pa_cons (pe_callTy (call_tupD K) (by rfl) T.tuple (by decide +kernel) (pa_cons (pv 5) pa_nil)) pa_nil))) pa_nil)))))
      (pss_cons (ps_set (i := 12) scRight.nd rfl (Or.inl rfl) (pe_call Gk (hr.mono (by decide : 2 ≤ 9)) (by rfl) Dk.mgf Dk.kp Dk.b .nil pass0 (pa_cons (pv 1) (pa_cons (pv 3) (pa_cons (pv 6) pa_nil)))))
      (pss_cons (ps_if (pt_cmpR op_ne (pe_callB call_reprB (by rfl) T.repr (by decide +kernel) (pa_cons (pe_call Gi hr (by rfl) Di.mgf Di.kp Di.b .nil pass0 (pa_cons (pv 11) pa_nil)) pa_nil)) (pe_callB call_reprB (by rfl) T.repr (by decide +kernel) (pa_cons (pe_cmpR op_isN (pv 12) pe_non (nomark _)) pa_nil)) (nomark _)) (pss_one (ps_ret pe_bl)) pss_nil)
      (pss_cons (ps_if (pt_cmpR (op_neT K hr.units) (pe_call Gr hr (by rfl) Dr.mgf Dr.kp Dr.b .nil pass0 (pa_cons (pe_glob (v := .ref fN) rfl DN.mgf rfl) (pa_cons (pv 11) pa_nil))) (pe_ifExp (pt_cmpR op_isN (pv 12) pe_non (nomark _)) (pe_tup (pa_cons pe_str pa_nil)) (pe_tup (pa_cons pe_str (pa_cons (pv 12) pa_nil)))) (nomark _)) (pss_one (ps_ret pe_bl)) pss_nil)
      (pss_cons (ps_if (pt_cmpR op_notN (pv 12) pe_non (nomark _)) (pss_one (ps_ret pe_bl)) pss_nil)
      (pss_cons (ps_set (i := 13) scRight.nd rfl (Or.inl rfl) (pe_tup (pa_cons (pe_callTy (call_tupD K) (by rfl) T.tuple (by decide +kernel) (pa_cons (pv 6) pa_nil)) (pa_cons (pe_call Gt (hr.mono (by decide : 2 ≤ 9)) (by rfl) Dt.mgf Dt.kp Dt.b .nil pass0 (pa_cons (pv 1) (pa_cons (pv 3) (pa_cons (pv 6) pa_nil)))) pa_nil))))
      (pss_one (ps_ret (pe_cmpR op_eq (pe_callB (call_reprT K hg hr.units) (by rfl) T.repr (by decide +kernel) (pa_cons (pe_tup (pa_cons (pe_call Ge (hr.mono (by decide : 8 ≤ 9)) (by rfl) De.mgf De.kp De.b .nil pass0 (pa_cons (pv 11) pa_nil)) (pa_cons (pe_call Go (hr.mono (by decide : 8 ≤ 9)) (by rfl) Do.mgf Do.kp Do.b .nil pass0 (pa_cons (pv 11) pa_nil)) pa_nil))) pa_nil)) (pe_callB (call_reprT K hg hr.units) (by rfl) T.repr (by decide +kernel) (pa_cons (pv 13) pa_nil)) (nomark _)))))))))))), ?_⟩
    have g := hin.good
    have hr6 := g.rn6
    have h60 := g.n60
    refine ⟨Nat.zero_le _, fun st hst => ⟨Nat.zero_le _, fun de hde => ⟨_, _, rfl, ?_⟩⟩⟩
    -- the loop
    have hne : st ≠ de := ne_of_none upd_same hde
    have sB : Same H (upd (upd H st (.lst [])) de (.lst [])) := (same_new hst).trans (same_new hde)
    have hst1 : (upd (upd H st (.lst [])) de (.lst [])) st = some (.lst []) := same_new hde _ _ upd_same
    have hde1 : (upd (upd H st (.lst [])) de (.lst [])) de = some (.lst []) := upd_same
    have frD : H de = none := (same_new (o := .lst []) hst).free hde
    have nstr : st ≠ rl := (ne_of_none hMD.r hst).symm
    have nder : de ≠ rl := (ne_of_none hMD.r frD).symm
    have fs0 : H0 st = none := hMD.same.free hst
    have fd0 : H0 de = none := hMD.same.free frD
    have hMD1 := hMD.keep sB
    have fr1 : FrM K H (upd (upd H st (.lst [])) de (.lst [])) m rl := .of sB
    generalize upd (upd H st (.lst [])) de (.lst []) = H1 at *
    obtain ⟨ar, xr, rfl, hSr, hAr⟩ := (hR.mono (keep_same sB)).inv
    have exr := tpAll_natsV hAr
    subst exr
    refine ⟨_, rfl, ar, rfl, ⟨_, hSr⟩, ?_⟩
    refine for_it (walk_tup (K := K) (a := ar) (xs := roots.map vNat)) (fun i σ H' => ∃ y7 y8 y9 y10 k' rs' Rs Ss ys zs, σ = [some (.ref m), some wv, some mv, some (.ref ar), some (.bl free), some (.ref st), some (.ref de), y7, y8, y9, y10, none, none, none, none, none, none] ∧ k' ≤ k + i ∧ MD K H0 H' m sa rl k' ns rs' ∧ FrM K H H' m rl ∧ Keep K H1 H' ∧
        H' st = some (.lst ys) ∧ TpAll K H' ys (Ss.map dStand) ∧ H' de = some (.lst zs) ∧ TpAll K H' zs (Rs.map dRowD) ∧ Rs.length = i ∧ Ss.length = i ∧ ∀ (j : Nat) r R S, roots[j]? = some r → Rs[j]? = some R → Ss[j]? = some S → CutOk W M free r R S)
      ⟨_, _, _, _, k, rs, [], [], [], [], rfl, Nat.le_refl _, hMD1, fr1, .refl _, hst1, .nil, hde1, .nil, rfl, rfl, fun j r R S _ h _ => by simp at h⟩ (fun i σ H' _ q => by obtain ⟨_, _, _, _, _, _, _, _, _, _, _, _, _, _, f4, _⟩ := q; exact f4 _ _ hSr) ?_ ?_
    · rintro i x σ H4 H4' hi ⟨y7, y8, y9, y10, k', rs', Rs, Ss, ys, zs, rfl, hk', hM4, fr4, f14, hst4, hys4, hde4, hzs4, hRl, hSl, hcut⟩ ⟨rfl, hx⟩
      obtain ⟨root, hroot, rfl⟩ := map_get hx
      rw [List.length_map] at hi
      obtain ⟨hrt, hrm⟩ := g.root i root hroot
      -- rows
      refine ⟨_, rfl, _, rfl, _, rfl, wv, mv, W, M, root, rfl, hW.mono fr4.2, hM.mono fr4.2, g.ties, g.mlen, g.n60, g.row8, hrt, fun H5 q ws s5 hq0 hq hws => ?_⟩
      have hRl2 : (goAll W M root).length ≤ 609 := by
        have : (goAll W M root).length ≤ fuel W := runN_len _ _
        unfold fuel at this
        omega
      generalize hGA : goAll W M root = R at *
      have hwl : ws.length = R.length := by rw [hws.1, List.length_map]
      have hM5 := hM4.keep s5
      have fr5 := fr4.trans (.of s5)
      have f15 := f14.trans (keep_same s5)
      have hst5 := s5 _ _ hst4
      have hde5 := s5 _ _ hde4
      have hys5 := hys4.mono (keep_same s5)
      have hzs5 := hzs4.mono (keep_same s5)
      -- last
      dsimp only [gName]
      refine set_any (fun v H' => ∃ l : Nat, v = vNat l ∧ IsLast R l ∧ Same H5 H') (fun Q' hQ' => ?_) (fun v H6 q6 => ?_)
      · refine ⟨(by show 1 ≤ sizeLine; decide), fun c1 hc1 => ?_⟩
        have s6 : Same H5 (upd H5 c1 (.lst [V.int 0])) := same_new hc1
        have hc16 : (upd H5 c1 (.lst [V.int 0])) c1 = some (.lst [V.int 0]) := upd_same
        generalize upd H5 c1 (.lst [V.int 0]) = H6 at *
        have hq6 := s6 _ _ hq
        refine ⟨_, rfl, q, _, rfl, SqL.of hq6, fun D2 hD2 => ?_⟩
        refine lc_it (walk_enum (K := K) (a := q) (xs := ws)) (fun n H' => Same H6 H' ∧ H' D2 = some (.lst ((dnL R n).map vNat))) ⟨same_new hD2, upd_same⟩ (fun n H' _ z => SqL.of (z.1 _ _ hq6)) ?_ ?_
        · rintro n x H7 H8 hn ⟨s7, hD7⟩ ⟨T1, xv, yv, rfl, hT1, rfl, hxv, hyv⟩
          cases hxv
          have s8 := s7.trans (same_new (o := .tup [.int (n : Nat), yv]) hT1)
          have hD8 := same_new (o := .tup [.int (n : Nat), yv]) hT1 _ _ hD7
          obtain ⟨d, hd, hyd⟩ := hws.turn hyv
          obtain ⟨⟨dd, ss⟩, hds, rfl⟩ := map_get hd
          have hyd8 := hyd.mono (keep_same (s6.trans s8))
          obtain ⟨aq, xq, rfl, hSq, hAq⟩ := hyd8.inv
          obtain ⟨v1, xq, rfl, g1, hAq⟩ := hAq.inv
          obtain ⟨v2, xq, rfl, g2', hAq⟩ := hAq.inv
          have en := hAq.inv0
          subst en
          refine ⟨T1, _, rfl, SqT.of upd_same, rfl, _, _, rfl, _, _, rfl, aq, _, rfl, hSq, rfl, _, _, rfl, _, _, rfl, rfl, rfl, rfl, ?_⟩
          generalize upd H7 T1 (.tup [.int (n : Nat), .ref aq]) = H8 at *
          obtain ⟨ds0, hds0, hd0⟩ := deed0 g1
          refine ⟨_, rfl, _, 0, _, hds0, rfl, hd0, fun v0 h0 => ?_⟩
          have e0 := h0.str_inv
          subst e0
          refine ⟨rfl, _, rfl, ?_⟩
          have hdn : dnAt R n = dd.isDown := by
            unfold dnAt
            rw [hds]
          have hkd : decide (V.str (kindD dd) = V.str "down") = dd.isDown := by
            cases dd with
            | down x c => simp [kindD, Deed.isDown]
            | skip x c => show decide (V.str "skip" = V.str "down") = false; decide +kernel
            | up x => show decide (V.str "up" = V.str "down") = false; decide +kernel
            | stop x => show decide (V.str "stop" = V.str "down") = false; decide +kernel
          rw [hkd, ← hdn]
          have hll := dnL_len R n
          cases hb : dnAt R n with
          | true =>
            refine iteT ⟨_, rfl, _, _, rfl, rfl, _, hD8, by rw [List.length_map]; exact small1000 (by omega), Evl.Ex.mut s8 hD2, ?_⟩
            rw [upd_same, dnL_succ, if_pos hb, List.map_append]
            rfl
          | false =>
            refine iteF ⟨s8, ?_⟩
            rw [dnL_succ, if_neg (by rw [hb]; decide), List.append_nil]
            exact hD8
        · rintro H7 ⟨s7, hD7⟩
          rw [hwl] at hD7
          have hll := dnL_len R R.length
          refine ⟨c1, D2, _, _, rfl, rfl, s7 _ _ hc16, hD7, Nat.le_trans (show [V.int 0].length + ((dnL R R.length).map vNat).length ≤ 1000 by simp; omega) (by decide), fun p hp => ?_⟩
          have ei : [V.int 0] ++ (dnL R R.length).map vNat = (([0] ++ dnL R R.length).map (fun n : Nat => (n : Int))).map V.int := by simp [vNat, Function.comp_def]
          rw [ei]
          refine ⟨p, _, rfl, SqL.of upd_same, by simp, fun mx h1 h2 => ?_⟩
          obtain ⟨l, rfl, hl⟩ := last_of h1 h2
          exact hQ' _ _ ⟨l, rfl, hl, (s6.trans s7).trans (same_new hp)⟩
      obtain ⟨l, rfl, hl, s56⟩ := q6
      have hM6 := hM5.keep s56
      have fr6 := fr5.trans (.of s56)
      have f16 := f15.trans (keep_same s56)
      have hq6 := s56 _ _ hq
      -- cut
      dsimp only [gName]
      refine set_any (fun v H' => ∃ cut k2 rs2, v = vNat cut ∧ l ≤ cut ∧ cut ≤ R.length ∧ (free = false → cut = l) ∧ k2 ≤ k' + 1 ∧ MD K H0 H' m sa rl k2 ns rs2 ∧ FrM K H6 H' m rl) (fun Q' hQ' => ?_) (fun v H7 q7 => ?_)
      · refine ⟨_, rfl, _, rfl, ?_⟩
        have hle := hl.le
        cases hfr : free with
        | true =>
          refine iteT ⟨_, rfl, _, rfl, _, rfl, q, _, rfl, .inl (SqL.of hq6), _, _, rfl, rfl, _, rfl, _, _, rfl, rfl, ?_⟩
          have em : ∀ v : V, v = vNat (R.length + 1 - l) → [V.ref m, v] = [V.ref m, vNat (R.length + 1 - l)] := fun v e => by rw [e]
          refine ⟨H0, m, sa, rl, k', ns, rs', R.length + 1 - l, em _ ?_, hM6, by omega, by omega, by omega, fun r rs2 H7 hr7 hM7 fr7 => ?_⟩
          · rw [hwl]
            show V.int _ = V.int _
            congr 1
            omega
          · exact ⟨_, _, rfl, rfl, hQ' (vNat (l + r)) _ ⟨l + r, k' + 1, rs2, rfl, by omega, by omega, fun z => Bool.noConfusion (hfr.symm.trans z), Nat.le_refl _, hM7, fr7⟩⟩
        | false =>
          refine iteF ⟨_, rfl, hQ' _ _ ⟨l, k', rs', rfl, Nat.le_refl _, hle, fun _ => rfl, by omega, hM6, .refl _ _ _ _⟩⟩
      obtain ⟨cut, k2, rs2, rfl, hlc, hcl, hcf, hk2, hM7, fr67⟩ := q7
      have fr7 := fr6.trans fr67
      have f17 := f16.trans fr67.2
      have hst6 := s56 _ _ hst5
      have hde6 := s56 _ _ hde5
      have nsm : st ≠ m := by
        obtain ⟨kvs, hd, _⟩ := hM6.d
        exact ne_of hst6 hd (by intro z; cases z)
      have ndm : de ≠ m := by
        obtain ⟨kvs, hd, _⟩ := hM6.d
        exact ne_of hde6 hd (by intro z; cases z)
      have nqm : q ≠ m := by
        obtain ⟨kvs, hd, _⟩ := hM6.d
        exact ne_of hq6 hd (by intro z; cases z)
      have nqr : q ≠ rl := (ne_of_none hM4.r hq0).symm
      have hst7 := fr67.1 _ _ hst6 nsm nstr
      have hde7 := fr67.1 _ _ hde6 ndm nder
      have hq7 := fr67.1 _ _ hq6 nqm nqr
      have k57 : Keep K H5 H7 := (keep_same s56).trans fr67.2
      have hys7 := hys5.mono k57
      have hzs7 := hzs5.mono k57
      have hws7 := hws.mono k57
      have nqs : q ≠ st := (ne_of_none hst4 hq0).symm
      have nqd : q ≠ de := (ne_of_none hde4 hq0).symm
      have hyl : ys.length ≤ 6 := by
        rw [hys4.1, List.length_map]
        omega
      have hzl : zs.length ≤ 6 := by
        rw [hzs4.1, List.length_map]
        omega
      -- stands.append
      refine ⟨_, rfl, .inl ⟨rfl, _, SqL.of hst7⟩, _, rfl, (by show 2 ≤ sizeLine; decide), fun t0 ht0 => ⟨(by show 1 ≤ sizeLine; decide), fun t1 ht1 => ⟨(by show 1 ≤ sizeLine; decide), fun c1 hc1 => ?_⟩⟩⟩
      have hd0 : Tp K (upd (upd H7 t0 (.tup [vNat root, .int 0])) t1 (.tup [.ref t0])) (.ref t1) (dStand (start root).S) := tp_one (tp_two (tp_nat root) (tp_nat 0) ht0) ht1
      have hd1 := hd0.mono (keep_new (o := .lst [V.ref t1]) hc1)
      have s8 : Same H7 (upd (upd (upd H7 t0 (.tup [vNat root, .int 0])) t1 (.tup [.ref t0])) c1 (.lst [V.ref t1])) := ((same_new ht0).trans (same_new ht1)).trans (same_new hc1)
      have hc18 : (upd (upd (upd H7 t0 (.tup [vNat root, .int 0])) t1 (.tup [.ref t0])) c1 (.lst [V.ref t1])) c1 = some (.lst [V.ref t1]) := upd_same
      generalize upd (upd (upd H7 t0 (.tup [vNat root, .int 0])) t1 (.tup [.ref t0])) c1 (.lst [V.ref t1]) = H8 at *
      have hq8 := s8 _ _ hq7
      have hws8 := hws7.mono (keep_same s8)
      refine ⟨_, rfl, q, rfl, ⟨_, SqL.of hq8⟩, fun D2 hD2 => ?_⟩
      refine lc_it (walk_list (K := K) (a := q) (xs := ws)) (fun n H' => Same H8 H' ∧ ∃ acc, H' D2 = some (.lst acc) ∧ acc.length = n ∧ TpAll K H' acc ((R.take n).map fun p => dStand p.2.S)) ⟨same_new hD2, [], upd_same, rfl, .nil⟩ (fun n H' _ z => SqL.of (z.1 _ _ hq8)) ?_ ?_
      · rintro n x Ha Hb hn ⟨sa8, acc, hacc, hal, htp⟩ ⟨rfl, hx⟩
        obtain ⟨d, hd, hyd⟩ := hws8.turn hx
        obtain ⟨⟨dd, ss⟩, hds, rfl⟩ := map_get hd
        obtain ⟨aq, xq, rfl, hSq, hAq⟩ := (hyd.mono (keep_same sa8)).inv
        obtain ⟨v1, xq, rfl, g1, hAq⟩ := hAq.inv
        obtain ⟨v2, xq, rfl, g2', hAq⟩ := hAq.inv
        have en := hAq.inv0
        subst en
        refine g2_ok hSq ⟨rfl, _, rfl, acc, hacc, by rw [hal]; exact small1000 (by omega), Evl.Ex.mut sa8 hD2, acc ++ [v2], upd_same, by simp [hal], ?_⟩
        rw [List.take_add_one, hds, List.map_append]
        exact (htp.append (.one g2')).mono (keep_upd hacc rfl)
      rintro H9 ⟨s9, acc, hacc, hal, htp⟩
      rw [hwl, List.take_of_length_le (Nat.le_refl _)] at htp
      rw [hwl] at hal
      refine ⟨c1, D2, _, _, rfl, rfl, s9 _ _ hc18, hacc, Nat.le_trans (show [V.ref t1].length + acc.length ≤ 1000 by simp; omega) (by decide), fun p hp => ?_⟩
      have hall : TpAll K H9 ([V.ref t1] ++ acc) ((([(start root).S] ++ R.map fun p => p.2.S)).map dStand) := by
        rw [List.map_append, List.map_map]
        exact (TpAll.one (hd1.mono (keep_same s9))).append htp
      obtain ⟨vS, hvS, hvT⟩ := hall.get (get_map (end_take (s := start root) hcl))
      have s79 := (s8.trans s9).trans (same_new (o := .lst ([V.ref t1] ++ acc)) hp)
      have hvT' := hvT.mono (keep_new (o := .lst ([V.ref t1] ++ acc)) hp)
      have hp9 : (upd H9 p (.lst ([V.ref t1] ++ acc))) p = some (.lst ([V.ref t1] ++ acc)) := upd_same
      generalize upd H9 p (.lst ([V.ref t1] ++ acc)) = H10 at *
      have hst10 := s79 _ _ hst7
      refine ⟨_, rfl, p, _, _, vS, rfl, rfl, SqL.of hp9, atI_nat hvS, st, _, vS, rfl, rfl, hst10, by exact small1000 (by omega), ?_⟩
      have k7a : Keep K H7 (upd H10 st (.lst (ys ++ [vS]))) := (keep_same s79).trans (keep_upd hst10 rfl)
      have hMa : MD K H0 (upd H10 st (.lst (ys ++ [vS]))) m sa rl k2 ns rs2 := (hM7.keep s79).upd hst10 nstr fs0
      have fra : FrM K H (upd H10 st (.lst (ys ++ [vS]))) m rl := (fr7.trans (.of s79)).upd hst hst10 rfl
      have hsta : (upd H10 st (.lst (ys ++ [vS]))) st = some (.lst (ys ++ [vS])) := upd_same
      have hdea : (upd H10 st (.lst (ys ++ [vS]))) de = some (.lst zs) := by rw [upd_ne hne.symm]; exact s79 _ _ hde7
      have hqa : (upd H10 st (.lst (ys ++ [vS]))) q = some (.lst ws) := by rw [upd_ne nqs]; exact s79 _ _ hq7
      have hysa : TpAll K (upd H10 st (.lst (ys ++ [vS]))) (ys ++ [vS]) ((Ss ++ [(endOf (start root) (R.take cut)).S]).map dStand) := by
        rw [List.map_append]
        exact ((hys7.mono (keep_same s79)).append (.one hvT')).mono (keep_upd hst10 rfl)
      have hzsa := hzs7.mono k7a
      have hwsa := hws7.mono k7a
      have f1a : Keep K H1 (upd H10 st (.lst (ys ++ [vS]))) := f17.trans k7a
      generalize upd H10 st (.lst (ys ++ [vS])) = Ha at *
      -- deeds.append
      refine ⟨_, rfl, .inl ⟨rfl, _, SqL.of hdea⟩, _, rfl, _, rfl, cut, rfl, q, _, rfl, SqL.of hqa, fun p2 hp2 => ?_⟩
      rw [cutV_take]
      have sb : Same Ha (upd Ha p2 (.lst (ws.take cut))) := same_new hp2
      have hp2b : (upd Ha p2 (.lst (ws.take cut))) p2 = some (.lst (ws.take cut)) := upd_same
      have hwsb : TpAll K (upd Ha p2 (.lst (ws.take cut))) (ws.take cut) ((R.take cut).map dStep) := by
        rw [List.map_take]
        exact (hwsa.take cut).mono (keep_new hp2)
      generalize upd Ha p2 (.lst (ws.take cut)) = Hb at *
      generalize hRc : R.take cut = Rc at *
      generalize ws.take cut = wc at *
      have hRcl : Rc.length ≤ 609 := by
        rw [← hRc, List.length_take]
        omega
      have hwcl : wc.length = Rc.length := by rw [hwsb.1, List.length_map]
      refine ⟨p2, rfl, ⟨_, SqL.of hp2b⟩, fun D3 hD3 => ?_⟩
      refine lc_it (walk_list (K := K) (a := p2) (xs := wc)) (fun n H' => Same Hb H' ∧ ∃ acc, H' D3 = some (.lst acc) ∧ acc.length = n ∧ TpAll K H' acc ((Rc.take n).map fun p => dDeed p.1)) ⟨same_new hD3, [], upd_same, rfl, .nil⟩ (fun n H' _ z => SqL.of (z.1 _ _ hp2b)) ?_ ?_
      · rintro n x Hc Hd hn ⟨sac, acc, hacc, hal, htp⟩ ⟨rfl, hx⟩
        obtain ⟨d, hd, hyd⟩ := hwsb.turn hx
        obtain ⟨⟨dd, ss⟩, hds, rfl⟩ := map_get hd
        obtain ⟨aq, xq, rfl, hSq, hAq⟩ := (hyd.mono (keep_same sac)).inv
        obtain ⟨v1, xq, rfl, g1, hAq⟩ := hAq.inv
        obtain ⟨v2, xq, rfl, g2', hAq⟩ := hAq.inv
        have en := hAq.inv0
        subst en
        refine g2_ok hSq ⟨rfl, _, rfl, acc, hacc, by rw [hal]; exact small1000 (by omega), Evl.Ex.mut sac hD3, acc ++ [v1], upd_same, by simp [hal], ?_⟩
        rw [List.take_add_one, hds, List.map_append]
        exact (htp.append (.one g1)).mono (keep_upd hacc rfl)
      rintro Hc ⟨sc, acc2, hacc2, hal2, htp2⟩
      rw [hwcl, List.take_of_length_le (Nat.le_refl _)] at htp2
      refine ⟨D3, _, _, rfl, SqL.of hacc2, htp2, fun v' Hd sd hv' => ?_⟩
      have sad := (sb.trans sc).trans sd
      have hded := sad _ _ hdea
      refine ⟨de, _, v', rfl, rfl, hded, by exact small1000 (by omega), ?_⟩
      have kad : Keep K Ha (upd Hd de (.lst (zs ++ [v']))) := (keep_same sad).trans (keep_upd hded rfl)
      refine ⟨_, _, _, _, k2, rs2, Rs ++ [Rc], Ss ++ [(endOf (start root) Rc).S], ys ++ [vS], zs ++ [v'], rfl, by omega, (hMa.keep sad).upd hded nder fd0, (fra.trans (.of sad)).upd frD hded rfl, f1a.trans kad, ?_, hysa.mono kad, upd_same, ?_, by simp [hRl], by simp [hSl], fun j r R' S' h1 h2 h3 => ?_⟩
      · rw [upd_ne hne]
        exact sad _ _ hsta
      · rw [List.map_append]
        exact (hzsa.mono kad).append (.one (hv'.mono (keep_upd hded rfl)))
      · rcases Nat.lt_or_ge j i with hj | hj
        · rw [List.getElem?_append_left (by omega)] at h2 h3
          exact hcut j r R' S' h1 h2 h3
        · have hj2 := (List.getElem?_eq_some_iff.mp h2).1
          rw [List.length_append, List.length_singleton] at hj2
          have ej : j = i := by omega
          subst ej
          rw [List.getElem?_append_right (by omega)] at h2 h3
          rw [hRl, Nat.sub_self] at h2
          rw [hSl, Nat.sub_self] at h3
          cases h2
          cases h3
          rw [hroot] at h1
          cases h1
          refine ⟨⟨l, cut, by rw [hGA]; exact hl, hlc, by rw [hGA]; exact hcl, hcf, by rw [hGA, hRc]⟩, rfl⟩
    · rintro σ H2 ⟨y7, y8, y9, y10, k', rs', Rs, Ss, ys, zs, rfl, hk', hM2, fr2, f12, hst2, hys2, hde2, hzs2, hRl, hSl, hcut⟩
      rw [List.length_map] at hk' hRl hSl
      have B : Built W M roots free Rs Ss := ⟨hin, hRl, hSl, fun i r R S => hcut i r R S⟩
      -- the state
      refine ⟨_, rfl, _, rfl, _, rfl, _, rfl, st, ys, _, rfl, SqL.of hst2, hys2, fun v' H3 s3 hv' => ⟨(by show 2 ≤ sizeLine; decide), fun t ht => ?_⟩⟩
      have kv3 : Tp K (upd H3 t (.tup [mv, v'])) (.ref t) (.tuple [dNats M, .tuple (Ss.map dStand)]) := tp_two ((hM.mono fr2.2).mono (keep_same s3)) hv' ht
      have s23 : Same H2 (upd H3 t (.tup [mv, v'])) := s3.trans (same_new ht)
      generalize upd H3 t (.tup [mv, v']) = H3' at *
      have hR2 : Tp K H2 (.ref ar) (dNats roots) := hR.mono fr2.2
      have fr3 := fr2.trans (.of s23)
      refine ⟨wv, .ref ar, .ref t, W, roots, M, Ss, rfl, hW.mono fr3.2, hR.mono fr3.2, kv3, by rw [hSl], by omega, h60, B.stand_ok, fun sv H4 s4 hsv => ?_⟩
      have s24 := s23.trans s4
      have fr4 := fr2.trans (.of s24)
      have hM4 := hM2.keep s24
      have hSt : StIn K H4 sv W roots Rs := B.stIn hsv
      have hde4 := s24 _ _ hde2
      have hzs4 : TpAll K H4 zs ((deedsOf Rs).map fun row => .tuple (row.map dDeed)) := by
        rw [← rowsD]
        exact hzs2.mono (keep_same s24)
      have rp := rp_due (roots := roots) h60 g.row8 B.dok B.node
      have hdok := B.dok
      -- who is stuck
      refine ⟨_, rfl, _, rfl, _, rfl, wv, .ref ar, de, W, roots, deedsOf Rs, zs, rfl, hW.mono fr4.2, hR.mono fr4.2, hde4, hzs4, hdok, hr6, fun dn hgo hsk H5 s5 => ?_⟩
      have hSt5 := hSt.same s5
      have hM5 := hM4.keep s5
      have fr5 := fr4.trans (.of s5)
      have hde5 := s5 _ _ hde4
      have hzs5 := hzs4.mono (keep_same s5)
      cases hfl : firstLeft (deedsOf Rs) dn with
      | none =>
        have hE : Ends_ W roots (deedsOf Rs) := ⟨dn, hgo, hsk, hfl⟩
        have hst' : stuckTie W (deedsOf Rs) dn = none := by
          unfold stuckTie
          rw [hfl]
        rw [hst']
        dsimp only [gName]
        refine if_via false (fun H' => Same H5 H') (fun Q' hQ' => ?_) (fun H6 s6 => iteF ?_)
        · refine ⟨_, rfl, sv, W, roots, Rs, rfl, hSt5, fun _ H' s' => ?_, fun y hy => (ends_or hE hy).elim⟩
          refine ⟨_, rfl, _, rfl, rfl, _, rfl, rfl, _, rfl, ?_⟩
          have e : (!decide (V.str (if true = true then "True" else "False") = V.str (if decide (V.non = V.non) = true then "True" else "False"))) = false := by simp
          exact e ▸ hQ' _ s'
        have hSt6 := hSt5.same s6
        dsimp only [tNext]
        refine if_via false (fun H' => Same H6 H') (fun Q' hQ' => ?_) (fun H7 s7 => iteF ?_)
        · refine ⟨_, rfl, sv, W, roots, Rs, rfl, hSt6, fun _ v2 H' s' hv2 => ?_, fun y hy => (ends_or hE hy).elim⟩
          refine ⟨_, rfl, rfl, _, rfl, iteT ⟨(by show 1 ≤ sizeLine; decide), fun t2 ht2 => ?_⟩⟩
          have htl : Tp K (upd H' t2 (.tup [.str "told"])) (.ref t2) dTold := tp_one (.str _) ht2
          refine ⟨_, _, hv2.mono (keep_new ht2), htl, sh_told.ok, sh_told.ok, _, rfl, ?_⟩
          rw [eqv_same sh_told]
          exact hQ' _ (s'.trans (same_new ht2))
        have hSt7 := hSt6.same s7
        have s57 := s6.trans s7
        have fr7 := fr5.trans (.of s57)
        dsimp only [tNext]
        refine ⟨_, rfl, rfl, _, rfl, iteF ?_⟩
        -- due
        dsimp only [tNext]
        have hde7 := s57 _ _ hde5
        have hzs7 := hzs5.mono (keep_same s57)
        refine ⟨_, rfl, de, zs, _, rfl, SqL.of hde7, hzs7, fun v8 H8 s8 hv8 => ⟨_, rfl, _, rfl, _, rfl, wv, .ref ar, de, W, roots, deedsOf Rs, zs, rfl, (hW.mono fr7.2).mono (keep_same s8), (hR.mono fr7.2).mono (keep_same s8), s8 _ _ hde7, hzs7.mono (keep_same s8), hdok, hr6, hE, fun v9 H9 s9 hv9 => ⟨(by show 2 ≤ sizeLine; decide), fun t9 ht9 => ?_⟩⟩⟩
        have hdue : Tp K (upd H9 t9 (.tup [v8, v9])) (.ref t9) (dDue W roots (deedsOf Rs)) := tp_two (hv8.mono (keep_same s9)) hv9 ht9
        have s79 := (s8.trans s9).trans (same_new (o := .tup [v8, v9]) ht9)
        generalize upd H9 t9 (.tup [v8, v9]) = HA at *
        have hStA := hSt7.same s79
        refine ⟨_, rfl, sv, W, roots, Rs, rfl, hStA, hE, fun u1 HB sB2 hu1 => ⟨_, rfl, sv, W, roots, Rs, rfl, hStA.same sB2, hE, fun u2 HC sC hu2 => ⟨(by show 2 ≤ sizeLine; decide), fun tC htC => ?_⟩⟩⟩
        have hdu2 : Tp K (upd HC tC (.tup [u1, u2])) (.ref tC) (dDue W roots (deedsOf Rs)) := tp_two (hu1.mono (keep_same sC)) hu2 htC
        have sAC := (sB2.trans sC).trans (same_new (o := .tup [u1, u2]) htC)
        generalize upd HC tC (.tup [u1, u2]) = HD at *
        refine ⟨_, _, rfl, hdu2, rp.sh, rp.nd, Nat.le_trans rp.dp (by decide), rp.fit (by decide), ?_⟩
        refine ⟨_, rfl, _, _, rfl, hdue.mono (keep_same sAC), rp.sh, rp.nd, Nat.le_trans rp.dp (by decide), rp.fit (by decide), rfl, ?_⟩
        have e : decide (V.str (dDue W roots (deedsOf Rs)).shown = V.str (dDue W roots (deedsOf Rs)).shown) = true := decide_eq_true rfl
        show Q (.bl (decide (V.str (dDue W roots (deedsOf Rs)).shown = V.str (dDue W roots (deedsOf Rs)).shown))) HD
        rw [e]
        exact kq k' rs' _ (by omega) (hM5.keep ((s57.trans s79).trans sAC)) (fr7.trans (.of (s79.trans sAC)))
      | some i =>
        obtain ⟨hiD, hlt⟩ := firstLeft_some hfl
        obtain ⟨x, c, t, hd, ht⟩ := stuck_waits hsk hiD hlt
        have hw : Waits W roots (deedsOf Rs) (some t) := ⟨dn, i, .skip x c, hgo, hsk, hfl, hd, ht.symm⟩
        have hst' : stuckTie W (deedsOf Rs) dn = some t := by
          unfold stuckTie
          rw [hfl]
          show ((rowD (deedsOf Rs) i)[dn i]?).bind (tieD W) = _
          rw [hd]
          exact ht
        rw [hst']
        dsimp only [gName]
        refine if_via false (fun H' => Same H5 H') (fun Q' hQ' => ?_) (fun H6 s6 => iteF ?_)
        · refine ⟨_, rfl, sv, W, roots, Rs, rfl, hSt5, fun he => (ends_or he hw).elim, fun y hy H' s' => ?_⟩
          refine ⟨_, rfl, _, rfl, rfl, _, rfl, rfl, _, rfl, ?_⟩
          have e : (!decide (V.str (if false = true then "True" else "False") = V.str (if decide (vNat t = V.non) = true then "True" else "False"))) = false := by simp [vNat]
          exact e ▸ hQ' _ s'
        have hSt6 := hSt5.same s6
        dsimp only [tNext]
        refine if_via false (fun H' => Same H6 H') (fun Q' hQ' => ?_) (fun H7 s7 => iteF ?_)
        · refine ⟨_, rfl, sv, W, roots, Rs, rfl, hSt6, fun he => (ends_or he hw).elim, fun y hy v2 H' s' hv2 => ?_⟩
          have ey : y = some t := waits_one hy hw
          subst ey
          refine ⟨_, rfl, rfl, _, rfl, ?_⟩
          have e : decide (vNat t = V.non) = false := by simp [vNat]
          show ite (decide (vNat t = V.non) = true) _ _
          rw [e]
          refine iteF ⟨_, rfl, (by show 2 ≤ sizeLine; decide), fun t2 ht2 => ?_⟩
          have htl : Tp K (upd H' t2 (.tup [.str "state", vNat t])) (.ref t2) (dNamed (some t)) := tp_two (.str _) (tp_nat t) ht2
          refine ⟨_, _, hv2.mono (keep_new ht2), htl, (sh_named t).ok, (sh_named t).ok, _, rfl, ?_⟩
          rw [eqv_same (sh_named t)]
          exact hQ' _ (s'.trans (same_new ht2))
        have s57 := s6.trans s7
        have fr7 := fr5.trans (.of s57)
        dsimp only [tNext]
        refine ⟨_, rfl, rfl, _, rfl, ?_⟩
        have e : (!decide (vNat t = V.non)) = true := by simp [vNat]
        show ite ((!decide (vNat t = V.non)) = true) _ _
        rw [e]
        exact iteT (kq k' rs' _ (by omega) (hM5.keep s57) fr7)
end
end Tb
end
section
set_option Elab.async false
set_option linter.all false
set_option maxHeartbeats 2000000
/-! Rows of nodes make webs that the law asks about. -/
namespace Tb
theorem tie_mem {W : Web} {x c t : Nat} (h : tieAt W x c = some t) : some t ∈ rowAt W x := by
  unfold tieAt at h
  rw [List.getD_eq_getElem?_getD] at h
  cases hc : (rowAt W x)[c]? with
  | none => rw [hc] at h; cases h
  | some y =>
    rw [hc] at h
    have : y = some t := h
    rw [← this]
    exact List.mem_of_getElem? hc
theorem mem_tie {W : Web} {x t : Nat} (h : some t ∈ rowAt W x) : ∃ c, tieAt W x c = some t := by
  obtain ⟨c, hc⟩ := List.mem_iff_getElem?.mp h
  refine ⟨c, ?_⟩
  unfold tieAt
  rw [List.getD_eq_getElem?_getD, hc]
  rfl
theorem tie_dom {W : Web} {x c t : Nat} (h : tieAt W x c = some t) : x < W.length := by
  have := tie_mem h
  unfold rowAt at this
  rw [List.getD_eq_getElem?_getD] at this
  cases hx : W[x]? with
  | none => rw [hx] at this; cases this
  | some r => exact (List.getElem?_eq_some_iff.mp hx).1
theorem row_in {W : Web} {x : Nat} (h : x < W.length) : rowAt W x ∈ W := by
  unfold rowAt
  rw [List.getD_eq_getElem?_getD, List.getElem?_eq_getElem h]
  exact List.getElem_mem _
theorem mem_dt {α : Type} {l : List α} {a : Nat} {t : α} : t ∈ (l.drop a).take 1 ↔ l[a]? = some t := by
  have e : l[a]? = (l.drop a).head? := by rw [List.head?_drop]
  rw [e]
  cases l.drop a with
  | nil => simp
  | cons y r =>
    simp
    exact eq_comm
/-- rows of one length, each node in one place -/
structure RowsOk (n many long : Nat) (rows : List (List Nat)) : Prop where
  len : rows.length = many
  each : ∀ r, r ∈ rows → r.length = long
  perm : rows.flatten.Perm (List.range n)
theorem RowsOk.lt {n many long : Nat} {rows : List (List Nat)} (R : RowsOk n many long rows) {r : List Nat} {x : Nat} (hr : r ∈ rows) (hx : x ∈ r) : x < n :=
  List.mem_range.mp (R.perm.mem_iff.mp (List.mem_flatten.mpr ⟨r, hr, hx⟩))
theorem RowsOk.at_ {n many long : Nat} {rows : List (List Nat)} (R : RowsOk n many long rows) {x : Nat} (hx : x < n) : ∃ (i j : Nat) (r : List Nat), rows[i]? = some r ∧ r[j]? = some x := by
  obtain ⟨r, hr, hxr⟩ := List.mem_flatten.mp (R.perm.mem_iff.mpr (List.mem_range.mpr hx))
  obtain ⟨i, hi⟩ := List.mem_iff_getElem?.mp hr
  obtain ⟨j, hj⟩ := List.mem_iff_getElem?.mp hxr
  exact ⟨i, j, r, hi, hj⟩
theorem chains_right {n many long : Nat} {rows : List (List Nat)} {W : Web} {M roots : List Nat} (R : RowsOk n many long rows) (h1 : 1 ≤ long) (hm1 : 1 ≤ many) (hm6 : many ≤ 6) (hn : n ≤ 60) (hW : W.length = n) (hM : M.length = n)
    (hr8 : ∀ row, row ∈ W → row.length ≤ 8 ∧ ∀ t, some t ∈ row → t < n) (hmk : ∀ m, m ∈ M → m ≤ many)
    (hx : ∀ (i j : Nat) r x, rows[i]? = some r → r[j]? = some x → markAt M x = i + 1 ∧ ∀ y, r[j + 1]? = some y → some y ∈ rowAt W x) (hroots : roots = rows.map (·.headD 0)) : RightIn W M roots true := by
  have hd : ∀ r, r ∈ rows → r[0]? = some (r.headD 0) := fun r hr => by
    have := R.each r hr
    cases r with
    | nil => simp at this; omega
    | cons a r => rfl
  have hrl : roots.length = many := by rw [hroots, List.length_map, R.len]
  have hrt : ∀ (i : Nat) x, roots[i]? = some x → ∃ r, rows[i]? = some r ∧ r[0]? = some x := fun i x h => by
    rw [hroots, List.getElem?_map] at h
    cases hr : rows[i]? with
    | none => rw [hr] at h; cases h
    | some r =>
      rw [hr] at h
      cases h
      exact ⟨r, rfl, hd r (List.mem_of_getElem? hr)⟩
  have hlt : ∀ (i j : Nat) r x, rows[i]? = some r → r[j]? = some x → x < n := fun i j r x h1 h2 => R.lt (List.mem_of_getElem? h1) (List.mem_of_getElem? h2)
  refine ⟨⟨?_, by omega, fun row h => (hr8 row h).1, fun x c t ht => ?_, by omega, by rw [hrl]; exact hmk, by omega, by omega, fun i x h => ?_, fun i x h => ?_⟩, fun _ x hxl => ?_, fun h => by cases h⟩
  · have : 0 < rows.length := by rw [R.len]; omega
    have e : rows[0]? = some rows[0] := List.getElem?_eq_getElem this
    have := hlt 0 0 _ _ e (hd _ (List.mem_of_getElem? e))
    omega
  · rw [hW]
    exact (hr8 _ (row_in (tie_dom ht))).2 t (tie_mem ht)
  · obtain ⟨r, h1, h2⟩ := hrt i x h
    exact ⟨by rw [hW]; exact hlt i 0 r x h1 h2, (hx i 0 r x h1 h2).1⟩
  · intro G hG hcl y hy hm
    obtain ⟨r, h1, h2⟩ := hrt i x h
    obtain ⟨i2, j, r2, h3, h4⟩ := R.at_ (x := y) (by omega)
    have e := (hx i2 j r2 y h3 h4).1
    have ei : i2 = i := by omega
    subst ei
    rw [h1] at h3
    cases h3
    have : ∀ (j : Nat) (y : Nat), r[j]? = some y → y ∈ G := by
      intro j
      induction j with
      | zero =>
        intro y hy
        rw [h2] at hy
        cases hy
        exact hG
      | succ j ih =>
        intro y hy
        have hj : j < r.length := by
          have := (List.getElem?_eq_some_iff.mp hy).1
          omega
        have e : r[j]? = some r[j] := List.getElem?_eq_getElem hj
        obtain ⟨c, hc⟩ := mem_tie ((hx i2 j r _ h1 e).2 y hy)
        exact hcl _ (ih _ e) c y hc (hx i2 (j + 1) r y h1 hy).1
    exact this j y h4
  · obtain ⟨i, j, r, h1, h2⟩ := R.at_ (x := x) (by omega)
    rw [(hx i j r x h1 h2).1]
    omega
/-- two rows, each node leads to the next in its own row and to one of the other -/
structure Rings (n long here far turn : Nat) (A B : List Nat) (W : Web) (M : List Nat) : Prop where
  la : A.length = long
  lb : B.length = long
  perm : (A ++ B).Perm (List.range n)
  n_ : n = 2 * long
  l60 : long ≤ 30
  t1 : turn ≤ 1
  h : here < long
  far_ : ∀ a, a < here → a = far → a + 2 ≤ here
  wl : W.length = n
  ml : M.length = n
  wa : ∀ (a : Nat) x, A[a]? = some x → rowAt W x = ((B.drop a).take 1 ++ (A.drop (a + 1)).take 1).map some
  wb : ∀ (a : Nat) x, B[a]? = some x → rowAt W x = ((A.drop (a + 1 + if a = far then 1 else 0)).take 1 ++ (B.drop (a + 1)).take 1).map some
  ma : ∀ (a : Nat) x, A[a]? = some x → markAt M x = if a ≤ here then 1 + turn else 0
  mb : ∀ (a : Nat) x, B[a]? = some x → markAt M x = if a ≤ here then 2 - turn else 0
section
variable {n long here far turn : Nat} {A B : List Nat} {W : Web} {M : List Nat}
theorem Rings.lt (R : Rings n long here far turn A B W M) {x : Nat} (h : x ∈ A ∨ x ∈ B) : x < n :=
  List.mem_range.mp (R.perm.mem_iff.mp (List.mem_append.mpr h))
theorem Rings.at_ (R : Rings n long here far turn A B W M) {x : Nat} (h : x < n) : (∃ a : Nat, A[a]? = some x) ∨ ∃ a : Nat, B[a]? = some x := by
  rcases List.mem_append.mp (R.perm.mem_iff.mpr (List.mem_range.mpr h)) with h | h
  · exact .inl (List.mem_iff_getElem?.mp h)
  · exact .inr (List.mem_iff_getElem?.mp h)
theorem Rings.nd (R : Rings n long here far turn A B W M) : (A ++ B).Nodup := R.perm.nodup_iff.mpr List.nodup_range
theorem Rings.tieA (R : Rings n long here far turn A B W M) {a x c t : Nat} (hx : A[a]? = some x) (ht : tieAt W x c = some t) : B[a]? = some t ∨ A[a + 1]? = some t := by
  have := tie_mem ht
  rw [R.wa a x hx] at this
  obtain ⟨y, hy, e⟩ := List.mem_map.mp this
  cases e
  rcases List.mem_append.mp hy with h | h
  · exact .inl (mem_dt.mp h)
  · exact .inr (mem_dt.mp h)
theorem Rings.tieB (R : Rings n long here far turn A B W M) {a x c t : Nat} (hx : B[a]? = some x) (ht : tieAt W x c = some t) : A[a + 1 + if a = far then 1 else 0]? = some t ∨ B[a + 1]? = some t := by
  have := tie_mem ht
  rw [R.wb a x hx] at this
  obtain ⟨y, hy, e⟩ := List.mem_map.mp this
  cases e
  rcases List.mem_append.mp hy with h | h
  · exact .inl (mem_dt.mp h)
  · exact .inr (mem_dt.mp h)
theorem Rings.nextA (R : Rings n long here far turn A B W M) {a x t : Nat} (hx : A[a]? = some x) (ht : A[a + 1]? = some t) : ∃ c, tieAt W x c = some t := by
  refine mem_tie ?_
  rw [R.wa a x hx]
  exact List.mem_map.mpr ⟨t, List.mem_append_right _ (mem_dt.mpr ht), rfl⟩
theorem Rings.nextB (R : Rings n long here far turn A B W M) {a x t : Nat} (hx : B[a]? = some x) (ht : B[a + 1]? = some t) : ∃ c, tieAt W x c = some t := by
  refine mem_tie ?_
  rw [R.wb a x hx]
  exact List.mem_map.mpr ⟨t, List.mem_append_right _ (mem_dt.mpr ht), rfl⟩
theorem Rings.ties (R : Rings n long here far turn A B W M) : TiesIn W := fun x c t ht => by
  rw [R.wl]
  have hx := tie_dom ht
  rw [R.wl] at hx
  rcases R.at_ hx with ⟨a, ha⟩ | ⟨a, ha⟩
  · rcases R.tieA ha ht with h | h
    · exact R.lt (.inr (List.mem_of_getElem? h))
    · exact R.lt (.inl (List.mem_of_getElem? h))
  · rcases R.tieB ha ht with h | h
    · exact R.lt (.inl (List.mem_of_getElem? h))
    · exact R.lt (.inr (List.mem_of_getElem? h))
theorem Rings.r8 (R : Rings n long here far turn A B W M) : ∀ row, row ∈ W → row.length ≤ 8 := fun row h => by
  obtain ⟨x, hx⟩ := List.mem_iff_getElem?.mp h
  have hl := (List.getElem?_eq_some_iff.mp hx).1
  have e : row = rowAt W x := by
    unfold rowAt
    rw [List.getD_eq_getElem?_getD, hx]
    rfl
  rw [R.wl] at hl
  rcases R.at_ hl with ⟨a, ha⟩ | ⟨a, ha⟩
  · rw [e, R.wa a x ha, List.length_map, List.length_append]
    have h1 := List.length_take_le 1 (B.drop a)
    have h2 := List.length_take_le 1 (A.drop (a + 1))
    omega
  · rw [e, R.wb a x ha, List.length_map, List.length_append]
    have h1 := List.length_take_le 1 (A.drop (a + 1 + if a = far then 1 else 0))
    have h2 := List.length_take_le 1 (B.drop (a + 1))
    omega
/-- all that bear the row's mark are reached -/
theorem reach_row {L : List Nat} {me : Nat} (hm : ∀ x, x < W.length → markAt M x = me → ∃ a : Nat, L[a]? = some x) (hb : ∀ (a : Nat) x, L[a]? = some x → markAt M x = me → ∀ j y, j ≤ a → L[j]? = some y → markAt M y = me)
    (hn : ∀ (a : Nat) x t, L[a]? = some x → L[a + 1]? = some t → ∃ c, tieAt W x c = some t) {root : Nat} (h0 : L[0]? = some root) : Reach W M me root := by
  intro G hG hcl x hx hmx
  obtain ⟨a, ha⟩ := hm x hx hmx
  have : ∀ j y, j ≤ a → L[j]? = some y → y ∈ G := by
    intro j
    induction j with
    | zero =>
      intro y _ hy
      rw [h0] at hy
      cases hy
      exact hG
    | succ j ih =>
      intro y hj hy
      have hjl : j < L.length := by
        have := (List.getElem?_eq_some_iff.mp hy).1
        omega
      have e : L[j]? = some L[j] := List.getElem?_eq_getElem hjl
      obtain ⟨c, hc⟩ := hn j _ y e hy
      exact hcl _ (ih _ (by omega) e) c y hc (hb a x ha hmx (j + 1) y hj hy)
  exact this a x (Nat.le_refl _) ha
theorem take_at {L : List Nat} {k a x : Nat} : (L.take k)[a]? = some x ↔ a < k ∧ L[a]? = some x := by
  rw [List.getElem?_take]
  by_cases h : a < k
  · rw [if_pos h]; simp [h]
  · rw [if_neg h]; simp [h]
theorem Rings.inA (R : Rings n long here far turn A B W M) {x : Nat} (hx : x < W.length) (h : markAt M x = 1 + turn) : ∃ a : Nat, A[a]? = some x ∧ a ≤ here := by
  have ht := R.t1
  rw [R.wl] at hx
  rcases R.at_ hx with ⟨a, ha⟩ | ⟨a, ha⟩
  · rw [R.ma a x ha] at h
    by_cases hh : a ≤ here
    · exact ⟨a, ha, hh⟩
    · rw [if_neg hh] at h
      omega
  · rw [R.mb a x ha] at h
    by_cases hh : a ≤ here
    · rw [if_pos hh] at h
      omega
    · rw [if_neg hh] at h
      omega
theorem Rings.inB (R : Rings n long here far turn A B W M) {x : Nat} (hx : x < W.length) (h : markAt M x = 2 - turn) : ∃ a : Nat, B[a]? = some x ∧ a ≤ here := by
  have ht := R.t1
  rw [R.wl] at hx
  rcases R.at_ hx with ⟨a, ha⟩ | ⟨a, ha⟩
  · rw [R.ma a x ha] at h
    by_cases hh : a ≤ here
    · rw [if_pos hh] at h
      omega
    · rw [if_neg hh] at h
      omega
  · rw [R.mb a x ha] at h
    by_cases hh : a ≤ here
    · exact ⟨a, ha, hh⟩
    · rw [if_neg hh] at h
      omega
theorem Rings.reachA (R : Rings n long here far turn A B W M) {r : Nat} (h0 : A[0]? = some r) : Reach W M (1 + turn) r :=
  reach_row (fun x hx hm => let ⟨a, h, _⟩ := R.inA hx hm; ⟨a, h⟩) (fun a x ha hm j y hj hy => by
    rw [R.ma a x ha] at hm
    have : a ≤ here := by
      by_cases hh : a ≤ here
      · exact hh
      · rw [if_neg hh] at hm
        omega
    rw [R.ma j y hy, if_pos (by omega)]) (fun a x t h1 h2 => R.nextA h1 h2) h0
theorem Rings.reachB (R : Rings n long here far turn A B W M) {r : Nat} (h0 : B[0]? = some r) : Reach W M (2 - turn) r :=
  reach_row (fun x hx hm => let ⟨a, h, _⟩ := R.inB hx hm; ⟨a, h⟩) (fun a x ha hm j y hj hy => by
    have ht := R.t1
    rw [R.mb a x ha] at hm
    have : a ≤ here := by
      by_cases hh : a ≤ here
      · exact hh
      · rw [if_neg hh] at hm
        omega
    rw [R.mb j y hy, if_pos (by omega)]) (fun a x t h1 h2 => R.nextB h1 h2) h0
theorem head_take {L : List Nat} {k r : Nat} (h : L[0]? = some r) (hk : 0 < k) : (L.take k).head? = some r := by
  rw [List.head?_eq_getElem?, take_at]
  exact ⟨hk, h⟩
theorem Rings.pathA (R : Rings n long here far turn A B W M) {r : Nat} (h0 : A[0]? = some r) : OnPath W M (1 + turn) r (A.take (here + 1)) := by
  have ht := R.t1
  have hh := R.h
  have hla := R.la
  have hlb := R.lb
  refine ⟨head_take h0 (by omega), (List.take_sublist _ _).nodup (List.nodup_append.mp R.nd).1, fun x hx => ?_, fun x hx => ?_, fun x hx hm => ?_, fun a x c t hx htie hm => ?_, fun a x c t hx ha htie => ?_⟩
  · obtain ⟨a, ha⟩ := List.mem_iff_getElem?.mp hx
    obtain ⟨h1, h2⟩ := take_at.mp ha
    rw [R.ma a x h2, if_pos (by omega)]
  · rw [R.wl]
    exact R.lt (.inl (List.mem_of_mem_take hx))
  · obtain ⟨a, h1, h2⟩ := R.inA hx hm
    exact List.mem_of_getElem? (take_at.mpr ⟨by omega, h1⟩)
  · obtain ⟨h1, h2⟩ := take_at.mp hx
    rcases R.tieA h2 htie with h | h
    · rw [R.mb a t h, if_pos (by omega)] at hm
      omega
    · rw [R.ma (a + 1) t h] at hm
      by_cases hc : a + 1 ≤ here
      · exact take_at.mpr ⟨by omega, h⟩
      · rw [if_neg hc] at hm
        omega
  · rw [List.length_take] at ha
    obtain ⟨h1, h2⟩ := take_at.mp hx
    rcases R.tieA h2 htie with h | h
    · rw [R.mb a t h, if_pos (by omega)]
      omega
    · rw [R.ma (a + 1) t h, if_pos (by omega)]
      omega
theorem Rings.pathB (R : Rings n long here far turn A B W M) {r : Nat} (h0 : B[0]? = some r) : OnPath W M (2 - turn) r (B.take (here + 1)) := by
  have ht := R.t1
  have hh := R.h
  have hla := R.la
  have hlb := R.lb
  refine ⟨head_take h0 (by omega), (List.take_sublist _ _).nodup (List.nodup_append.mp R.nd).2.1, fun x hx => ?_, fun x hx => ?_, fun x hx hm => ?_, fun a x c t hx htie hm => ?_, fun a x c t hx ha htie => ?_⟩
  · obtain ⟨a, ha⟩ := List.mem_iff_getElem?.mp hx
    obtain ⟨h1, h2⟩ := take_at.mp ha
    rw [R.mb a x h2, if_pos (by omega)]
  · rw [R.wl]
    exact R.lt (.inr (List.mem_of_mem_take hx))
  · obtain ⟨a, h1, h2⟩ := R.inB hx hm
    exact List.mem_of_getElem? (take_at.mpr ⟨by omega, h1⟩)
  · obtain ⟨h1, h2⟩ := take_at.mp hx
    rcases R.tieB h2 htie with h | h
    · generalize (a + 1 + if a = far then 1 else 0) = q at h
      rw [R.ma q t h] at hm
      split at hm <;> omega
    · rw [R.mb (a + 1) t h] at hm
      by_cases hc : a + 1 ≤ here
      · exact take_at.mpr ⟨by omega, h⟩
      · rw [if_neg hc] at hm
        omega
  · rw [List.length_take] at ha
    obtain ⟨h1, h2⟩ := take_at.mp hx
    rcases R.tieB h2 htie with h | h
    · have hf := R.far_ a (by omega)
      have : (a + 1 + if a = far then 1 else 0) ≤ here := by
        by_cases e : a = far
        · have := hf e
          rw [if_pos e]
          omega
        · rw [if_neg e]
          omega
      rw [R.ma _ t h, if_pos this]
      omega
    · rw [R.mb (a + 1) t h, if_pos (by omega)]
      omega
theorem Rings.right (R : Rings n long here far turn A B W M) {roots : List Nat} {a0 b0 : Nat} (ha : A[0]? = some a0) (hb : B[0]? = some b0) (hroots : roots = if turn = 0 then [a0, b0] else [b0, a0]) (hmk : ∀ m, m ∈ M → m ≤ 2) : RightIn W M roots (decide (here = long - 1)) := by
  have ht := R.t1
  have hh := R.h
  have hla := R.la
  have hlb := R.lb
  have hn := R.n_
  have hl := R.l60
  have hwl := R.wl
  have hml := R.ml
  have h2 : roots.length = 2 := by
    rw [hroots]
    split <;> rfl
  have a1 : markAt M a0 = 1 + turn := by rw [R.ma 0 a0 ha, if_pos (by omega)]
  have b1 : markAt M b0 = 2 - turn := by rw [R.mb 0 b0 hb, if_pos (by omega)]
  have al : a0 < W.length := by rw [hwl]; exact R.lt (.inl (List.mem_of_getElem? ha))
  have bl : b0 < W.length := by rw [hwl]; exact R.lt (.inr (List.mem_of_getElem? hb))
  have hcase : ∀ (i : Nat) r, roots[i]? = some r → (r = a0 ∧ i + 1 = 1 + turn) ∨ (r = b0 ∧ i + 1 = 2 - turn) := by
    intro i r hr
    rw [hroots] at hr
    rcases Nat.eq_zero_or_pos turn with e | e
    · rw [if_pos e] at hr
      match i, hr with
      | 0, hr => cases hr; exact .inl ⟨rfl, by omega⟩
      | 1, hr => cases hr; exact .inr ⟨rfl, by omega⟩
      | n + 2, hr => simp at hr
    · rw [if_neg (by omega)] at hr
      match i, hr with
      | 0, hr => cases hr; exact .inr ⟨rfl, by omega⟩
      | 1, hr => cases hr; exact .inl ⟨rfl, by omega⟩
      | n + 2, hr => simp at hr
  refine ⟨⟨by omega, by omega, R.r8, R.ties, by omega, by rw [h2]; exact hmk, by omega, by omega, fun i r hr => ?_, fun i r hr => ?_⟩, fun hf x hx => ?_, fun _ i r hr => ?_⟩
  · rcases hcase i r hr with ⟨rfl, e⟩ | ⟨rfl, e⟩
    · exact ⟨al, by rw [a1, e]⟩
    · exact ⟨bl, by rw [b1, e]⟩
  · rcases hcase i r hr with ⟨rfl, e⟩ | ⟨rfl, e⟩
    · rw [e]; exact R.reachA ha
    · rw [e]; exact R.reachB hb
  · have hf' := of_decide_eq_true hf
    rw [hwl] at hx
    rcases R.at_ hx with ⟨a, h⟩ | ⟨a, h⟩
    · have := (List.getElem?_eq_some_iff.mp h).1
      rw [R.ma a x h, if_pos (by omega)]
      omega
    · have := (List.getElem?_eq_some_iff.mp h).1
      rw [R.mb a x h, if_pos (by omega)]
      omega
  · rcases hcase i r hr with ⟨rfl, e⟩ | ⟨rfl, e⟩
    · rw [e]; exact ⟨_, R.pathA ha⟩
    · rw [e]; exact ⟨_, R.pathB hb⟩
end
end Tb
end
section
set_option Elab.async false
set_option linter.all false
set_option maxRecDepth 100000
set_option maxHeartbeats 4000000
/-! Rows of nodes, drawn one by one from a list: the nested comprehension of the law. -/
namespace Tb
open PySem PySem.Spec PyProof.Rows L2
section
variable {X : Cx} {o e : Expr} {es : List Expr} {to : TE} {t : TA} {name : Str} {apos cpos : Pos} {T id : String} {r : V → List V → Hp → VK → Prop}
theorem pe_bmK (K : PySem.W.Frag) (pa : PlainAttrs T) (slot : Slot T name id) (hty : typeOf (.builtin id) = pure (.type "method_descriptor")) (hm : MtR X id r) (ho : PE X o to) (ha : PA X (e :: es) t)
    (hbase : attributeBase o name X.env (eval o X.env) = eval o X.env := by rfl)
    (hfew : ((backTo cpos (starEach (e :: es) X.env)).all (fun x => !x.1) && (backToKw cpos (keywordEach [] X.env)).all (fun x => x.1.isSome)
      && decide ((e :: es).length + ([] : List Keyword).length + (if ([] : List Keyword).isEmpty then 0 else 1) < 30)) = true := by rfl)
    (hline : (apos.endLine == cpos.line) = true := by rfl) (hs : starEach (e :: es) X.env = (false, eval e X.env) :: starEach es X.env := by rfl) (hplain : (backTo cpos (starEach es X.env)).any (·.1) = false := by rfl) (hK : X.K = K := by rfl) :
    PE X (.Call (.Attribute o name apos) (e :: es) [] cpos) (tBM K T r to t) := by
  subst hK
  exact pe_bm pa slot hty hm ho ha hbase hfew hline hs hplain
def rLenL (K : PySem.W.Frag) : List V → Hp → VK → Prop := fun xs H Q => ∃ p ys, xs = [.ref p] ∧ (SqL K H p ys ∨ SqT K H p ys) ∧ Q (.int ys.length) H
theorem call_lenLK (K : PySem.W.Frag) (hK : X.K = K := by rfl) : CallR X (.builtin "len") (rLenL K) := by
  subst hK
  exact call_len_seq
end
abbrev scRowsC : Scope := { kind := .function, names := [(".0", .local), ("_law_walker", .local), ("range", .globalImplicit), ("_law_left", .cell), ("_law_long", .cell), ("_law_m", .cell)], isGenerator := false, isCoroutine := false }
variable {K : PySem.W.Frag}
abbrev tPopDraw (K : PySem.W.Frag) (im il : Nat) : TE := tBM K "list" rPopAt (tVar il) (tCons (tCall (spDraw K) [] E0 (tCons (tVar im) (tCons (tCB (rLenL K) (tCons (tVar il) tNil)) tNil))) tNil)
/-- all but the drawing's own and the list at left is as it was -/
def FrL (K : PySem.W.Frag) (H H' : Hp) (m rl left : Addr) : Prop := (∀ b o, H b = some o → b ≠ m → b ≠ rl → b ≠ left → H' b = some o) ∧ Keep K H H'
theorem FrL.refl (H : Hp) (m rl left : Addr) : FrL K H H m rl left := ⟨fun _ _ e _ _ _ => e, Keep.refl H⟩
theorem FrL.trans {H H1 H2 : Hp} {m rl left : Addr} (a : FrL K H H1 m rl left) (b : FrL K H1 H2 m rl left) : FrL K H H2 m rl left := ⟨fun x o e n1 n2 n3 => b.1 x o (a.1 x o e n1 n2 n3) n1 n2 n3, a.2.trans b.2⟩
theorem FrL.of {H H1 : Hp} {m rl left : Addr} (a : Same H H1) : FrL K H H1 m rl left := ⟨fun x o e _ _ _ => a x o e, keep_same a⟩
theorem FrL.ofM {H H1 : Hp} {m rl left : Addr} (a : FrM K H H1 m rl) : FrL K H H1 m rl left := ⟨fun x o e n1 n2 _ => a.1 x o e n1 n2, a.2⟩
theorem seq_nat {r n : Nat} (h : r < n) : seqIndex? (r : Int) n = some r := by
  unfold seqIndex?
  simp
  omega
theorem MD.ne_lst {H0 H : Hp} {m sa rl a : Addr} {k : Nat} {ns rs : List Int} {xs : List V} (h : MD K H0 H m sa rl k ns rs) (e : H a = some (.lst xs)) : a ≠ m := by
  obtain ⟨kvs, hd, _⟩ := h.d
  exact ne_of e hd (by intro z; cases z)
theorem er_map {α β : Type} {f : α → β} : ∀ (L : List α) (r : Nat), (L.map f).eraseIdx r = (L.eraseIdx r).map f
  | [], _ => rfl
  | _ :: _, 0 => rfl
  | a :: L, r + 1 => by
    show f a :: (L.map f).eraseIdx r = f a :: (L.eraseIdx r).map f
    rw [er_map L r]
theorem er_perm : ∀ {L : List Nat} {r : Nat} (h : r < L.length), ([L[r]] ++ L.eraseIdx r).Perm L
  | a :: L, 0, _ => .refl _
  | a :: L, r + 1, h => by
    have ih := er_perm (L := L) (r := r) (by simpa using h)
    show (L[r]'(by simpa using h) :: a :: L.eraseIdx r).Perm (a :: L)
    exact (List.Perm.swap _ _ _).trans (.cons a ih)
theorem row_made {σ : L2.St} {H H0 : Hp} {Q : VK} {m sa rl left : Addr} {k long im il iL ja : Nat} {ns rs : List Int} {L : List Nat}
    (hlong : σ[iL]? = some (some (vNat long))) (h1 : ∀ x, ((wipe σ [ja]).set ja (some x))[im]? = some (some (.ref m))) (h2 : ∀ x, ((wipe σ [ja]).set ja (some x))[il]? = some (some (.ref left)))
    (h3 : ∀ x, wipe ((wipe σ [ja]).set ja (some x)) [ja] = wipe σ [ja]) (hM : MD K H0 H m sa rl k ns rs) (hL : H left = some (.lst (L.map vNat))) (hlr : left ≠ rl) (hl0 : H0 left = none) (hle : long ≤ L.length) (h60 : L.length ≤ 60) (hk : k + long < 2 ^ 40)
    (kq : ∀ (l : Addr) (row L' : List Nat) (rs' : List Int) (H' : Hp), row.length = long → (row ++ L').Perm L → MD K H0 H' m sa rl (k + long) ns rs' → H' l = some (.lst (row.map vNat)) → H l = none → H' left = some (.lst (L'.map vNat)) → FrL K H H' m rl left → Q (.ref l) H') :
    tLc (iRng1 (tCons (tVar iL) tNil)) (gName ja) tYes (tPopDraw K im il) [ja] σ H Q := by
  refine ⟨_, hlong, (long : Int), rfl, by omega, by omega, fun D hD => ?_⟩
  rw [Int.toNat_natCast]
  have hD0 : H0 D = none := hM.same.free hD
  have nDl : D ≠ left := (ne_of_none hL hD).symm
  have nDr : D ≠ rl := (ne_of_none hM.r hD).symm
  refine lc_it (walk_range (lo := 0) (n := long)) (fun i H' => ∃ (row L' : List Nat) (rs' : List Int), row.length = i ∧ (row ++ L').Perm L ∧ MD K H0 H' m sa rl (k + i) ns rs' ∧ H' D = some (.lst (row.map vNat)) ∧ H' left = some (.lst (L'.map vNat)) ∧ FrL K H H' m rl left)
    ⟨[], L, rs, rfl, .refl _, hM.keep (same_new hD), upd_same, same_new hD _ _ hL, .of (same_new hD)⟩ (fun _ _ _ _ => trivial) ?_ ?_
  · rintro i x H1 H2 hi ⟨row, L', rs', hrl, hp, hM1, hD1, hL1, fr1⟩ ⟨rfl, hx⟩
    have hpl := hp.length_eq
    rw [List.length_append] at hpl
    refine ⟨h3 x, _, h2 x, .inl ⟨rfl, _, SqL.of hL1⟩, _, h1 x, _, h2 x, left, _, rfl, .inl (SqL.of hL1), ?_⟩
    rw [List.length_map]
    refine ⟨H0, m, sa, rl, k + i, ns, rs', L'.length, rfl, hM1, by omega, by omega, by omega, fun r rs2 H3 hr hM3 fr3 => ?_⟩
    have hL3 := fr3.1 _ _ hL1 (hM1.ne_lst hL1) hlr
    have hD3 := fr3.1 _ _ hD1 (hM1.ne_lst hD1) nDr
    refine ⟨left, _, (r : Int), r, vNat L'[r], rfl, rfl, hL3, by omega, by omega, seq_nat (by rw [List.length_map]; exact hr), by rw [List.getElem?_map, List.getElem?_eq_getElem hr]; rfl, ?_⟩
    have e1 : (L'.map vNat).eraseIdx r = (L'.eraseIdx r).map vNat := er_map _ _
    rw [e1]
    have hM4 : MD K H0 (upd H3 left (.lst ((L'.eraseIdx r).map vNat))) m sa rl (k + i + 1) ns rs2 := hM3.upd hL3 hlr hl0
    have hD4 : (upd H3 left (.lst ((L'.eraseIdx r).map vNat))) D = some (.lst (row.map vNat)) := by rw [upd_ne nDl]; exact hD3
    have fr4 : FrL K H (upd H3 left (.lst ((L'.eraseIdx r).map vNat))) m rl left := by
      have := fr1.trans (.ofM fr3)
      exact ⟨fun b o e n1 n2 n3 => by rw [upd_ne n3]; exact this.1 b o e n1 n2 n3, this.2.trans (keep_upd hL3 rfl)⟩
    have hL4 : (upd H3 left (.lst ((L'.eraseIdx r).map vNat))) left = some (.lst ((L'.eraseIdx r).map vNat)) := upd_same
    generalize upd H3 left (.lst ((L'.eraseIdx r).map vNat)) = H4 at *
    refine ⟨_, hD4, by rw [List.length_map]; exact small1000 (by omega), row ++ [L'[r]], L'.eraseIdx r, rs2, by simp [hrl], ?_, hM4.upd hD4 nDr hD0, by rw [upd_same, List.map_append]; rfl, by rw [upd_ne nDl.symm]; exact hL4, ?_⟩
    · rw [List.append_assoc]
      exact (List.Perm.append_left row (er_perm hr)).trans hp
    · exact ⟨fun b o e n1 n2 n3 => by rw [upd_ne (ne_of_none e hD)]; exact fr4.1 b o e n1 n2 n3, fr4.2.trans (keep_upd hD4 rfl)⟩
  · rintro H1 ⟨row, L', rs', hrl, hp, hM1, hD1, hL1, fr1⟩
    exact kq D row L' rs' H1 hrl hp hM1 hD1 hD hL1 fr1
abbrev vRows (rows : List (List Nat)) : List (List V) := rows.map (·.map vNat)
theorem rows_made {wi : TI} {σ : L2.St} {H H0 : Hp} {Q : VK} {m sa rl left : Addr} {k many long im il iL ja jw : Nat} {ns rs : List Int} {L : List Nat}
    (hwi : ∀ R : It → Hp → Prop, R (Itr 0 many) H → wi σ H R) (hlong : ∀ x, ((wipe σ [jw]).set jw (some x))[iL]? = some (some (vNat long)))
    (h1 : ∀ x y, ((wipe ((wipe σ [jw]).set jw (some x)) [ja]).set ja (some y))[im]? = some (some (.ref m))) (h2 : ∀ x y, ((wipe ((wipe σ [jw]).set jw (some x)) [ja]).set ja (some y))[il]? = some (some (.ref left)))
    (h3 : ∀ x y, wipe ((wipe ((wipe σ [jw]).set jw (some x)) [ja]).set ja (some y)) [ja] = wipe ((wipe σ [jw]).set jw (some x)) [ja]) (h4 : ∀ x, wipe ((wipe σ [jw]).set jw (some x)) [jw] = wipe σ [jw])
    (hM : MD K H0 H m sa rl k ns rs) (hL : H left = some (.lst (L.map vNat))) (hlr : left ≠ rl) (hl0 : H0 left = none) (hle : L.length = many * long) (hm : many ≤ 6) (h60 : L.length ≤ 60) (hk : k + many * long < 2 ^ 40)
    (kq : ∀ (l : Addr) (as : List Addr) (rows : List (List Nat)) (L' : List Nat) (rs' : List Int) (H' : Hp), rows.length = many → (∀ r, r ∈ rows → r.length = long) → (rows.flatten ++ L').Perm L → MD K H0 H' m sa rl (k + many * long) ns rs' → LL2 H' l as (vRows rows) → H l = none → (∀ a, a ∈ as → H a = none) → FrL K H H' m rl left → Q (.ref l) H') :
    tLc wi (gName jw) tYes (tLc (iRng1 (tCons (tVar iL) tNil)) (gName ja) tYes (tPopDraw K im il) [ja]) [jw] σ H Q := by
  refine hwi _ fun D hD => ?_
  have hD0 : H0 D = none := hM.same.free hD
  have nDl : D ≠ left := (ne_of_none hL hD).symm
  have nDr : D ≠ rl := (ne_of_none hM.r hD).symm
  refine lc_it (walk_range (lo := 0) (n := many)) (fun i H' => ∃ (as : List Addr) (rows : List (List Nat)) (L' : List Nat) (rs' : List Int), rows.length = i ∧ (∀ r, r ∈ rows → r.length = long) ∧ (rows.flatten ++ L').Perm L ∧ MD K H0 H' m sa rl (k + i * long) ns rs' ∧ LL2 H' D as (vRows rows) ∧ (∀ a, a ∈ as → H a = none) ∧ H' left = some (.lst (L'.map vNat)) ∧ FrL K H H' m rl left)
    ⟨[], [], L, rs, rfl, by simp, .refl _, by rw [Nat.zero_mul]; exact hM.keep (same_new hD), ⟨upd_same, by simp, by simp, rfl, fun n a zs h _ => by simp at h⟩, by simp, same_new hD _ _ hL, .of (same_new hD)⟩ (fun _ _ _ _ => trivial) ?_ ?_
  · rintro i x H1 H2 hi ⟨as, rows, L', rs', hrl, heach, hp, hM1, hLL, has, hL1, fr1⟩ ⟨rfl, hx⟩
    have hpl := hp.length_eq
    have hfl : rows.flatten.length = i * long := by
      rw [← hrl]
      clear hrl hp hLL hpl
      induction rows with
      | nil => simp
      | cons r rows ih =>
        rw [List.flatten_cons, List.length_append, heach r (by simp), ih fun q hq => heach q (by simp [hq]), List.length_cons, Nat.add_mul]
        omega
    rw [List.length_append, hfl, hle] at hpl
    have hil : (i + 1) * long ≤ many * long := Nat.mul_le_mul_right _ hi
    rw [Nat.add_mul, Nat.one_mul] at hil
    refine ⟨h4 x, ?_⟩
    unfold tYes
    refine iteT (row_made (long := long) (hlong x) (fun y => h1 x y) (fun y => h2 x y) (fun y => h3 x y) hM1 hL1 hlr hl0 (by omega) (by omega) (by omega) fun l row L2 rs2 H3 hrow hp3 hM3 hl3 hln hL3 fr3 => ?_)
    have hDlst : H2 D = some (.lst (as.map V.ref)) := hLL.lst
    have hasl : as.length = i := by rw [hLL.len]; simp [hrl]
    have kp : ∀ b o, b = D ∨ b ∈ as → H2 b = some o → H3 b = some o := fun b o hb e => by
      rcases hb with rfl | hb
      · exact fr3.1 _ _ e (hM1.ne_lst hDlst) nDr nDl
      · obtain ⟨n, hn⟩ := List.mem_iff_getElem?.mp hb
        have hnl := (List.getElem?_eq_some_iff.mp hn).1
        have e2 := hLL.at_ n _ _ hn (List.getElem?_eq_getElem (by rw [← hLL.len]; exact hnl))
        exact fr3.1 _ _ e (hM1.ne_lst e2) (fun z => by have := has b hb; rw [z, hM.r] at this; cases this) (fun z => by have := has b hb; rw [z, hL] at this; cases this)
    have hLL3 := hLL.keep kp
    have hln0 : H l = none := by
      cases hb : H l with
      | none => rfl
      | some o =>
        exfalso
        by_cases c1 : l = m
        · obtain ⟨kvs, hd, _⟩ := hM1.d
          rw [← c1, hln] at hd
          cases hd
        · by_cases c2 : l = rl
          · have := hM1.r
            rw [← c2, hln] at this
            cases this
          · by_cases c3 : l = left
            · rw [c3, hL1] at hln
              cases hln
            · have := fr1.1 l o hb c1 c2 c3
              rw [hln] at this
              cases this
    have nlD : D ≠ l := fun z => by rw [← z, hDlst] at hln; cases hln
    have nla : l ∉ as := fun hm => by
      obtain ⟨n, hn⟩ := List.mem_iff_getElem?.mp hm
      have hnl := (List.getElem?_eq_some_iff.mp hn).1
      have e2 := hLL.at_ n _ _ hn (List.getElem?_eq_getElem (by rw [← hLL.len]; exact hnl))
      rw [hln] at e2
      cases e2
    have e0 : as.map V.ref ++ [V.ref l] = (as ++ [l]).map V.ref := by simp
    refine ⟨_, hLL3.lst, by rw [List.length_map, hasl]; exact small1000 (by omega), as ++ [l], rows ++ [row], L2, rs2, by simp [hrl], fun r hr => ?_, ?_, ?_, ?_, fun a ha => ?_, by rw [upd_ne nDl.symm]; exact hL3, ?_⟩
    · rcases List.mem_append.mp hr with h | h
      · exact heach r h
      · rw [List.mem_singleton.mp h]; exact hrow
    · rw [List.flatten_append, List.append_assoc]
      simp only [List.flatten_cons, List.flatten_nil, List.append_nil]
      exact (List.Perm.append_left _ hp3).trans hp
    · rw [show k + (i + 1) * long = k + i * long + long by rw [Nat.add_mul, Nat.one_mul]; omega]
      exact hM3.upd hLL3.lst nDr hD0
    · rw [e0]
      refine ⟨upd_same, ?_, ?_, by simp [hLL.len], fun n a zs ha hz => ?_⟩
      · rw [List.nodup_append]
        exact ⟨hLL.nd, by simp, fun a ha b hb e => nla (by rw [List.mem_singleton.mp hb] at e; exact e ▸ ha)⟩
      · intro hm
        rcases List.mem_append.mp hm with h | h
        · exact hLL.out h
        · exact nlD (List.mem_singleton.mp h)
      · rcases Nat.lt_or_ge n i with hn | hn
        · rw [List.getElem?_append_left (by omega)] at ha
          unfold vRows at hz
          rw [List.map_append, List.getElem?_append_left (by rw [List.length_map]; omega)] at hz
          have hne : a ≠ D := fun z => hLL.out (z ▸ List.mem_of_getElem? ha)
          rw [upd_ne hne]
          exact hLL3.at_ n a zs ha hz
        · have hn2 := (List.getElem?_eq_some_iff.mp ha).1
          rw [List.length_append, List.length_singleton, hasl] at hn2
          have en : n = i := by omega
          subst en
          rw [List.getElem?_append_right (by omega), hasl, Nat.sub_self] at ha
          unfold vRows at hz
          rw [List.map_append, List.getElem?_append_right (by rw [List.length_map]; omega), List.length_map, hrl, Nat.sub_self] at hz
          cases ha
          cases hz
          rw [upd_ne nlD.symm]
          exact hl3
    · rcases List.mem_append.mp ha with h | h
      · exact has a h
      · rw [List.mem_singleton.mp h]; exact hln0
    · have := fr1.trans fr3
      exact ⟨fun b o e n1 n2 n3 => by rw [upd_ne (ne_of_none e hD)]; exact this.1 b o e n1 n2 n3, this.2.trans (keep_upd hLL3.lst rfl)⟩
  · rintro H1 ⟨as, rows, L', rs', hrl, heach, hp, hM1, hLL, has, hL1, fr1⟩
    exact kq D as rows L' rs' H1 hrl heach hp hM1 hLL hD has fr1
end Tb
end
section
set_option Elab.async false
set_option linter.all false
set_option maxRecDepth 100000
set_option maxHeartbeats 4000000
/-! The law: _law_chains. -/
namespace Tb
open PySem PySem.Spec PyProof.Rows L2
abbrev sChains : Stmt := top 44
theorem RowsOk.uniq {n many long : Nat} {rows : List (List Nat)} (R : RowsOk n many long rows) {i i' j j' x : Nat} {r r' : List Nat} (h1 : rows[i]? = some r) (h2 : r[j]? = some x) (h3 : rows[i']? = some r') (h4 : r'[j']? = some x) : i = i' ∧ j = j' := by
  have hnd : rows.flatten.Nodup := R.perm.nodup_iff.mpr List.nodup_range
  obtain ⟨n1, n2⟩ := List.pairwise_flatten.mp hnd
  have hi := (List.getElem?_eq_some_iff.mp h1)
  have hi' := (List.getElem?_eq_some_iff.mp h3)
  obtain ⟨l1, e1⟩ := hi
  obtain ⟨l2, e2⟩ := hi'
  have ei : i = i' := by
    rcases Nat.lt_trichotomy i i' with h | h | h
    · exfalso
      have := List.pairwise_iff_getElem.mp n2 i i' l1 l2 h
      exact this x (by rw [e1]; exact List.mem_of_getElem? h2) x (by rw [e2]; exact List.mem_of_getElem? h4) rfl
    · exact h
    · exfalso
      have := List.pairwise_iff_getElem.mp n2 i' i l2 l1 h
      exact this x (by rw [e2]; exact List.mem_of_getElem? h4) x (by rw [e1]; exact List.mem_of_getElem? h2) rfl
  subst ei
  rw [h1] at h3
  cases h3
  refine ⟨rfl, ?_⟩
  have hr := n1 r (List.mem_of_getElem? h1)
  obtain ⟨m1, f1⟩ := List.getElem?_eq_some_iff.mp h2
  obtain ⟨m2, f2⟩ := List.getElem?_eq_some_iff.mp h4
  rcases Nat.lt_trichotomy j j' with h | h | h
  · exact absurd (f1.trans f2.symm) (List.pairwise_iff_getElem.mp hr j j' m1 m2 h)
  · exact h
  · exact absurd (f2.trans f1.symm) (List.pairwise_iff_getElem.mp hr j' j m2 m1 h)
/-- what is laid so far -/
structure Laid (n many : Nat) (rows : List (List Nat)) (i j : Nat) (W : Web) (M : List Nat) : Prop where
  wl : W.length = n
  ml : M.length = n
  r8 : ∀ row, row ∈ W → row.length ≤ 8 ∧ ∀ t, some t ∈ row → t < n
  mks : ∀ m, m ∈ M → m ≤ many
  done : ∀ (i' j' : Nat) r x, (i' < i ∨ (i' = i ∧ j' < j)) → rows[i']? = some r → r[j']? = some x → markAt M x = i' + 1 ∧ ∀ y, r[j' + 1]? = some y → some y ∈ rowAt W x
theorem mark_set {M : List Nat} {x y v : Nat} (h : x < M.length) : markAt (M.set x v) y = if x = y then v else markAt M y := by
  unfold markAt
  rw [List.getD_eq_getElem?_getD, List.getD_eq_getElem?_getD, List.getElem?_set]
  by_cases e : x = y
  · subst e
    rw [if_pos rfl, if_pos h, if_pos rfl]
    rfl
  · rw [if_neg e, if_neg e]
theorem rowAt_set {W : Web} {x y : Nat} {v : Row} (h : x < W.length) : rowAt (W.set x v) y = if x = y then v else rowAt W y := by
  unfold rowAt
  rw [List.getD_eq_getElem?_getD, List.getD_eq_getElem?_getD, List.getElem?_set]
  by_cases e : x = y
  · subst e
    rw [if_pos rfl, if_pos h, if_pos rfl]
    rfl
  · rw [if_neg e, if_neg e]
theorem Laid.step {n many long : Nat} {rows : List (List Nat)} {i j x : Nat} {W : Web} {M : List Nat} {r : List Nat} {tl : Row} (L : Laid n many rows i j W M) (R : RowsOk n many long rows) (hi : rows[i]? = some r) (hj : r[j]? = some x) (h8 : tl.length ≤ 8) (hlt : ∀ t, some t ∈ tl → t < n) (hnx : ∀ y, r[j + 1]? = some y → some y ∈ tl) :
    Laid n many rows i (j + 1) (W.set x tl) (M.set x (i + 1)) := by
  have hx : x < n := R.lt (List.mem_of_getElem? hi) (List.mem_of_getElem? hj)
  have him : i < many := by rw [← R.len]; exact (List.getElem?_eq_some_iff.mp hi).1
  refine ⟨by rw [List.length_set]; exact L.wl, by rw [List.length_set]; exact L.ml, fun row hrow => ?_, fun m hm => ?_, fun i' j' r' y h hi' hj' => ?_⟩
  · rcases List.mem_or_eq_of_mem_set hrow with h | h
    · exact L.r8 row h
    · rw [h]; exact ⟨h8, hlt⟩
  · rcases List.mem_or_eq_of_mem_set hm with h | h
    · exact L.mks m h
    · omega
  · rw [mark_set (by rw [L.ml]; exact hx), rowAt_set (by rw [L.wl]; exact hx)]
    by_cases e : x = y
    · subst e
      obtain ⟨e1, e2⟩ := R.uniq hi hj hi' hj'
      subst e1 e2
      rw [hi] at hi'
      cases hi'
      rw [if_pos rfl, if_pos rfl]
      exact ⟨rfl, hnx⟩
    · rw [if_neg e, if_neg e]
      refine L.done i' j' r' y ?_ hi' hj'
      rcases h with h | ⟨h1, h2⟩
      · exact .inl h
      · subst h1
        rcases Nat.lt_or_ge j' j with h | h
        · exact .inr ⟨rfl, h⟩
        · exfalso
          have ej : j' = j := by omega
          subst ej
          rw [hi] at hi'
          cases hi'
          rw [hj] at hj'
          cases hj'
          exact e rfl
theorem Laid.next {n many long : Nat} {rows : List (List Nat)} {i : Nat} {W : Web} {M : List Nat} (L : Laid n many rows i long W M) (R : RowsOk n many long rows) : Laid n many rows (i + 1) 0 W M :=
  ⟨L.wl, L.ml, L.r8, L.mks, fun i' j' r x h h1 h2 => by
    refine L.done i' j' r x ?_ h1 h2
    rcases h with h | ⟨_, h⟩
    · rcases Nat.lt_or_ge i' i with h' | h'
      · exact .inl h'
      · refine .inr ⟨by omega, ?_⟩
        have := (List.getElem?_eq_some_iff.mp h2).1
        rw [R.each r (List.mem_of_getElem? h1)] at this
        exact this
    · omega⟩
theorem Laid.start {n many : Nat} {rows : List (List Nat)} : Laid n many rows 0 0 (List.replicate n []) (List.replicate n 0) :=
  ⟨by simp, by simp, fun row h => by rw [(List.mem_replicate.mp h).2]; simp, fun m h => by rw [(List.mem_replicate.mp h).2]; omega, fun i' j' r x h => by omega⟩
theorem rgV_nats (n : Nat) : rgV 0 (n : Int) = (List.range n).map vNat := by
  unfold rgV
  rw [Int.sub_zero, Int.toNat_natCast]
  apply List.map_congr_left
  intro i _
  show V.int _ = V.int _
  congr 1
  omega
theorem cutV_one (xs : List V) (a : Nat) : cutV xs (some ((a : Int) + 1)) (some ((a : Int) + 2)) = (xs.drop (a + 1)).take 1 := by
  have e1 : ((a : Int) + 1) = ((a + 1 : Nat) : Int) := by omega
  have e2 : ((a : Int) + 2) = ((a + 2 : Nat) : Int) := by omega
  rw [e1, e2]
  unfold cutV
  rw [HT.sIx_nat, HT.sIx_nat]
  rcases Nat.lt_or_ge (a + 1) xs.length with h | h
  · rw [Nat.min_eq_left (by omega), Nat.min_eq_left (by omega)]
    congr 1
    omega
  · rw [Nat.min_eq_right (by omega), Nat.min_eq_right (by omega), Nat.sub_self, List.take_zero, List.drop_of_length_le h]
    rfl
theorem cutV_drop (xs : List V) (a : Nat) : cutV xs (some (a : Int)) none = xs.drop a := by
  unfold cutV
  rw [HT.sIx_nat, HT.sIx_none]
  rcases Nat.lt_or_ge a xs.length with h | h
  · rw [Nat.min_eq_left (by omega), List.take_of_length_le (by rw [List.length_drop]; omega)]
  · rw [Nat.min_eq_right h, Nat.sub_self, List.take_zero, List.drop_of_length_le h]
theorem cutV_take1 (xs : List V) (n : Nat) : cutV xs none (some ((n : Int) + 1)) = xs.take (n + 1) := cutV_take xs (n + 1)
/-- all but the drawing's own and two lists is as it was -/
def FrW (K : PySem.W.Frag) (H H' : Hp) (m rl wb mk : Addr) : Prop := (∀ b o, H b = some o → b ≠ m → b ≠ rl → b ≠ wb → b ≠ mk → H' b = some o) ∧ Keep K H H'
theorem FrW.refl {K : PySem.W.Frag} (H : Hp) (m rl wb mk : Addr) : FrW K H H m rl wb mk := ⟨fun _ _ e _ _ _ _ => e, Keep.refl H⟩
theorem FrW.trans {K : PySem.W.Frag} {H H1 H2 : Hp} {m rl wb mk : Addr} (a : FrW K H H1 m rl wb mk) (b : FrW K H1 H2 m rl wb mk) : FrW K H H2 m rl wb mk := ⟨fun x o e n1 n2 n3 n4 => b.1 x o (a.1 x o e n1 n2 n3 n4) n1 n2 n3 n4, a.2.trans b.2⟩
theorem FrW.of {K : PySem.W.Frag} {H H1 : Hp} {m rl wb mk : Addr} (a : Same H H1) : FrW K H H1 m rl wb mk := ⟨fun x o e _ _ _ _ => a x o e, keep_same a⟩
theorem FrW.ofM {K : PySem.W.Frag} {H H1 : Hp} {m rl wb mk : Addr} (a : FrM K H H1 m rl) : FrW K H H1 m rl wb mk := ⟨fun x o e n1 n2 _ _ => a.1 x o e n1 n2, a.2⟩
theorem gname_ {i : Nat} {v : V} {σ : L2.St} {H : Hp} {Q : L2.St → Hp → Prop} (h : Q (σ.set i (some v)) H) : gName i v σ H Q := h
theorem asg_te {te : TE} {ts : TS} {D : Ends} {g : TG} {σ : L2.St} {H : Hp} (h : te σ H fun v H1 => g v σ H1 (ts D)) : tSeq (tAsg te g) ts D σ H := h
theorem FrW.upd {K : PySem.W.Frag} {H H' : Hp} {m rl wb mk a : Addr} {o p : HO} (h : FrW K H H' m rl wb mk) (ha : a = wb ∨ a = mk) (e : H' a = some o) (hn : noTup o = true) : FrW K H (L2.upd H' a p) m rl wb mk :=
  ⟨fun b ob hb n1 n2 n3 n4 => by
    have : b ≠ a := by
      rcases ha with rfl | rfl
      · exact n3
      · exact n4
    rw [upd_ne this]
    exact h.1 b ob hb n1 n2 n3 n4, h.2.trans (keep_upd e hn)⟩
theorem get_map' {rows : List (List Nat)} {i : Nat} {row : List Nat} (h : rows[i]? = some row) : (vRows rows)[i]? = some (row.map vNat) := by
  unfold vRows
  rw [List.getElem?_map, h]
  rfl
theorem mem_nat {xs : List Nat} {n : Nat} (h : ∀ y, y ∈ xs → y < n) {x : V} (hx : x ∈ xs.map vNat) : ∃ t : Option Nat, x = vTie t ∧ ∀ y, t = some y → y < n := by
  obtain ⟨y, hy, rfl⟩ := List.mem_map.mp hx
  exact ⟨some y, rfl, fun z e => by cases e; exact h y hy⟩
section
variable {P : Program} {w : World} {K : PySem.W.Frag} {mg : Str → Option Value} {base : Heap}
abbrev nChains : List Str := ["_law_m", "_law_many", "_law_long", "_law_left", "_law_rows", "_law_web", "_law_marks", "_law_walker", "_law_row", "_law_at", "_law_node", "_law_ties", "_law_turn", "_law_other", "_law_tie", "_law_place"]
theorem scChains : FnScope nChains ["_law_m"] (defScope sChains) := ⟨rfl, rfl, rfl, by decide +kernel, rfl, by decide +kernel, by decide +kernel⟩
def spChains (K : PySem.W.Frag) : Sp := fun vs H Q _ => ∃ H0 m sa rl k ns rs, vs = [.ref m] ∧ MD K H0 H m sa rl k ns rs ∧ k + 400 < 2 ^ 40 ∧
  ∀ k' rs' H' t w mv r W M roots, k' ≤ k + 400 → MD K H0 H' m sa rl k' ns rs' → FrM K H H' m rl → H' t = some (.tup [w, mv, r]) → Tp K H' w (dWeb W) → Tp K H' mv (dNats M) → Tp K H' r (dNats roots) → RightIn W M roots true → Q (.ref t) H'
theorem ok_chains {f fdr fo : Addr} {fd fdd fdo : FuncData} (F : Fun K "_law_chains" "_law_chains" sChains f fd) (T : Bt mg)
    (Gd : FnOk P w K mg base CX0 1 fdr fdd ["_law_m", "_law_many"] (spDraw K)) (Dd : Dn K mg "_law_draw" fdr fdd ["_law_m", "_law_many"])
    (Go : FnOk P w K mg base CX0 2 fo fdo ["_law_m", "_law_some"] (spOf K)) (Do : Dn K mg "_law_of" fo fdo ["_law_m", "_law_some"]) : FnOk P w K mg base CX0 3 f fd ["_law_m"] (spChains K) := by
  refine F.ok scChains (fun vs H Q E h => ?_) (fun cdv A outer s H vs Q E hr h => ?_)
  · obtain ⟨H0, m, sa, rl, k, ns, rs, rfl, _⟩ := h
    rfl
  · obtain ⟨H0, m, sa, rl, k, ns, rs, rfl, hM, hk, kq⟩ := h
    refine ⟨_, (pss_cons (ps_asg (pe_tup (pa_cons (pe_op op_add pe_int (pe_call Gd (hr.mono (by decide : 1 ≤ 2)) (by rfl) Dd.mgf Dd.kp Dd.b .nil pass0 (pa_cons (pv 0) (pa_cons pe_int pa_nil)))) (pa_cons (pe_op op_add pe_int (pe_call Gd (hr.mono (by decide : 1 ≤ 2)) (by rfl) Dd.mgf Dd.kp Dd.b .nil pass0 (pa_cons (pv 0) (pa_cons pe_int pa_nil)))) pa_nil))) (pg_tup rfl (pgs_cons (pg_name (i := 1) scChains.nd rfl (Or.inl rfl)) (pgs_cons (pg_name (i := 2) scChains.nd rfl (Or.inr rfl)) pgs_nil))))
      (pss_cons (ps_set (i := 3) scChains.nd rfl (Or.inr rfl) (pe_listRg rfl (by rfl) T.list (prg_1 (by rfl) T.range (pe_op op_mul (pv 1) (pv 2)))))
      (pss_cons (ps_setLc (i := 4) (own := [("_law_walker", 7)]) (g := (gName 7)) (tt := tYes) rfl scChains.nd rfl rfl (sw_true rfl rfl rfl (by decide +kernel)) (pi_range1 rfl T.range (pa_cons (pv 1) pa_nil)) (blkOk_by (N := nChains) (sc := defScope sChains) (by decide +kernel)) (fun _ _ _ _ _ => (pg_name (i := 7) scChains.nd rfl (Or.inl rfl))) (fun _ _ _ _ _ => pts_nil) (fun _ _ _ _ _ => (pe_lc (own := [("_law_at", 9)]) (g := (gName 9)) (tt := tYes) rfl scChains.nd (pi_range1 rfl T.range (pa_cons (pv 2) pa_nil)) (blkOk_by (N := nChains) (sc := scRowsC) (by decide +kernel)) (fun _ _ _ _ _ => (pg_name (i := 9) scChains.nd rfl (Or.inl rfl))) (fun _ _ _ _ _ => pts_nil) (fun _ _ _ _ _ => (pe_bmK K PySem.F.plainAttrs_list PySem.F.slot_list_pop PySem.F.type_list_pop mt_popAt (pv 3) (pa_cons (pe_call Gd (hr.mono (by decide : 1 ≤ 2)) (by rfl) Dd.mgf Dd.kp Dd.b .nil pass0 (pa_cons (pv 0) (pa_cons (pe_callB (call_lenLK K) (by rfl) T.len PySem.boot_len (pa_cons (pv 3) pa_nil)) pa_nil))) pa_nil))))))
      (pss_cons (ps_set (i := 5) scChains.nd rfl (Or.inl rfl) (pe_op op_rep (pe_lst (pa_cons (pe_tup pa_nil) pa_nil)) (pe_op op_mul (pv 1) (pv 2))))
      (pss_cons (ps_set (i := 6) scChains.nd rfl (Or.inl rfl) (pe_op op_rep (pe_lst (pa_cons pe_int pa_nil)) (pe_op op_mul (pv 1) (pv 2))))
      (pss_cons (ps_for PassesOwn.never rfl (pi_enum (by rfl) T.enumerate (pa_cons (pv 4) pa_nil)) (pg_tup rfl (pgs_cons (pg_name (i := 7) scChains.nd rfl (Or.inl rfl)) (pgs_cons (pg_name (i := 8) scChains.nd rfl (Or.inl rfl)) pgs_nil))) (pss_one (ps_for PassesOwn.never rfl (pi_enum (by rfl) T.enumerate (pa_cons (pv 8) pa_nil)) (pg_tup rfl (pgs_cons (pg_name (i := 9) scChains.nd rfl (Or.inl rfl)) (pgs_cons (pg_name (i := 10) scChains.nd rfl (Or.inl rfl)) pgs_nil))) (pss_cons (ps_asg (pe_op op_add (pv 7) pe_int) (pg_sub (pv 6) (pv 10) set_list))
      (pss_cons (ps_set (i := 11) scChains.nd rfl (Or.inl rfl) (pe_slice sl_list (pv 8) (po_some (pe_op op_add (pv 9) pe_int)) (po_some (pe_op op_add (pv 9) pe_int))))
      (pss_cons (ps_for PassesOwn.never rfl (pi_range1 rfl T.range (pa_cons (pe_call Gd (hr.mono (by decide : 1 ≤ 2)) (by rfl) Dd.mgf Dd.kp Dd.b .nil pass0 (pa_cons (pv 0) (pa_cons pe_int pa_nil))) pa_nil)) (pg_name (i := 12) scChains.nd rfl (Or.inl rfl)) (pss_cons (ps_set (i := 13) scChains.nd rfl (Or.inl rfl) (pe_ix ix_list (pv 4) (pe_op op_mod (pe_op op_add (pe_op op_add (pv 7) pe_int) (pe_call Gd (hr.mono (by decide : 1 ≤ 2)) (by rfl) Dd.mgf Dd.kp Dd.b .nil pass0 (pa_cons (pv 0) (pa_cons (pe_op op_sub (pv 1) pe_int) pa_nil)))) (pv 1)) (fun _ _ => rfl)))
      (pss_cons (ps_set (i := 14) scChains.nd rfl (Or.inl rfl) (pe_call Go hr (by rfl) Do.mgf Do.kp Do.b .nil pass0 (pa_cons (pv 0) (pa_cons (pe_lst (pa_cons (pe_call Go hr (by rfl) Do.mgf Do.kp Do.b .nil pass0 (pa_cons (pv 0) (pa_cons (pv 13) pa_nil))) (pa_cons (pe_call Go hr (by rfl) Do.mgf Do.kp Do.b .nil pass0 (pa_cons (pv 0) (pa_cons (pv 13) pa_nil))) (pa_cons pe_non (pa_cons (pe_call Go hr (by rfl) Do.mgf Do.kp Do.b .nil pass0 (pa_cons (pv 0) (pa_cons (pe_slice sl_list (pv 8) po_none (po_some (pe_op op_add (pv 9) pe_int))) pa_nil))) pa_nil))))) pa_nil))))
      (pss_cons (ps_set (i := 15) scChains.nd rfl (Or.inl rfl) (pe_call Gd (hr.mono (by decide : 1 ≤ 2)) (by rfl) Dd.mgf Dd.kp Dd.b .nil pass0 (pa_cons (pv 0) (pa_cons (pe_op op_add (pe_callB call_len_seq (by rfl) T.len PySem.boot_len (pa_cons (pv 11) pa_nil)) pe_int) pa_nil))))
      (pss_one (ps_set (i := 11) scChains.nd rfl (Or.inl rfl) (pe_op op_cat (pe_op op_cat (pe_slice sl_list (pv 11) po_none (po_some (pv 15))) (pe_lst (pa_cons (pv 14) pa_nil))) (pe_slice sl_list (pv 11) (po_some (pv 15)) po_none))))))))
      (pss_one (ps_asg (pe_callTy (call_tupD K) (by rfl) T.tuple (by decide +kernel) (pa_cons (pv 11) pa_nil)) (pg_sub (pv 5) (pv 10) set_list)))))))))
      (pss_one (ps_ret (pe_tup (pa_cons (pe_callTy (call_tupD K) (by rfl) T.tuple (by decide +kernel) (pa_cons (pv 5) pa_nil)) (pa_cons (pe_callTy (call_tupD K) (by rfl) T.tuple (by decide +kernel) (pa_cons (pv 6) pa_nil)) (pa_cons (pe_callTy (call_tupD K) (by rfl) T.tuple (by decide +kernel) (pa_cons (pe_lc (own := [("_law_row", 8)]) (g := (gName 8)) (tt := tYes) rfl scChains.nd (pi_list (pv 4)) (blkOk_by (N := nChains) (sc := defScope sChains) (by decide +kernel)) (fun _ _ _ _ _ => (pg_name (i := 8) scChains.nd rfl (Or.inl rfl))) (fun _ _ _ _ _ => pts_nil) (fun _ _ _ _ _ => (pe_ix (ix_listK K) (pv 8) pe_int (fun _ _ => rfl)))) pa_nil)) pa_nil)))))))))))), ?_⟩
    -- many, long
    refine ⟨_, rfl, H0, m, sa, rl, k, ns, rs, 3, rfl, hM, by decide, by decide, by omega, fun r1 rs1 H1 hr1 hM1 fr1 => ⟨_, _, rfl, rfl, _, rfl, H0, m, sa, rl, k + 1, ns, rs1, 3, rfl, hM1, by decide, by decide, by omega, fun r2 rs2 H2 hr2 hM2 fr2 => ⟨_, _, rfl, rfl, (by show 2 ≤ sizeLine; decide), fun t ht => ?_⟩⟩⟩
    refine ⟨t, [vNat (2 + r1), vNat (2 + r2)], rfl, SqT.of upd_same, rfl, _, _, rfl, _, _, rfl, rfl, ?_⟩
    have hM3 := hM2.keep (same_new (o := .tup [vNat (2 + r1), vNat (2 + r2)]) ht)
    have fr3 : FrM K H (upd H2 t (.tup [vNat (2 + r1), vNat (2 + r2)])) m rl := (fr1.trans fr2).trans (.of (same_new ht))
    have e3 : (upd H2 t (.tup [(fun i j => V.int (i + j)) 2 (r1 : Int), (fun i j => V.int (i + j)) 2 (r2 : Int)])) = upd H2 t (.tup [vNat (2 + r1), vNat (2 + r2)]) := rfl
    rw [e3]
    generalize upd H2 t (.tup [vNat (2 + r1), vNat (2 + r2)]) = H3 at *
    have hm4 : 2 + r1 ≤ 4 := by omega
    have hl4 : 2 + r2 ≤ 4 := by omega
    have hm2 : 2 ≤ 2 + r1 := by omega
    have hl2 : 2 ≤ 2 + r2 := by omega
    generalize 2 + r1 = many at *
    generalize 2 + r2 = long at *
    have hn : many * long ≤ 16 := Nat.le_trans (Nat.mul_le_mul hm4 hl4) (by decide)
    have hn2 : 4 ≤ many * long := Nat.le_trans (by decide) (Nat.mul_le_mul hm2 hl2)
    have eN : V.int ((many : Int) * (long : Int)) = vNat (many * long) := rfl
    have eNn : ((many : Int) * (long : Int)).toNat = many * long := by
      rw [← Int.natCast_mul, Int.toNat_natCast]
    have cm : CMul (many : Int) (long : Int) := .inl ⟨by omega, by omega⟩
    -- left
    refine ⟨_, rfl, _, rfl, _, _, rfl, rfl, cm, ((many * long : Nat) : Int), rfl, .of_le (by omega) (by omega) (by omega) (by omega), fun left hleft => ?_⟩
    rw [rgV_nats]
    have hlr : left ≠ rl := (ne_of_none hM3.r hleft).symm
    have hl0 : H0 left = none := hM3.same.free hleft
    have hM4 := hM3.keep (same_new (o := .lst ((List.range (many * long)).map vNat)) hleft)
    have hL4 : (upd H3 left (.lst ((List.range (many * long)).map vNat))) left = some (.lst ((List.range (many * long)).map vNat)) := upd_same
    have fr4 : FrM K H (upd H3 left (.lst ((List.range (many * long)).map vNat))) m rl := fr3.trans (.of (same_new hleft))
    have hlH : H left = none := by
      cases hb : H left with
      | none => rfl
      | some o =>
        have := fr3.1 left o hb (fun z => by obtain ⟨kvs, hd, _⟩ := hM3.d; rw [← z, hleft] at hd; cases hd) hlr
        rw [hleft] at this
        cases this
    generalize upd H3 left (.lst ((List.range (many * long)).map vNat)) = H4 at *
    -- rows
    refine gname_ ?_
    dsimp only
    refine asg_te ?_
    refine rows_made (many := many) (long := long) (im := 0) (il := 3) (iL := 2) (ja := 9) (jw := 7) (left := left) (fun R h => ⟨_, rfl, (many : Int), rfl, by omega, by omega, by rw [Int.toNat_natCast]; exact h⟩) (fun _ => rfl) (fun _ _ => rfl) (fun _ _ => rfl) (fun _ _ => rfl) (fun _ => rfl) hM4 hL4 hlr hl0 (by rw [List.length_range]) (by omega) (by rw [List.length_range]; omega) (by omega) fun l as rows L' rs5 H5 hrl heach hp hM5 hLL hl5 has fr5 => ?_
    have hRows : RowsOk (many * long) many long rows := ⟨hrl, heach, by
      have hpl := hp.length_eq
      have hfl : rows.flatten.length = many * long := by
        rw [← hrl]
        clear hrl hp hLL hpl
        induction rows with
        | nil => simp
        | cons r rows ih =>
          rw [List.flatten_cons, List.length_append, heach r (by simp), ih fun q hq => heach q (by simp [hq]), List.length_cons, Nat.add_mul]
          omega
      rw [List.length_append, hfl, List.length_range] at hpl
      have : L' = [] := List.length_eq_zero_iff.mp (by omega)
      rw [this, List.append_nil] at hp
      exact hp⟩
    have hlst5 : H5 l = some (.lst (as.map V.ref)) := hLL.lst
    have hasl : as.length = many := by rw [hLL.len]; simp [hrl]
    have fr5' : ∀ b o, H b = some o → b ≠ m → b ≠ rl → H5 b = some o := fun b o e n1 n2 => fr5.1 b o (fr4.1 b o e n1 n2) n1 n2 fun z => by rw [z, hlH] at e; cases e
    have k5 : Keep K H H5 := fr4.2.trans fr5.2
    have frs : FrM K H H5 m rl := ⟨fr5', k5⟩
    -- web
    refine ⟨Nat.zero_le _, fun t0 ht0 => ⟨(by show 1 ≤ sizeLine; decide), fun c1 hc1 => ⟨_, rfl, _, rfl, _, _, rfl, rfl, cm, c1, _, _, rfl, rfl, upd_same, by omega, by omega, ?_, fun wb hwb => ?_⟩⟩⟩
    · rw [eNn]
      exact Nat.le_trans (show [V.ref t0].length * (many * long) ≤ 1000 by simp; omega) (by decide)
    rw [eNn, flat_rep]
    have s6 : Same H5 (upd (upd (upd H5 t0 (.tup [])) c1 (.lst [V.ref t0])) wb (.lst (List.replicate (many * long) (V.ref t0)))) := ((same_new ht0).trans (same_new hc1)).trans (same_new hwb)
    have hwb6 : (upd (upd (upd H5 t0 (.tup [])) c1 (.lst [V.ref t0])) wb (.lst (List.replicate (many * long) (V.ref t0)))) wb = some (.lst (List.replicate (many * long) (V.ref t0))) := upd_same
    have hwv6 : TpAll K (upd (upd (upd H5 t0 (.tup [])) c1 (.lst [V.ref t0])) wb (.lst (List.replicate (many * long) (V.ref t0)))) (List.replicate (many * long) (V.ref t0)) ((List.replicate (many * long) ([] : Row)).map dRow) := by
      have h0 : Tp K (upd (upd (upd H5 t0 (.tup [])) c1 (.lst [V.ref t0])) wb (.lst (List.replicate (many * long) (V.ref t0)))) (.ref t0) (dRow []) := ((tp_nil (K := K) (H := H5) (t := t0)).mono (keep_new hc1)).mono (keep_new hwb)
      refine ⟨by simp, fun i v d hv hd => ?_⟩
      rw [List.getElem?_replicate] at hv
      rw [List.getElem?_map, List.getElem?_replicate] at hd
      split at hv
      · rename_i hh
        rw [if_pos hh] at hd
        cases hv
        cases hd
        exact h0
      · cases hv
    have hwb5 : H5 wb = none := ((same_new (o := .tup []) ht0).trans (same_new (o := .lst [V.ref t0]) hc1)).free hwb
    generalize upd (upd (upd H5 t0 (.tup [])) c1 (.lst [V.ref t0])) wb (.lst (List.replicate (many * long) (V.ref t0))) = H6 at *
    -- marks
    refine ⟨(by show 1 ≤ sizeLine; decide), fun c2 hc2 => ⟨_, rfl, _, rfl, _, _, rfl, rfl, cm, c2, _, _, rfl, rfl, upd_same, by omega, by omega, ?_, fun mk hmk => ?_⟩⟩
    · rw [eNn]
      exact Nat.le_trans (show [V.int 0].length * (many * long) ≤ 1000 by simp; omega) (by decide)
    rw [eNn, flat_rep]
    have s7 : Same H6 (upd (upd H6 c2 (.lst [V.int 0])) mk (.lst (List.replicate (many * long) (V.int 0)))) := (same_new hc2).trans (same_new hmk)
    have hmk7 : (upd (upd H6 c2 (.lst [V.int 0])) mk (.lst (List.replicate (many * long) (V.int 0)))) mk = some (.lst ((List.replicate (many * long) 0).map vNat)) := by
      rw [upd_same, List.map_replicate]
      rfl
    have hmk6 : H6 mk = none := (same_new (o := .lst [V.int 0]) hc2).free hmk
    generalize upd (upd H6 c2 (.lst [V.int 0])) mk (.lst (List.replicate (many * long) (V.int 0))) = H7 at *
    have hwb7 := s7 _ _ hwb6
    have hwv7 := hwv6.mono (keep_same s7)
    have s57 := s6.trans s7
    have hM7 := hM5.keep s57
    have hLL7 := hLL.same s57
    have fr7 : FrM K H H7 m rl := frs.trans (.of s57)
    have hmk5 : H5 mk = none := s6.free hmk6
    have hwbH : H wb = none := by
      cases hb : H wb with
      | none => rfl
      | some o =>
        have := frs.1 wb o hb (fun z => by obtain ⟨kvs, hd, _⟩ := hM5.d; rw [← z, hwb5] at hd; cases hd) (fun z => by have := hM5.r; rw [← z, hwb5] at this; cases this)
        rw [hwb5] at this
        cases this
    have hmkH : H mk = none := by
      cases hb : H mk with
      | none => rfl
      | some o =>
        have := frs.1 mk o hb (fun z => by obtain ⟨kvs, hd, _⟩ := hM5.d; rw [← z, hmk5] at hd; cases hd) (fun z => by have := hM5.r; rw [← z, hmk5] at this; cases this)
        rw [hmk5] at this
        cases this
    have nwr : wb ≠ rl := fun z => by have := hM5.r; rw [← z, hwb5] at this; cases this
    have nmr : mk ≠ rl := fun z => by have := hM5.r; rw [← z, hmk5] at this; cases this
    have nwm : wb ≠ mk := ne_of_none hwb6 hmk6
    have w00 : H0 wb = none := hM5.same.free hwb5
    have m00 : H0 mk = none := hM5.same.free hmk5
    have hLout : ∀ b, b = l ∨ b ∈ as → b ≠ m ∧ b ≠ rl ∧ b ≠ wb ∧ b ≠ mk := fun b hb => by
      have h4 : H4 b = none := by
        rcases hb with rfl | hb
        · exact hl5
        · exact has b hb
      have h5 : ∃ xs, H5 b = some (.lst xs) := by
        rcases hb with rfl | hb
        · exact ⟨_, hlst5⟩
        · obtain ⟨n, hn⟩ := List.mem_iff_getElem?.mp hb
          have hnl := (List.getElem?_eq_some_iff.mp hn).1
          exact ⟨_, hLL.at_ n _ _ hn (List.getElem?_eq_getElem (by rw [← hLL.len]; exact hnl))⟩
      obtain ⟨xs, h5⟩ := h5
      exact ⟨hM5.ne_lst h5, (fun z => by have := hM4.r; rw [← z, h4] at this; cases this), ne_of_none h5 hwb5, ne_of_none h5 hmk5⟩
    have keepL : ∀ {H' : Hp}, FrW K H7 H' m rl wb mk → LL2 H' l as (vRows rows) := fun {H'} f => hLL7.keep fun b o hb e => by
      obtain ⟨g1, g2, g3, g4⟩ := hLout b hb
      exact f.1 b o e g1 g2 g3 g4
    have hk7 : k + 1 + 1 + many * long ≤ k + 18 := by omega
    generalize k + 1 + 1 + many * long = k7 at *
    -- the walkers
    refine ⟨_, rfl, l, _, rfl, SqL.of hLL7.lst, ?_⟩
    refine for_it (walk_enum (K := K) (a := l) (xs := as.map V.ref)) (fun i σ H' => ∃ y7 y8 y9 y10 y11 y12 y13 y14 y15 k' rs' Wc Mc wvs, σ = [some (.ref m), some (vNat many), some (vNat long), some (.ref left), some (.ref l), some (.ref wb), some (.ref mk), y7, y8, y9, y10, y11, y12, y13, y14, y15] ∧ k' ≤ k7 + 80 * i ∧ MD K H0 H' m sa rl k' ns rs' ∧ FrW K H7 H' m rl wb mk ∧
        H' wb = some (.lst wvs) ∧ TpAll K H' wvs (Wc.map dRow) ∧ H' mk = some (.lst (Mc.map vNat)) ∧ Laid (many * long) many rows i 0 Wc Mc)
      ⟨_, _, _, _, _, _, _, _, _, k7, rs5, _, _, _, rfl, Nat.le_refl _, hM7, .refl _ _ _ _ _, hwb7, hwv7, hmk7, .start⟩ (fun i σ H' _ q => by obtain ⟨_, _, _, _, _, _, _, _, _, _, _, _, _, _, _, _, _, f, _⟩ := q; exact SqL.of (keepL f).lst) ?_ ?_
    · rintro i x σ H8 H8' hi ⟨y7, y8, y9, y10, y11, y12, y13, y14, y15, k', rs', Wc, Mc, wvs, rfl, hk', hM8, fr8, hwb8, hwv8, hmk8, hlaid⟩ ⟨T1, xv, yv, rfl, hT1, rfl, hxv, hyv⟩
      cases hxv
      obtain ⟨ra, hra, rfl⟩ := map_get hyv
      rw [List.length_map, hasl] at hi
      obtain ⟨row, hrow⟩ : ∃ row, rows[i]? = some row := ⟨rows[i]'(by omega), List.getElem?_eq_getElem _⟩
      have hrowl : row.length = long := heach row (List.mem_of_getElem? hrow)
      have hraAt : ∀ {H' : Hp}, FrW K H7 H' m rl wb mk → H' ra = some (.lst (row.map vNat)) := fun {H'} f => (keepL f).at_ i ra _ hra (get_map' hrow)
      have nrr : ra ≠ rl := (hLout ra (.inr (List.mem_of_getElem? hra))).2.1
      refine ⟨T1, _, rfl, SqT.of upd_same, rfl, _, _, rfl, _, _, rfl, rfl, ?_⟩
      have sT := same_new (o := .tup [.int (i : Nat), V.ref ra]) hT1
      have hMb := hM8.keep sT
      have frb : FrW K H7 (upd H8 T1 (.tup [.int (i : Nat), V.ref ra])) m rl wb mk := fr8.trans (.of sT)
      have hwbb := sT _ _ hwb8
      have hmkb := sT _ _ hmk8
      have hwvb := hwv8.mono (keep_same sT)
      generalize upd H8 T1 (.tup [.int (i : Nat), V.ref ra]) = H9 at *
      refine ⟨_, rfl, ra, _, rfl, SqL.of (hraAt frb), ?_⟩
      refine for_it (walk_enum (K := K) (a := ra) (xs := row.map vNat)) (fun j σ H' => ∃ y9 y10 y11 y12 y13 y14 y15 k2 rs2 Wc Mc wvs, σ = [some (.ref m), some (vNat many), some (vNat long), some (.ref left), some (.ref l), some (.ref wb), some (.ref mk), some (vNat i), some (.ref ra), y9, y10, y11, y12, y13, y14, y15] ∧ k2 ≤ k' + 20 * j ∧ MD K H0 H' m sa rl k2 ns rs2 ∧ FrW K H7 H' m rl wb mk ∧
          H' wb = some (.lst wvs) ∧ TpAll K H' wvs (Wc.map dRow) ∧ H' mk = some (.lst (Mc.map vNat)) ∧ Laid (many * long) many rows i j Wc Mc)
        ⟨_, _, _, _, _, _, _, k', rs', _, _, _, rfl, Nat.le_refl _, hMb, frb, hwbb, hwvb, hmkb, hlaid⟩ (fun i σ H' _ q => by obtain ⟨_, _, _, _, _, _, _, _, _, _, _, _, _, _, _, f, _⟩ := q; exact SqL.of (hraAt f)) ?_ ?_
      · clear hlaid hwbb hmkb hwvb frb hMb hM8 fr8 hwb8 hwv8 hmk8
        rintro j x σ HA HA' hj ⟨y9, y10, y11, y12, y13, y14, y15, k2, rs2, Wc, Mc, wvs, rfl, hk2, hMA, frA, hwbA, hwvA, hmkA, hlaid⟩ ⟨T2, xv, yv, rfl, hT2, rfl, hxv, hyv⟩
        cases hxv
        obtain ⟨node, hnode, rfl⟩ := map_get hyv
        rw [List.length_map, hrowl] at hj
        have hnl : node < many * long := hRows.lt (List.mem_of_getElem? hrow) (List.mem_of_getElem? hnode)
        refine ⟨T2, _, rfl, SqT.of upd_same, rfl, _, _, rfl, _, _, rfl, rfl, ?_⟩
        have sT := same_new (o := .tup [.int (j : Nat), vNat node]) hT2
        have hMB := hMA.keep sT
        have frB : FrW K H7 (upd HA T2 (.tup [.int (j : Nat), vNat node])) m rl wb mk := frA.trans (.of sT)
        have hwbB := sT _ _ hwbA
        have hmkB := sT _ _ hmkA
        have hwvB := hwvA.mono (keep_same sT)
        generalize upd HA T2 (.tup [.int (j : Nat), vNat node]) = HB at *
        -- marks[node] = walker + 1
        refine ⟨_, rfl, _, _, rfl, rfl, _, rfl, _, rfl, mk, _, _, node, rfl, rfl, hmkB, ixN_nat (by rw [List.length_map, hlaid.ml]; exact hnl), ?_⟩
        have ems : (Mc.map vNat).set node (vNat (i + 1)) = (Mc.set node (i + 1)).map vNat := by rw [List.map_set]
        have e0 : (Mc.map vNat).set node ((fun i j => V.int (i + j)) (i : Int) 1) = (Mc.set node (i + 1)).map vNat := ems
        rw [e0]
        have hMC : MD K H0 (upd HB mk (.lst ((Mc.set node (i + 1)).map vNat))) m sa rl k2 ns rs2 := hMB.upd hmkB nmr m00
        have frC : FrW K H7 (upd HB mk (.lst ((Mc.set node (i + 1)).map vNat))) m rl wb mk := frB.upd (.inr rfl) hmkB rfl
        have hmkC : (upd HB mk (.lst ((Mc.set node (i + 1)).map vNat))) mk = some (.lst ((Mc.set node (i + 1)).map vNat)) := upd_same
        have hwbC : (upd HB mk (.lst ((Mc.set node (i + 1)).map vNat))) wb = some (.lst wvs) := by rw [upd_ne nwm]; exact hwbB
        have hwvC : TpAll K (upd HB mk (.lst ((Mc.set node (i + 1)).map vNat))) wvs (Wc.map dRow) := hwvB.mono (keep_upd hmkB rfl)
        generalize upd HB mk (.lst ((Mc.set node (i + 1)).map vNat)) = HC at *
        -- ties
        refine ⟨_, rfl, _, rfl, _, _, rfl, rfl, _, rfl, _, rfl, _, _, rfl, rfl, _, rfl, ra, _, rfl, SqL.of (hraAt frC), fun p hp => ?_⟩
        rw [cutV_one]
        have et0 : ((row.map vNat).drop (j + 1)).take 1 = (((row.drop (j + 1)).take 1).map some).map vTie := by
          rw [← List.map_drop, ← List.map_take, List.map_map]
          rfl
        rw [et0]
        have sp := same_new (o := .lst ((((row.drop (j + 1)).take 1).map some).map vTie)) hp
        have hMD' := hMC.keep sp
        have frD : FrW K H7 (upd HC p (.lst ((((row.drop (j + 1)).take 1).map some).map vTie))) m rl wb mk := frC.trans (.of sp)
        have hpD : (upd HC p (.lst ((((row.drop (j + 1)).take 1).map some).map vTie))) p = some (.lst ((((row.drop (j + 1)).take 1).map some).map vTie)) := upd_same
        have hmkD := sp _ _ hmkC
        have hwbD := sp _ _ hwbC
        have hwvD := hwvC.mono (keep_same sp)
        have nprl : p ≠ rl := fun z => by have := hMC.r; rw [← z, hp] at this; cases this
        generalize upd HC p (.lst ((((row.drop (j + 1)).take 1).map some).map vTie)) = HD at *
        have ht0l : (((row.drop (j + 1)).take 1).map some).length ≤ 1 := by
          rw [List.length_map]
          exact List.length_take_le _ _
        have ht0n : ∀ y, some y ∈ ((row.drop (j + 1)).take 1).map some → y < many * long := fun y hy => by
          obtain ⟨z, hz, e⟩ := List.mem_map.mp hy
          cases e
          exact hRows.lt (List.mem_of_getElem? hrow) (List.mem_of_getElem? (mem_dt.mp hz))
        have ht0x : ∀ y, row[j + 1]? = some y → some y ∈ ((row.drop (j + 1)).take 1).map some := fun y hy => List.mem_map.mpr ⟨y, mem_dt.mpr hy, rfl⟩
        generalize ((row.drop (j + 1)).take 1).map some = tl0 at *
        -- for turn in range(draw(m, 4))
        refine ⟨_, rfl, H0, m, sa, rl, k2, ns, rs2, 4, rfl, hMD', by decide, by decide, by omega, fun r4 rs4 HE hr4 hME frE => ⟨(r4 : Int), rfl, by omega, by omega, ?_⟩⟩
        rw [Int.toNat_natCast]
        have hpE := frE.1 _ _ hpD (hMD'.ne_lst hpD) nprl
        have hmkE := frE.1 _ _ hmkD (hMD'.ne_lst hmkD) nmr
        have hwbE := frE.1 _ _ hwbD (hMD'.ne_lst hwbD) nwr
        have hwvE := hwvD.mono frE.2
        have frE7 : FrW K H7 HE m rl wb mk := frD.trans (.ofM frE)
        refine for_it (walk_range (lo := 0) (n := r4)) (fun t σ H' => ∃ y12 y13 y14 y15 k3 rs3 p tl, σ = [some (.ref m), some (vNat many), some (vNat long), some (.ref left), some (.ref l), some (.ref wb), some (.ref mk), some (vNat i), some (.ref ra), some (vNat j), some (vNat node), some (.ref p), y12, y13, y14, y15] ∧ k3 ≤ k2 + 1 + 6 * t ∧ MD K H0 H' m sa rl k3 ns rs3 ∧ FrM K HE H' m rl ∧
            H' p = some (.lst ((tl : Row).map vTie)) ∧ p ≠ rl ∧ tl.length ≤ 1 + t ∧ (∀ y, some y ∈ tl → y < many * long) ∧ (∀ y, row[j + 1]? = some y → some y ∈ tl))
          ⟨_, _, _, _, k2 + 1, rs4, p, tl0, rfl, Nat.le_refl _, hME, .refl _ _ _ _, hpE, nprl, ht0l, ht0n, ht0x⟩ (fun _ _ _ _ _ => trivial) ?_ ?_
        · clear hpE hpD nprl ht0l ht0n ht0x hp hMD' hMA hMB hMC hME
          rintro t x σ Ha Ha' ht ⟨y12, y13, y14, y15, k3, rs3, p, tl, rfl, hk3, hMa, fra, hpa, hprl, htl, htlt, hnx⟩ ⟨rfl, hx⟩
          have keepM : ∀ {H' : Hp}, FrM K HE H' m rl → FrW K H7 H' m rl wb mk := fun {H'} f => frE7.trans (.ofM f)
          have ht3 : t ≤ 2 := by omega
          have em1 : ∀ v : V, v = vNat (many - 1) → [V.ref m, v] = [V.ref m, vNat (many - 1)] := fun v e => by rw [e]
          -- other
          refine ⟨_, rfl, _, rfl, _, _, rfl, rfl, _, rfl, _, rfl, _, _, rfl, rfl, H0, m, sa, rl, k3, ns, rs3, many - 1, em1 _ ?_, hMa, by omega, by omega, by omega, fun r rs5 Hb hr hMb frb => ?_⟩
          · show V.int _ = V.int _
            congr 1
            omega
          have frb' := fra.trans frb
          have hwlt : (i + 1 + r) % many < many := Nat.mod_lt _ (by omega)
          obtain ⟨oa, hoa⟩ : ∃ oa, as[(i + 1 + r) % many]? = some oa := ⟨as[(i + 1 + r) % many]'(by omega), List.getElem?_eq_getElem _⟩
          obtain ⟨orow, horow⟩ : ∃ orow, rows[(i + 1 + r) % many]? = some orow := ⟨rows[(i + 1 + r) % many]'(by omega), List.getElem?_eq_getElem _⟩
          have horl : orow.length = long := heach orow (List.mem_of_getElem? horow)
          have hoat : ∀ {H' : Hp}, FrM K HE H' m rl → H' oa = some (.lst (orow.map vNat)) := fun {H'} f => (keepL (keepM f)).at_ _ oa _ hoa (get_map' horow)
          have nor : oa ≠ rl := (hLout oa (.inr (List.mem_of_getElem? hoa))).2.1
          have hone : orow.map vNat ≠ [] := fun z => by
            have := congrArg List.length z
            rw [List.length_map, horl] at this
            simp at this
            omega
          have holt : ∀ y, y ∈ orow → y < many * long := fun y hy => hRows.lt (List.mem_of_getElem? horow) hy
          have hrlt : ∀ y, y ∈ row.take (j + 1) → y < many * long := fun y hy => hRows.lt (List.mem_of_getElem? hrow) (List.mem_of_mem_take hy)
          have hol : (orow.map vNat).length ≤ 1000 := by rw [List.length_map]; omega
          refine ⟨_, _, rfl, rfl, _, rfl, _, _, rfl, rfl, by omega, l, _, _, .ref oa, rfl, rfl, SqL.of (keepL (keepM frb')).lst, at_of (j := (i + 1 + r) % many) ?_ (get_mapV hoa), ?_⟩
          · rfl
          -- tie
          refine ⟨_, rfl, _, rfl, _, rfl, H0, m, sa, rl, k3 + 1, ns, rs5, oa, _, rfl, hMb, hoat frb', nor, hone, hol, by omega, fun x1 rs6 Hc hx1 hMc frc => ?_⟩
          have frc' := frb'.trans frc
          refine ⟨_, rfl, _, rfl, H0, m, sa, rl, k3 + 1 + 1, ns, rs6, oa, _, rfl, hMc, hoat frc', nor, hone, hol, by omega, fun x2 rs7 Hd hx2 hMd frd => ?_⟩
          have frd' := frc'.trans frd
          refine ⟨_, rfl, _, rfl, _, rfl, _, _, rfl, rfl, _, rfl, ra, _, rfl, SqL.of (hraAt (keepM frd')), fun q hq => ?_⟩
          rw [cutV_take1, ← List.map_take]
          have sq := same_new (o := .lst ((row.take (j + 1)).map vNat)) hq
          have nqr : q ≠ rl := fun z => by have := hMd.r; rw [← z, hq] at this; cases this
          have hrne : (row.take (j + 1)).map vNat ≠ [] := fun z => by
            have := congrArg List.length z
            rw [List.length_map, List.length_take, hrowl] at this
            simp at this
            omega
          refine ⟨H0, m, sa, rl, k3 + 1 + 1 + 1, ns, rs7, q, _, rfl, hMd.keep sq, upd_same, nqr, hrne, by rw [List.length_map, List.length_take]; omega, by omega, fun x3 rs8 He hx3 hMe fre => ⟨(by show 4 ≤ sizeLine; decide), fun q2 hq2 => ?_⟩⟩
          have fre' := (frd'.trans (.of sq)).trans fre
          have sq2 := same_new (o := .lst [x1, x2, .non, x3]) hq2
          have nq2 : q2 ≠ rl := fun z => by have := hMe.r; rw [← z, hq2] at this; cases this
          refine ⟨H0, m, sa, rl, k3 + 1 + 1 + 1 + 1, ns, rs8, q2, _, rfl, hMe.keep sq2, upd_same, nq2, by simp, by simp, by omega, fun x4 rs9 Hf hx4 hMf frf => ?_⟩
          have frf' := (fre'.trans (.of sq2)).trans frf
          obtain ⟨o4, rfl, ho4⟩ : ∃ o : Option Nat, x4 = vTie o ∧ ∀ y, o = some y → y < many * long := by
            simp at hx4
            rcases hx4 with rfl | rfl | rfl | rfl
            · exact mem_nat holt hx1
            · exact mem_nat holt hx2
            · exact ⟨none, rfl, fun y e => by cases e⟩
            · exact mem_nat hrlt hx3
          -- place
          have hpf : ∀ {H' : Hp}, FrM K Ha' H' m rl → H' p = some (.lst (tl.map vTie)) := fun {H'} f => f.1 _ _ hpa (hMa.ne_lst hpa) hprl
          have fraf : FrM K Ha' Hf m rl := ((((((frb.trans frc).trans frd).trans (.of sq)).trans fre).trans (.of sq2)).trans frf)
          have em2 : ∀ v : V, v = vNat (tl.length + 1) → [V.ref m, v] = [V.ref m, vNat (tl.length + 1)] := fun v e => by rw [e]
          refine ⟨_, rfl, _, rfl, p, _, rfl, .inl (SqL.of (hpf fraf)), _, _, rfl, rfl, H0, m, sa, rl, k3 + 1 + 1 + 1 + 1 + 1, ns, rs9, tl.length + 1, em2 _ (by rw [List.length_map]; rfl), hMf, by omega, by omega, by omega, fun pl rs10 Hg hpl hMg frg => ?_⟩
          have frag := fraf.trans frg
          have frg' := frf'.trans frg
          have hpg := hpf frag
          -- ties
          refine ⟨_, rfl, _, rfl, _, rfl, p, _, rfl, SqL.of hpg, fun q3 hq3 => ⟨_, rfl, (by show 1 ≤ sizeLine; decide), fun q4 hq4 => ?_⟩⟩
          rw [cutV_take]
          have s3 := same_new (o := .lst ((tl.map vTie).take pl)) hq3
          have hq3a : (upd Hg q3 (.lst ((tl.map vTie).take pl))) q3 = some (.lst ((tl.map vTie).take pl)) := upd_same
          rw [cutV_take] at hq4
          generalize upd Hg q3 (.lst ((tl.map vTie).take pl)) = Hh at *
          have s4 := same_new (o := .lst [vTie o4]) hq4
          have hq3b := s4 _ _ hq3a
          have hq4b : (upd Hh q4 (.lst [vTie o4])) q4 = some (.lst [vTie o4]) := upd_same
          generalize upd Hh q4 (.lst [vTie o4]) = Hi at *
          have htl2 : ((tl.map vTie).take pl).length ≤ 4 := by
            rw [List.length_take, List.length_map]
            omega
          refine ⟨q3, q4, _, _, rfl, rfl, hq3b, hq4b, Nat.le_trans (show ((tl.map vTie).take pl).length + [vTie o4].length ≤ 1000 by simp; omega) (by decide), fun q5 hq5 => ?_⟩
          have s5 := same_new (o := .lst ((tl.map vTie).take pl ++ [vTie o4])) hq5
          have hq5a : (upd Hi q5 (.lst ((tl.map vTie).take pl ++ [vTie o4]))) q5 = some (.lst ((tl.map vTie).take pl ++ [vTie o4])) := upd_same
          generalize upd Hi q5 (.lst ((tl.map vTie).take pl ++ [vTie o4])) = Hj at *
          have hpj := s5 _ _ (s4 _ _ (s3 _ _ hpg))
          refine ⟨_, rfl, _, rfl, _, rfl, p, _, rfl, SqL.of hpj, fun q6 hq6 => ?_⟩
          rw [cutV_drop]
          have s6' := same_new (o := .lst ((tl.map vTie).drop pl)) hq6
          have hq5b := s6' _ _ hq5a
          have hq6a : (upd Hj q6 (.lst ((tl.map vTie).drop pl))) q6 = some (.lst ((tl.map vTie).drop pl)) := upd_same
          generalize upd Hj q6 (.lst ((tl.map vTie).drop pl)) = Hk at *
          refine ⟨q5, q6, _, _, rfl, rfl, hq5b, hq6a, Nat.le_trans (show ((tl.map vTie).take pl ++ [vTie o4]).length + ((tl.map vTie).drop pl).length ≤ 1000 by simp; omega) (by decide), fun q7 hq7 => ?_⟩
          have sgk := (s3.trans s4).trans (s5.trans s6')
          have hMk := hMg.keep sgk
          have nq7 : q7 ≠ rl := fun z => by have := hMk.r; rw [← z, hq7] at this; cases this
          have s7' := same_new (o := .lst ((tl.map vTie).take pl ++ [vTie o4] ++ (tl.map vTie).drop pl)) hq7
          have efin : (tl.map vTie).take pl ++ [vTie o4] ++ (tl.map vTie).drop pl = (tl.take pl ++ [o4] ++ tl.drop pl).map vTie := by
            rw [List.map_append, List.map_append, List.map_take, List.map_drop]
            rfl
          refine ⟨_, _, _, _, k3 + 1 + 1 + 1 + 1 + 1 + 1, rs10, q7, tl.take pl ++ [o4] ++ tl.drop pl, rfl, by omega, hMk.keep s7', frg'.trans (.of (sgk.trans s7')), by rw [← efin]; exact upd_same, nq7, ?_, fun y hy => ?_, fun y hy => ?_⟩
          · rw [List.length_append, List.length_append, List.length_take, List.length_drop, List.length_singleton]
            omega
          · rcases List.mem_append.mp hy with h | h
            · rcases List.mem_append.mp h with h | h
              · exact htlt y (List.mem_of_mem_take h)
              · exact ho4 y (List.mem_singleton.mp h).symm
            · exact htlt y (List.mem_of_mem_drop h)
          · have := hnx y hy
            rw [← List.take_append_drop pl tl] at this
            rcases List.mem_append.mp this with h | h
            · exact List.mem_append_left _ (List.mem_append_left _ h)
            · exact List.mem_append_right _ h
        · rintro σ Ha ⟨y12, y13, y14, y15, k3, rs3, p, tl, rfl, hk3, hMa, fra, hpa, hprl, htl, htlt, hnx⟩
          have fra7 : FrW K H7 Ha m rl wb mk := frE7.trans (.ofM fra)
          have hmka := fra.1 _ _ hmkE (hME.ne_lst hmkE) nmr
          have hwba := fra.1 _ _ hwbE (hME.ne_lst hwbE) nwr
          have hwva := hwvE.mono fra.2
          -- web[node] = tuple(ties)
          refine ⟨_, rfl, p, _, _, rfl, SqL.of hpa, tpAll_rowV tl, fun v' Hb sb hv' => ?_⟩
          have hwbb := sb _ _ hwba
          have hwvl : wvs.length = many * long := by rw [hwva.1, List.length_map, hlaid.wl]
          refine ⟨_, rfl, _, rfl, wb, _, _, node, rfl, rfl, hwbb, ixN_nat (by rw [hwvl]; exact hnl), ?_⟩
          have hstep := hlaid.step hRows hrow hnode (tl := tl) (by omega) htlt hnx
          refine ⟨_, _, _, _, _, _, _, k3, rs3, Wc.set node tl, Mc.set node (i + 1), wvs.set node v', rfl, by omega, (hMa.keep sb).upd hwbb nwr w00, (fra7.trans (.of sb)).upd (.inl rfl) hwbb rfl, upd_same, ?_, by rw [upd_ne nwm.symm]; exact sb _ _ hmka, hstep⟩
          have k1 : Keep K Ha (upd Hb wb (.lst (wvs.set node v'))) := (keep_same sb).trans (keep_upd hwbb rfl)
          refine ⟨by rw [List.length_set, List.length_map, List.length_set, hwvl, hlaid.wl], fun n v d hv hd => ?_⟩
          rw [List.map_set] at hd
          rw [List.getElem?_set] at hv hd
          by_cases en : node = n
          · rw [if_pos en] at hv hd
            rw [if_pos (by rw [hwvl]; omega)] at hv
            rw [if_pos (by rw [List.length_map, hlaid.wl]; omega)] at hd
            cases hv
            cases hd
            exact hv'.mono (keep_upd hwbb rfl)
          · rw [if_neg en] at hv hd
            exact (hwva.2 n v d hv hd).mono k1
      · rintro σ HA ⟨y9, y10, y11, y12, y13, y14, y15, k2, rs2, Wc, Mc, wvs, rfl, hk2, hMA, frA, hwbA, hwvA, hmkA, hlaid⟩
        rw [List.length_map, hrowl] at hk2 hlaid
        have hkk : 20 * long ≤ 80 := by omega
        exact ⟨_, _, _, _, _, _, _, _, _, k2, rs2, Wc, Mc, wvs, rfl, by omega, hMA, frA, hwbA, hwvA, hmkA, hlaid.next hRows⟩
    · rintro σ H8 ⟨y7, y8, y9, y10, y11, y12, y13, y14, y15, k', rs', Wc, Mc, wvs, rfl, hk', hM8, fr8, hwb8, hwv8, hmk8, hlaid⟩
      rw [List.length_map, hasl] at hk' hlaid
      have hLL8 := keepL fr8
      have frE : FrM K H H8 m rl := ⟨fun b o e n1 n2 => fr8.1 b o (fr7.1 b o e n1 n2) n1 n2 (fun z => by rw [z, hwbH] at e; cases e) (fun z => by rw [z, hmkH] at e; cases e), fr7.2.trans fr8.2⟩
      have hright : RightIn Wc Mc (rows.map (·.headD 0)) true := chains_right hRows (by omega) (by omega) (by omega) (by omega) hlaid.wl hlaid.ml hlaid.r8 hlaid.mks (fun i j r x h1 h2 => hlaid.done i j r x (.inl (by
        have := (List.getElem?_eq_some_iff.mp h1).1
        omega)) h1 h2) rfl
      refine ⟨_, rfl, wb, _, _, rfl, SqL.of hwb8, hwv8, fun w' HA sA hw' => ⟨_, rfl, mk, _, _, rfl, SqL.of (sA _ _ hmk8), tpAll_nats Mc, fun mv HB sB hmv => ?_⟩⟩
      have hLLB := hLL8.same (sA.trans sB)
      refine ⟨_, rfl, l, rfl, ⟨_, SqL.of hLLB.lst⟩, fun D hD => ?_⟩
      refine lc_it (walk_list (K := K) (a := l) (xs := as.map V.ref)) (fun i H' => Same HB H' ∧ H' D = some (.lst (((rows.take i).map (·.headD 0)).map vNat))) ⟨same_new hD, upd_same⟩ (fun i H' _ q => SqL.of (q.1 _ _ hLLB.lst)) ?_ ?_
      · rintro i x HC HC' hi ⟨sC, hDC⟩ ⟨rfl, hx⟩
        obtain ⟨ra, hra, rfl⟩ := map_get hx
        rw [List.length_map, hasl] at hi
        obtain ⟨row, hrow⟩ : ∃ row, rows[i]? = some row := ⟨rows[i]'(by omega), List.getElem?_eq_getElem _⟩
        have hrowl : row.length = long := heach row (List.mem_of_getElem? hrow)
        have hat := (hLLB.same sC).at_ i ra _ hra (get_map' hrow)
        have h0 : row[0]? = some (row.headD 0) := by
          cases row with
          | nil => simp at hrowl; omega
          | cons a r => rfl
        refine ⟨rfl, _, rfl, ra, _, _, vNat (row.headD 0), rfl, rfl, SqL.of hat, at_of (j := 0) rfl (get_mapV h0), _, hDC, by rw [List.length_map, List.length_map, List.length_take]; exact small1000 (by omega), Evl.Ex.mut sC hD, ?_⟩
        rw [upd_same, List.take_add_one, hrow, List.map_append, List.map_append]
        rfl
      · rintro HC ⟨sC, hDC⟩
        rw [List.length_map, hasl, List.take_of_length_le (by omega)] at hDC
        refine ⟨D, _, _, rfl, SqL.of hDC, tpAll_nats _, fun r' HD sD hr' => ⟨(by show 3 ≤ sizeLine; decide), fun tt htt => ?_⟩⟩
        have s8 := ((sA.trans sB).trans (sC.trans sD)).trans (same_new (o := .tup [w', mv, r']) htt)
        have sBD := (sC.trans sD).trans (same_new (o := .tup [w', mv, r']) htt)
        refine kq k' rs' _ tt w' mv r' Wc Mc _ (by omega) (hM8.keep s8) (frE.trans (.of s8)) upd_same (hw'.mono (keep_same (sB.trans sBD))) (hmv.mono (keep_same sBD)) (hr'.mono (keep_new htt)) hright
end
end Tb
end
section
set_option Elab.async false
set_option linter.all false
set_option maxRecDepth 100000
set_option maxHeartbeats 4000000
/-! The law: _law_long_right. -/
namespace Tb
open PySem PySem.Spec PyProof.Rows L2
abbrev sLong : Stmt := top 53
/-! ### what is laid so far -/
structure Laid2 (n long here far turn : Nat) (A B : List Nat) (k : Nat) (W : Web) (M : List Nat) : Prop where
  wl : W.length = n
  ml : M.length = n
  mks : ∀ m, m ∈ M → m ≤ 2
  wa : ∀ (a : Nat) x, a < k → A[a]? = some x → rowAt W x = ((B.drop a).take 1 ++ (A.drop (a + 1)).take 1).map some
  wb : ∀ (a : Nat) x, a < k → B[a]? = some x → rowAt W x = ((A.drop (a + 1 + if a = far then 1 else 0)).take 1 ++ (B.drop (a + 1)).take 1).map some
  ma : ∀ (a : Nat) x, A[a]? = some x → markAt M x = if a < k ∧ a ≤ here then 1 + turn else 0
  mb : ∀ (a : Nat) x, B[a]? = some x → markAt M x = if a < k ∧ a ≤ here then 2 - turn else 0
theorem nd_at {L : List Nat} (h : L.Nodup) {a b x : Nat} (h1 : L[a]? = some x) (h2 : L[b]? = some x) : a = b := by
  obtain ⟨m1, f1⟩ := List.getElem?_eq_some_iff.mp h1
  obtain ⟨m2, f2⟩ := List.getElem?_eq_some_iff.mp h2
  rcases Nat.lt_trichotomy a b with h' | h' | h'
  · exact absurd (f1.trans f2.symm) (List.pairwise_iff_getElem.mp h a b m1 m2 h')
  · exact h'
  · exact absurd (f2.trans f1.symm) (List.pairwise_iff_getElem.mp h b a m2 m1 h')
theorem Laid2.start {n long here far turn : Nat} {A B : List Nat} : Laid2 n long here far turn A B 0 (List.replicate n []) (List.replicate n 0) := by
  have h0 : ∀ x, markAt (List.replicate n 0) x = 0 := fun x => by
    unfold markAt
    rw [List.getD_eq_getElem?_getD, List.getElem?_replicate]
    split <;> rfl
  exact ⟨by simp, by simp, fun m h => by rw [(List.mem_replicate.mp h).2]; omega, fun a x h => by omega, fun a x h => by omega, fun a x _ => by rw [h0, if_neg (by omega)], fun a x _ => by rw [h0, if_neg (by omega)]⟩
theorem Laid2.step {n long here far turn k x y : Nat} {A B : List Nat} {W : Web} {M : List Nat} (L : Laid2 n long here far turn A B k W M) (hp : (A ++ B).Perm (List.range n)) (ht : turn ≤ 1) (hx : A[k]? = some x) (hy : B[k]? = some y) :
    Laid2 n long here far turn A B (k + 1) ((W.set x (((B.drop k).take 1 ++ (A.drop (k + 1)).take 1).map some)).set y (((A.drop (k + 1 + if k = far then 1 else 0)).take 1 ++ (B.drop (k + 1)).take 1).map some))
      (if k ≤ here then (M.set x (1 + turn)).set y (2 - turn) else M) := by
  have hnd : (A ++ B).Nodup := hp.nodup_iff.mpr List.nodup_range
  obtain ⟨nA, nB, nAB⟩ := List.nodup_append.mp hnd
  have hlt : ∀ z, z ∈ A ∨ z ∈ B → z < n := fun z hz => List.mem_range.mp (hp.mem_iff.mp (List.mem_append.mpr hz))
  have xl := hlt x (.inl (List.mem_of_getElem? hx))
  have yl := hlt y (.inr (List.mem_of_getElem? hy))
  have nxy : ∀ {u v : Nat} {a b : Nat}, A[a]? = some u → B[b]? = some v → u ≠ v := fun h1 h2 => nAB _ (List.mem_of_getElem? h1) _ (List.mem_of_getElem? h2)
  have hm : ∀ z, markAt (if k ≤ here then (M.set x (1 + turn)).set y (2 - turn) else M) z = if k ≤ here then (if y = z then 2 - turn else if x = z then 1 + turn else markAt M z) else markAt M z := fun z => by
    by_cases h : k ≤ here
    · rw [if_pos h, if_pos h, mark_set (by rw [List.length_set, L.ml]; exact yl), mark_set (by rw [L.ml]; exact xl)]
    · rw [if_neg h, if_neg h]
  refine ⟨by rw [List.length_set, List.length_set]; exact L.wl, ?_, fun m hm => ?_, fun a z ha hz => ?_, fun a z ha hz => ?_, fun a z hz => ?_, fun a z hz => ?_⟩
  · split
    · rw [List.length_set, List.length_set]; exact L.ml
    · exact L.ml
  · split at hm
    · rcases List.mem_or_eq_of_mem_set hm with h | h
      · rcases List.mem_or_eq_of_mem_set h with h | h
        · exact L.mks m h
        · omega
      · omega
    · exact L.mks m hm
  · rw [rowAt_set (by rw [List.length_set, L.wl]; exact yl), rowAt_set (by rw [L.wl]; exact xl), if_neg (nxy hz hy).symm]
    by_cases e : x = z
    · rw [← e] at hz
      have := nd_at nA hz hx
      subst this
      rw [if_pos e]
    · rw [if_neg e]
      refine L.wa a z ?_ hz
      rcases Nat.lt_or_ge a k with h | h
      · exact h
      · exfalso
        have ek : a = k := by omega
        subst ek
        rw [hx] at hz
        cases hz
        exact e rfl
  · rw [rowAt_set (by rw [List.length_set, L.wl]; exact yl)]
    by_cases e : y = z
    · rw [← e] at hz
      have := nd_at nB hz hy
      subst this
      rw [if_pos e]
    · rw [if_neg e, rowAt_set (by rw [L.wl]; exact xl), if_neg (nxy hx hz)]
      refine L.wb a z ?_ hz
      rcases Nat.lt_or_ge a k with h | h
      · exact h
      · exfalso
        have ek : a = k := by omega
        subst ek
        rw [hy] at hz
        cases hz
        exact e rfl
  · rw [hm z, if_neg (nxy hz hy).symm, L.ma a z hz]
    by_cases e : x = z
    · rw [← e] at hz
      have := nd_at nA hz hx
      subst this
      rw [if_pos e]
      by_cases h : a ≤ here
      · rw [if_pos h, if_pos ⟨by omega, h⟩]
      · rw [if_neg h, if_neg (by omega), if_neg (by omega)]
    · rw [if_neg e, ite_self]
      have nak : a ≠ k := fun z' => by
        subst z'
        rw [hx] at hz
        cases hz
        exact e rfl
      by_cases h : a < k ∧ a ≤ here
      · rw [if_pos h, if_pos ⟨by omega, h.2⟩]
      · rw [if_neg h, if_neg (by omega)]
  · rw [hm z, L.mb a z hz]
    by_cases e : y = z
    · rw [← e] at hz
      have := nd_at nB hz hy
      subst this
      rw [if_pos e]
      by_cases h : a ≤ here
      · rw [if_pos h, if_pos ⟨by omega, h⟩]
      · rw [if_neg h, if_neg (by omega), if_neg (by omega)]
    · rw [if_neg e, if_neg (nxy hx hz), ite_self]
      have nak : a ≠ k := fun z' => by
        subst z'
        rw [hy] at hz
        cases hz
        exact e rfl
      by_cases h : a < k ∧ a ≤ here
      · rw [if_pos h, if_pos ⟨by omega, h.2⟩]
      · rw [if_neg h, if_neg (by omega)]
theorem TpAll.setR {K : PySem.W.Frag} {H : Hp} {vs : List V} {W : Web} {x : Nat} {v : V} {tl : Row} (h : TpAll K H vs (W.map dRow)) (hv : Tp K H v (dRow tl)) : TpAll K H (vs.set x v) ((W.set x tl).map dRow) := by
  have hl := h.1
  refine ⟨by rw [List.length_set, hl, List.length_map, List.length_map, List.length_set], fun n u d hu hd => ?_⟩
  rw [List.map_set] at hd
  rw [List.getElem?_set] at hu hd
  by_cases e : x = n
  · rw [if_pos e] at hu hd
    split at hu
    · cases hu
      split at hd
      · cases hd
        exact hv
      · cases hd
    · cases hu
  · rw [if_neg e] at hu hd
    exact h.2 n u d hu hd
theorem cutV_one0 (xs : List V) (a : Nat) : cutV xs (some (a : Int)) (some ((a : Int) + 1)) = (xs.drop a).take 1 := by
  have e1 : ((a : Int) + 1) = ((a + 1 : Nat) : Int) := by omega
  rw [e1]
  unfold cutV
  rw [HT.sIx_nat, HT.sIx_nat]
  rcases Nat.lt_or_ge a xs.length with h | h
  · rw [Nat.min_eq_left (by omega), Nat.min_eq_left (by omega)]
    congr 1
    omega
  · rw [Nat.min_eq_right (by omega), Nat.min_eq_right (by omega), Nat.sub_self, List.take_zero, List.drop_of_length_le h]
    rfl
theorem Laid2.rings {n long here far turn : Nat} {A B : List Nat} {W : Web} {M : List Nat} (L : Laid2 n long here far turn A B long W M) (la : A.length = long) (lb : B.length = long) (hp : (A ++ B).Perm (List.range n)) (hn : n = 2 * long) (hl : long ≤ 30) (ht : turn ≤ 1) (hh : here < long) (hf : ∀ a, a < here → a = far → a + 2 ≤ here) : Rings n long here far turn A B W M :=
  ⟨la, lb, hp, hn, hl, ht, hh, hf, L.wl, L.ml, fun a x h => L.wa a x (by have := (List.getElem?_eq_some_iff.mp h).1; omega) h, fun a x h => L.wb a x (by have := (List.getElem?_eq_some_iff.mp h).1; omega) h,
    fun a x h => by
      rw [L.ma a x h]
      have := (List.getElem?_eq_some_iff.mp h).1
      by_cases e : a ≤ here
      · rw [if_pos e, if_pos ⟨by omega, e⟩]
      · rw [if_neg e, if_neg (by omega)],
    fun a x h => by
      rw [L.mb a x h]
      have := (List.getElem?_eq_some_iff.mp h).1
      by_cases e : a ≤ here
      · rw [if_pos e, if_pos ⟨by omega, e⟩]
      · rw [if_neg e, if_neg (by omega)]⟩
def spLong (K : PySem.W.Frag) : Sp := fun vs H Q _ => ∃ H0 m sa rl k ns rs, vs = [.ref m] ∧ MD K H0 H m sa rl k ns rs ∧ k + 200 < 2 ^ 40 ∧ ∀ k' rs' H', k' ≤ k + 200 → MD K H0 H' m sa rl k' ns rs' → FrM K H H' m rl → Q (.bl true) H'
section
variable {P : Program} {w : World} {K : PySem.W.Frag} {mg : Str → Option Value} {base : Heap}
abbrev nLong : List Str := ["_law_m", "_law_long", "_law_left", "_law_ones", "_law_others", "_law_here", "_law_far", "_law_web", "_law_marks", "_law_turn", "_law_at", "_law_next_one", "_law_roots", "_law_walker"]
theorem scLong : FnScope nLong ["_law_m"] (defScope sLong) := ⟨rfl, rfl, rfl, by decide +kernel, rfl, by decide +kernel, by decide +kernel⟩
theorem ok_long {f fdr fr : Addr} {fd fdd fdr' : FuncData} (F : Fun K "_law_long_right" "_law_long_right" sLong f fd) (T : Bt mg)
    (Gd : FnOk P w K mg base CX0 1 fdr fdd ["_law_m", "_law_many"] (spDraw K)) (Dd : Dn K mg "_law_draw" fdr fdd ["_law_m", "_law_many"])
    (Gr : Tg.FnOkG P w K mg base CX0 10 fr fdr' ["_law_m", "_law_web", "_law_marks", "_law_roots", "_law_is_free"] (spRight K)) (Dr : Dn K mg "_law_right" fr fdr' ["_law_m", "_law_web", "_law_marks", "_law_roots", "_law_is_free"]) :
    Tg.FnOkG P w K mg base CX0 11 f fd ["_law_m"] (spLong K) := by
  refine Tg.okG F scLong (fun vs H Q E h => ?_) (fun cdv A outer s H vs Q E hg hr h => ?_)
  · obtain ⟨H0, m, sa, rl, k, ns, rs, rfl, _⟩ := h
    rfl
  · obtain ⟨H0, m, sa, rl, k, ns, rs, rfl, hM, hk, kq⟩ := h
    refine ⟨_, (pss_cons (ps_set (i := 1) scLong.nd rfl (Or.inr rfl) (pe_op op_add pe_int (pe_call Gd (hr.mono (by decide : 1 ≤ 10)) (by rfl) Dd.mgf Dd.kp Dd.b .nil pass0 (pa_cons (pv 0) (pa_cons pe_int pa_nil)))))
      (pss_cons (ps_set (i := 2) scLong.nd rfl (Or.inr rfl) (pe_listRg rfl (by rfl) T.list (prg_1 (by rfl) T.range (pe_op op_mul pe_int (pv 1)))))
      (pss_cons (ps_asg (pe_lc (own := [("_law_walker", 13)]) (g := (gName 13)) (tt := tYes) rfl scLong.nd (pi_range1 rfl T.range (pa_cons pe_int pa_nil)) (blkOk_by (N := nLong) (sc := defScope sLong) (by decide +kernel)) (fun _ _ _ _ _ => (pg_name (i := 13) scLong.nd rfl (Or.inl rfl))) (fun _ _ _ _ _ => pts_nil) (fun _ _ _ _ _ => (pe_lc (own := [("_law_at", 10)]) (g := (gName 10)) (tt := tYes) rfl scLong.nd (pi_range1 rfl T.range (pa_cons (pv 1) pa_nil)) (blkOk_by (N := nLong) (sc := scRowsC) (by decide +kernel)) (fun _ _ _ _ _ => (pg_name (i := 10) scLong.nd rfl (Or.inl rfl))) (fun _ _ _ _ _ => pts_nil) (fun _ _ _ _ _ => (pe_bmK K PySem.F.plainAttrs_list PySem.F.slot_list_pop PySem.F.type_list_pop mt_popAt (pv 2) (pa_cons (pe_call Gd (hr.mono (by decide : 1 ≤ 10)) (by rfl) Dd.mgf Dd.kp Dd.b .nil pass0 (pa_cons (pv 0) (pa_cons (pe_callB (call_lenLK K) (by rfl) T.len PySem.boot_len (pa_cons (pv 2) pa_nil)) pa_nil))) pa_nil)))))) (pg_lst rfl (pgs_cons (pg_name (i := 3) scLong.nd rfl (Or.inl rfl)) (pgs_cons (pg_name (i := 4) scLong.nd rfl (Or.inl rfl)) pgs_nil))))
      (pss_cons (ps_set (i := 5) scLong.nd rfl (Or.inl rfl) (pe_op op_sub (pe_op op_sub (pv 1) pe_int) (pe_op op_mul (pe_call Gd (hr.mono (by decide : 1 ≤ 10)) (by rfl) Dd.mgf Dd.kp Dd.b .nil pass0 (pa_cons (pv 0) (pa_cons pe_int pa_nil))) (pe_call Gd (hr.mono (by decide : 1 ≤ 10)) (by rfl) Dd.mgf Dd.kp Dd.b .nil pass0 (pa_cons (pv 0) (pa_cons (pe_op op_sub (pv 1) pe_int) pa_nil))))))
      (pss_cons (ps_set (i := 6) scLong.nd rfl (Or.inl rfl) (pe_call Gd (hr.mono (by decide : 1 ≤ 10)) (by rfl) Dd.mgf Dd.kp Dd.b .nil pass0 (pa_cons (pv 0) (pa_cons (pe_op op_mul pe_int (pv 1)) pa_nil))))
      (pss_cons (ps_set (i := 6) scLong.nd rfl (Or.inl rfl) (pe_ifExp (pt_cmpR op_ne (pv 6) (pe_op op_sub (pv 5) pe_int) (nomark _)) (pv 6) (pv 5)))
      (pss_cons (ps_par (i := 7) (j := 8) (by rfl) scLong.nd rfl rfl (by decide) rfl rfl (pa_cons (pe_op op_rep (pe_lst (pa_cons (pe_tup pa_nil) pa_nil)) (pe_op op_mul pe_int (pv 1))) (pa_cons (pe_op op_rep (pe_lst (pa_cons pe_int pa_nil)) (pe_op op_mul pe_int (pv 1))) pa_nil)) (by rfl))
      (pss_cons (ps_set (i := 9) scLong.nd rfl (Or.inl rfl) (pe_call Gd (hr.mono (by decide : 1 ≤ 10)) (by rfl) Dd.mgf Dd.kp Dd.b .nil pass0 (pa_cons (pv 0) (pa_cons pe_int pa_nil))))
      (pss_cons (ps_for PassesOwn.never rfl (pi_range1 rfl T.range (pa_cons (pv 1) pa_nil)) (pg_name (i := 10) scLong.nd rfl (Or.inl rfl)) (pss_cons (ps_asg (pe_callTy (call_tupD K) (by rfl) T.tuple (by decide +kernel) (pa_cons (pe_op op_cat (pe_slice sl_list (pv 4) (po_some (pv 10)) (po_some (pe_op op_add (pv 10) pe_int))) (pe_slice sl_list (pv 3) (po_some (pe_op op_add (pv 10) pe_int)) (po_some (pe_op op_add (pv 10) pe_int)))) pa_nil)) (pg_sub (pv 7) (pe_ix ix_list (pv 3) (pv 10) (fun _ _ => rfl)) set_list))
      (pss_cons (ps_set (i := 11) scLong.nd rfl (Or.inl rfl) (pe_op op_add (pe_op op_add (pv 10) pe_int) (pe_callTy call_int1 (by rfl) T.int (by decide +kernel) (pa_cons (pe_cmpR op_eq (pv 10) (pv 6) (nomark _)) pa_nil))))
      (pss_cons (ps_asg (pe_callTy (call_tupD K) (by rfl) T.tuple (by decide +kernel) (pa_cons (pe_op op_cat (pe_slice sl_list (pe_slice sl_list (pv 3) (po_some (pv 11)) po_none) po_none (po_some pe_int)) (pe_slice sl_list (pv 4) (po_some (pe_op op_add (pv 10) pe_int)) (po_some (pe_op op_add (pv 10) pe_int)))) pa_nil)) (pg_sub (pv 7) (pe_ix ix_list (pv 4) (pv 10) (fun _ _ => rfl)) set_list))
      (pss_one (ps_if (pt_cmpR op_le (pv 10) (pv 5) (nomark _)) (pss_one (ps_asg (pe_tup (pa_cons (pe_op op_add pe_int (pv 9)) (pa_cons (pe_op op_sub pe_int (pv 9)) pa_nil))) (pg_tup rfl (pgs_cons (pg_sub (pv 8) (pe_ix ix_list (pv 3) (pv 10) (fun _ _ => rfl)) set_list) (pgs_cons (pg_sub (pv 8) (pe_ix ix_list (pv 4) (pv 10) (fun _ _ => rfl)) set_list) pgs_nil))))) pss_nil))))))
      (pss_cons (ps_set (i := 12) scLong.nd rfl (Or.inl rfl) (pe_ix ix_list (pe_lst (pa_cons (pe_tup (pa_cons (pe_ix ix_list (pv 3) pe_int (fun _ _ => rfl)) (pa_cons (pe_ix ix_list (pv 4) pe_int (fun _ _ => rfl)) pa_nil))) (pa_cons (pe_tup (pa_cons (pe_ix ix_list (pv 4) pe_int (fun _ _ => rfl)) (pa_cons (pe_ix ix_list (pv 3) pe_int (fun _ _ => rfl)) pa_nil))) pa_nil))) (pv 9) (fun _ _ => rfl)))
      (pss_one (ps_ret (Tg.pe_callG Gr hg hr (by rfl) Dr.mgf Dr.kp Dr.b pass0 (pa_cons (pv 0) (pa_cons (pe_callTy (call_tupD K) (by rfl) T.tuple (by decide +kernel) (pa_cons (pv 7) pa_nil)) (pa_cons (pe_callTy (call_tupD K) (by rfl) T.tuple (by decide +kernel) (pa_cons (pv 8) pa_nil)) (pa_cons (pv 12) (pa_cons (pe_cmpR op_eq (pv 5) (pe_op op_sub (pv 1) pe_int) (nomark _)) pa_nil)))))))))))))))))), ?_⟩
    -- long
    refine ⟨_, rfl, H0, m, sa, rl, k, ns, rs, 11, rfl, hM, by decide, by decide, by omega, fun r1 rs1 H1 hr1 hM3 fr3 => ⟨_, _, rfl, rfl, ?_⟩⟩
    refine gname_ ?_
    try dsimp only
    have e20 : V.int ((20 : Int) + (r1 : Int)) = vNat (20 + r1) := rfl
    show tSeq _ _ _ ((L2.start nLong [V.ref m]).set 1 (some (V.int ((20 : Int) + (r1 : Int))))) _
    rw [e20]
    have hl1 : 20 ≤ 20 + r1 := by omega
    have hl2 : 20 + r1 ≤ 30 := by omega
    generalize 20 + r1 = long at *
    have hn : 2 * long ≤ 60 := by omega
    have cm : CMul (2 : Int) (long : Int) := .inl ⟨by decide, by decide⟩
    have eNn : ((2 : Int) * (long : Int)).toNat = 2 * long := by omega
    -- left
    refine ⟨_, rfl, _, _, rfl, rfl, cm, ((2 * long : Nat) : Int), rfl, .of_le (by omega) (by omega) (by omega) (by omega), fun left hleft => ?_⟩
    rw [rgV_nats]
    have hlr : left ≠ rl := (ne_of_none hM3.r hleft).symm
    have hl0 : H0 left = none := hM3.same.free hleft
    have hM4 := hM3.keep (same_new (o := .lst ((List.range (2 * long)).map vNat)) hleft)
    have hL4 : (upd H1 left (.lst ((List.range (2 * long)).map vNat))) left = some (.lst ((List.range (2 * long)).map vNat)) := upd_same
    have fr4 : FrM K H (upd H1 left (.lst ((List.range (2 * long)).map vNat))) m rl := fr3.trans (.of (same_new hleft))
    have hlH : H left = none := by
      cases hb : H left with
      | none => rfl
      | some o =>
        have := fr3.1 left o hb (fun z => by obtain ⟨kvs, hd, _⟩ := hM3.d; rw [← z, hleft] at hd; cases hd) hlr
        rw [hleft] at this
        cases this
    generalize upd H1 left (.lst ((List.range (2 * long)).map vNat)) = H4 at *
    -- ones, others
    refine gname_ ?_
    try dsimp only
    refine asg_te ?_
    refine rows_made (many := 2) (long := long) (im := 0) (il := 2) (iL := 1) (ja := 10) (jw := 13) (left := left) (fun R h => ⟨(2 : Int), rfl, by decide, by decide, h⟩) (fun _ => rfl) (fun _ _ => rfl) (fun _ _ => rfl) (fun _ _ => rfl) (fun _ => rfl) hM4 hL4 hlr hl0 (by rw [List.length_range]) (by decide) (by rw [List.length_range]; omega) (by omega) fun l as rows L' rs5 H5 hrl heach hp hM5 hLL hl5 has fr5 => ?_
    obtain ⟨A, B, rfl⟩ : ∃ A B, rows = [A, B] := by
      match rows, hrl with
      | [A, B], _ => exact ⟨A, B, rfl⟩
    have hA : A.length = long := heach A (by simp)
    have hB : B.length = long := heach B (by simp)
    have hperm : (A ++ B).Perm (List.range (2 * long)) := by
      have hpl := hp.length_eq
      simp at hpl
      have : L' = [] := List.length_eq_zero_iff.mp (by omega)
      rw [this] at hp
      simpa using hp
    obtain ⟨oa, ob, rfl⟩ : ∃ oa ob, as = [oa, ob] := by
      have := hLL.len
      match as, this with
      | [oa, ob], _ => exact ⟨oa, ob, rfl⟩
    have hlst5 : H5 l = some (.lst [V.ref oa, V.ref ob]) := hLL.lst
    have hoa5 : H5 oa = some (.lst (A.map vNat)) := hLL.at_ 0 oa _ rfl rfl
    have hob5 : H5 ob = some (.lst (B.map vNat)) := hLL.at_ 1 ob _ rfl rfl
    have fr5' : ∀ b o, H b = some o → b ≠ m → b ≠ rl → H5 b = some o := fun b o e n1 n2 => fr5.1 b o (fr4.1 b o e n1 n2) n1 n2 fun z => by rw [z, hlH] at e; cases e
    have k5 : Keep K H H5 := fr4.2.trans fr5.2
    have frs : FrM K H H5 m rl := ⟨fr5', k5⟩
    have hmr : ∀ b, b = oa ∨ b = ob → b ≠ rl := fun b hb z => by
      have h4 : H4 b = none := has b (by simp; exact hb)
      have := hM4.r
      rw [← z, h4] at this
      cases this
    have noar := hmr oa (.inl rfl)
    have nobr := hmr ob (.inr rfl)
    refine ⟨l, _, rfl, SqL.of hlst5, rfl, _, _, rfl, _, _, rfl, rfl, ?_⟩
    have hq5 : k + 1 + 2 * long ≤ k + 61 := by omega
    generalize k + 1 + 2 * long = q5 at *
    -- here
    refine set_any (fun v H' => ∃ here rs', v = vNat here ∧ 2 ≤ here ∧ here < long ∧ MD K H0 H' m sa rl (q5 + 1 + 1) ns rs' ∧ FrM K H5 H' m rl) (fun Q' hQ' => ?_) (fun v H7 q7 => ?_)
    · refine ⟨_, rfl, _, _, rfl, rfl, _, rfl, H0, m, sa, rl, q5, ns, rs5, 2, rfl, hM5, by decide, by decide, by omega, fun d1 rs6 H6 hd1 hM6 fr6 => ?_⟩
      have em1 : ∀ v : V, v = vNat (long - 2) → [V.ref m, v] = [V.ref m, vNat (long - 2)] := fun v e => by rw [e]
      refine ⟨_, rfl, _, rfl, _, _, rfl, rfl, H0, m, sa, rl, q5 + 1, ns, rs6, long - 2, em1 _ ?_, hM6, by omega, by omega, by omega, fun d2 rs7 H7 hd2 hM7 fr7 => ?_⟩
      · show V.int _ = V.int _
        congr 1
        omega
      · have hdd : d1 * d2 ≤ long - 3 := by
          rcases Nat.eq_zero_or_pos d1 with e | e
          · rw [e, Nat.zero_mul]
            omega
          · have : d1 = 1 := by omega
            rw [this, Nat.one_mul]
            omega
        have ev : V.int ((long : Int) - 1 - (d1 : Int) * (d2 : Int)) = vNat (long - 1 - d1 * d2) := by
          show V.int _ = V.int _
          congr 1
          rw [← Int.natCast_mul]
          omega
        refine ⟨_, _, rfl, rfl, .inl ⟨by omega, by omega⟩, _, _, rfl, rfl, hQ' _ _ ⟨long - 1 - d1 * d2, rs7, ev, by omega, by omega, hM7, fr6.trans fr7⟩⟩
    obtain ⟨here, rs7, rfl, hh2, hhl, hM7, fr57⟩ := q7
    -- far
    refine gname_ ?_
    try dsimp only
    have em2 : ∀ v : V, v = vNat (2 * long) → [V.ref m, v] = [V.ref m, vNat (2 * long)] := fun v e => by rw [e]
    refine ⟨_, rfl, _, rfl, _, _, rfl, rfl, cm, H0, m, sa, rl, q5 + 1 + 1, ns, rs7, 2 * long, em2 _ rfl, hM7, by omega, by omega, by omega, fun far0 rs8 H8 hfar hM8 fr78 => ?_⟩
    refine gname_ ?_
    try dsimp only
    refine set_any (fun v H' => v = vNat (if far0 = here - 1 then here else far0) ∧ H' = H8) (fun Q' hQ' => ?_) (fun v H' q8 => ?_)
    · refine ⟨_, rfl, _, rfl, _, _, rfl, rfl, rfl, _, rfl, ?_⟩
      have ed : (!decide (vNat far0 = V.int ((here : Int) - 1))) = !decide (far0 = here - 1) := by
        congr 1
        by_cases e : far0 = here - 1
        · rw [decide_eq_true e, decide_eq_true]
          show V.int _ = V.int _
          congr 1
          omega
        · rw [decide_eq_false e, decide_eq_false]
          intro z
          injection z with z
          apply e
          omega
      show ite ((!decide (vNat far0 = V.int ((here : Int) - 1))) = true) _ _
      rw [ed]
      by_cases e : far0 = here - 1
      · rw [decide_eq_true e]
        exact iteF ⟨_, rfl, hQ' _ _ ⟨by rw [if_pos e], rfl⟩⟩
      · rw [decide_eq_false e]
        exact iteT ⟨_, rfl, hQ' _ _ ⟨by rw [if_neg e], rfl⟩⟩
    obtain ⟨rfl, e8⟩ := q8
    rw [e8]
    have hf : ∀ a, a < here → a = (if far0 = here - 1 then here else far0) → a + 2 ≤ here := fun a ha e => by
      split at e <;> omega
    generalize (if far0 = here - 1 then here else far0) = far at *
    have fr58 := fr57.trans fr78
    have hoa8 := fr58.1 _ _ hoa5 (hM5.ne_lst hoa5) noar
    have hob8 := fr58.1 _ _ hob5 (hM5.ne_lst hob5) nobr
    have frs8 : FrM K H H8 m rl := frs.trans fr58
    refine gname_ ?_
    try dsimp only
    -- web, marks
    refine ⟨Nat.zero_le _, fun t0 ht0 => ⟨(by show 1 ≤ sizeLine; decide), fun c1 hc1 => ⟨_, rfl, _, _, rfl, rfl, cm, c1, _, _, rfl, rfl, upd_same, by omega, by omega, ?_, fun wb hwb => ?_⟩⟩⟩
    · rw [eNn]
      exact Nat.le_trans (show [V.ref t0].length * (2 * long) ≤ 1000 by simp; omega) (by decide)
    rw [eNn, flat_rep]
    have s6 : Same H8 (upd (upd (upd H8 t0 (.tup [])) c1 (.lst [V.ref t0])) wb (.lst (List.replicate (2 * long) (V.ref t0)))) := ((same_new ht0).trans (same_new hc1)).trans (same_new hwb)
    have hwb6 : (upd (upd (upd H8 t0 (.tup [])) c1 (.lst [V.ref t0])) wb (.lst (List.replicate (2 * long) (V.ref t0)))) wb = some (.lst (List.replicate (2 * long) (V.ref t0))) := upd_same
    have hwv6 : TpAll K (upd (upd (upd H8 t0 (.tup [])) c1 (.lst [V.ref t0])) wb (.lst (List.replicate (2 * long) (V.ref t0)))) (List.replicate (2 * long) (V.ref t0)) ((List.replicate (2 * long) ([] : Row)).map dRow) := by
      have h0 : Tp K (upd (upd (upd H8 t0 (.tup [])) c1 (.lst [V.ref t0])) wb (.lst (List.replicate (2 * long) (V.ref t0)))) (.ref t0) (dRow []) := ((tp_nil (K := K) (H := H8) (t := t0)).mono (keep_new hc1)).mono (keep_new hwb)
      refine ⟨by simp, fun i v d hv hd => ?_⟩
      rw [List.getElem?_replicate] at hv
      rw [List.getElem?_map, List.getElem?_replicate] at hd
      split at hv
      · rename_i hh
        rw [if_pos hh] at hd
        cases hv
        cases hd
        exact h0
      · cases hv
    have hwb5 : H8 wb = none := ((same_new (o := .tup []) ht0).trans (same_new (o := .lst [V.ref t0]) hc1)).free hwb
    generalize upd (upd (upd H8 t0 (.tup [])) c1 (.lst [V.ref t0])) wb (.lst (List.replicate (2 * long) (V.ref t0))) = H9 at *
    refine ⟨(by show 1 ≤ sizeLine; decide), fun c2 hc2 => ⟨_, rfl, _, _, rfl, rfl, cm, c2, _, _, rfl, rfl, upd_same, by omega, by omega, ?_, fun mk hmk => ?_⟩⟩
    · rw [eNn]
      exact Nat.le_trans (show [V.int 0].length * (2 * long) ≤ 1000 by simp; omega) (by decide)
    rw [eNn, flat_rep]
    have s7 : Same H9 (upd (upd H9 c2 (.lst [V.int 0])) mk (.lst (List.replicate (2 * long) (V.int 0)))) := (same_new hc2).trans (same_new hmk)
    have hmk7 : (upd (upd H9 c2 (.lst [V.int 0])) mk (.lst (List.replicate (2 * long) (V.int 0)))) mk = some (.lst ((List.replicate (2 * long) 0).map vNat)) := by
      rw [upd_same, List.map_replicate]
      rfl
    have hmk6 : H9 mk = none := (same_new (o := .lst [V.int 0]) hc2).free hmk
    generalize upd (upd H9 c2 (.lst [V.int 0])) mk (.lst (List.replicate (2 * long) (V.int 0))) = HA at *
    have hwbA := s7 _ _ hwb6
    have hwvA := hwv6.mono (keep_same s7)
    have s8A := s6.trans s7
    have hMA := hM8.keep s8A
    have frA : FrM K H HA m rl := frs8.trans (.of s8A)
    have hoaA := s8A _ _ hoa8
    have hobA := s8A _ _ hob8
    have hmk8 : H8 mk = none := s6.free hmk6
    have hwbH : H wb = none := by
      cases hb : H wb with
      | none => rfl
      | some o =>
        have := frs8.1 wb o hb (fun z => by obtain ⟨kvs, hd, _⟩ := hM8.d; rw [← z, hwb5] at hd; cases hd) (fun z => by have := hM8.r; rw [← z, hwb5] at this; cases this)
        rw [hwb5] at this
        cases this
    have hmkH : H mk = none := by
      cases hb : H mk with
      | none => rfl
      | some o =>
        have := frs8.1 mk o hb (fun z => by obtain ⟨kvs, hd, _⟩ := hM8.d; rw [← z, hmk8] at hd; cases hd) (fun z => by have := hM8.r; rw [← z, hmk8] at this; cases this)
        rw [hmk8] at this
        cases this
    have nwr : wb ≠ rl := fun z => by have := hM8.r; rw [← z, hwb5] at this; cases this
    have nmr : mk ≠ rl := fun z => by have := hM8.r; rw [← z, hmk8] at this; cases this
    have nwm : wb ≠ mk := ne_of_none hwb6 hmk6
    have w00 : H0 wb = none := hM8.same.free hwb5
    have m00 : H0 mk = none := hM8.same.free hmk8
    have keepA : ∀ {H' : Hp}, FrW K HA H' m rl wb mk → H' oa = some (.lst (A.map vNat)) := fun {H'} f => f.1 _ _ hoaA (hM5.ne_lst hoa5) noar (ne_of_none hoa8 hwb5) (ne_of_none hoa8 hmk8)
    have keepB : ∀ {H' : Hp}, FrW K HA H' m rl wb mk → H' ob = some (.lst (B.map vNat)) := fun {H'} f => f.1 _ _ hobA (hM5.ne_lst hob5) nobr (ne_of_none hob8 hwb5) (ne_of_none hob8 hmk8)
    -- turn
    refine ⟨_, _, rfl, ?_⟩
    refine ⟨_, rfl, H0, m, sa, rl, q5 + 1 + 1 + 1, ns, rs8, 2, rfl, hMA, by decide, by decide, by omega, fun turn rs9 HB hturn hMB frAB => ?_⟩
    have frB : FrM K H HB m rl := frA.trans frAB
    have frWB : FrW K HA HB m rl wb mk := .ofM frAB
    have hwbB := frAB.1 _ _ hwbA (hMA.ne_lst hwbA) nwr
    have hmkB := frAB.1 _ _ hmk7 (hMA.ne_lst hmk7) nmr
    have hwvB := hwvA.mono frAB.2
    have ht1 : turn ≤ 1 := by omega
    refine gname_ ?_
    try dsimp only
    -- the places
    refine ⟨_, rfl, (long : Int), rfl, by omega, by omega, ?_⟩
    rw [Int.toNat_natCast]
    refine for_it (walk_range (lo := 0) (n := long)) (fun i σ H' => ∃ y10 y11 Wc Mc wvs, σ = [some (.ref m), some (vNat long), some (.ref left), some (.ref oa), some (.ref ob), some (vNat here), some (vNat far), some (.ref wb), some (.ref mk), some (vNat turn), y10, y11, none, none] ∧ MD K H0 H' m sa rl (q5 + 1 + 1 + 1 + 1) ns rs9 ∧ FrW K HA H' m rl wb mk ∧
        H' wb = some (.lst wvs) ∧ TpAll K H' wvs (Wc.map dRow) ∧ H' mk = some (.lst (Mc.map vNat)) ∧ Laid2 (2 * long) long here far turn A B i Wc Mc)
      ⟨_, _, _, _, _, rfl, hMB, frWB, hwbB, hwvB, hmkB, .start⟩ (fun _ _ _ _ _ => trivial) ?_ ?_
    · rintro i x σ HC HC' hi ⟨y10, y11, Wc, Mc, wvs, rfl, hMC, frC, hwbC, hwvC, hmkC, hlaid⟩ ⟨rfl, hx⟩
      have ex : x = vNat i := by rw [hx]; show V.int _ = V.int _; congr 1; omega
      subst ex
      obtain ⟨na, hna⟩ : ∃ na, A[i]? = some na := ⟨A[i]'(by omega), List.getElem?_eq_getElem _⟩
      obtain ⟨nb, hnb⟩ : ∃ nb, B[i]? = some nb := ⟨B[i]'(by omega), List.getElem?_eq_getElem _⟩
      have hnal : na < 2 * long := List.mem_range.mp (hperm.mem_iff.mp (List.mem_append.mpr (.inl (List.mem_of_getElem? hna))))
      have hnbl : nb < 2 * long := List.mem_range.mp (hperm.mem_iff.mp (List.mem_append.mpr (.inr (List.mem_of_getElem? hnb))))
      have hwvl : wvs.length = 2 * long := by rw [hwvC.1, List.length_map, hlaid.wl]
      have etk : ∀ (L : List Nat) (a : Nat), ((L.map vNat).drop a).take 1 = (((L.drop a).take 1).map some).map vTie := fun L a => by
        rw [← List.map_drop, ← List.map_take, List.map_map]
        rfl
      have tk1 : ∀ (L : List Nat) (a : Nat), ((((L.drop a).take 1).map some).map vTie).length ≤ 1 := fun L a => by
        rw [List.length_map, List.length_map]
        exact List.length_take_le _ _
      -- web[ones[at]] = tuple(others[at:at + 1] + ones[at + 1:at + 2])
      refine ⟨_, rfl, _, rfl, _, rfl, _, rfl, _, _, rfl, rfl, _, rfl, ob, _, rfl, SqL.of (keepB frC), fun q1 hq1 => ?_⟩
      rw [cutV_one0, etk]
      have s1 := same_new (o := .lst ((((B.drop i).take 1).map some).map vTie)) hq1
      have hq1a : (upd HC' q1 (.lst ((((B.drop i).take 1).map some).map vTie))) q1 = some (.lst ((((B.drop i).take 1).map some).map vTie)) := upd_same
      generalize upd HC' q1 (.lst ((((B.drop i).take 1).map some).map vTie)) = HD at *
      have frD := frC.trans (.of s1)
      refine ⟨_, rfl, _, rfl, _, _, rfl, rfl, _, rfl, _, rfl, _, _, rfl, rfl, _, rfl, oa, _, rfl, SqL.of (keepA frD), fun q2 hq2 => ?_⟩
      rw [cutV_one, etk]
      have s2 := same_new (o := .lst ((((A.drop (i + 1)).take 1).map some).map vTie)) hq2
      have hq2a : (upd HD q2 (.lst ((((A.drop (i + 1)).take 1).map some).map vTie))) q2 = some (.lst ((((A.drop (i + 1)).take 1).map some).map vTie)) := upd_same
      have hq1b := s2 _ _ hq1a
      generalize upd HD q2 (.lst ((((A.drop (i + 1)).take 1).map some).map vTie)) = HE at *
      have frE := frD.trans (.of s2)
      have h1 := tk1 B i
      have h2 := tk1 A (i + 1)
      have hsz : ((((B.drop i).take 1).map some).map vTie).length + ((((A.drop (i + 1)).take 1).map some).map vTie).length ≤ sizeLine := Nat.le_of_lt (small1000 (by omega))
      refine ⟨q1, q2, _, _, rfl, rfl, hq1b, hq2a, hsz, fun q3 hq3 => ?_⟩
      rw [← List.map_append, ← List.map_append]
      have s3 := same_new (o := .lst ((((B.drop i).take 1 ++ (A.drop (i + 1)).take 1).map some).map vTie)) hq3
      have hq3a : (upd HE q3 (.lst ((((B.drop i).take 1 ++ (A.drop (i + 1)).take 1).map some).map vTie))) q3 = some (.lst ((((B.drop i).take 1 ++ (A.drop (i + 1)).take 1).map some).map vTie)) := upd_same
      generalize upd HE q3 (.lst ((((B.drop i).take 1 ++ (A.drop (i + 1)).take 1).map some).map vTie)) = HF at *
      refine ⟨q3, _, _, rfl, SqL.of hq3a, tpAll_rowV _, fun v1 HG sG hv1 => ?_⟩
      have sCG := ((s1.trans s2).trans s3).trans sG
      have frG := frC.trans (.of sCG)
      have hwbG := sCG _ _ hwbC
      refine ⟨_, rfl, _, rfl, _, rfl, oa, _, _, vNat na, rfl, rfl, SqL.of (keepA frG), atI_nat (get_mapV hna), wb, _, _, na, rfl, rfl, hwbG, ixN_nat (by rw [hwvl]; exact hnal), ?_⟩
      have hMH := (hMC.keep sCG).upd (p := .lst (wvs.set na v1)) hwbG nwr w00
      have frH := frG.upd (p := .lst (wvs.set na v1)) (.inl rfl) hwbG rfl
      have hwvH : TpAll K (upd HG wb (.lst (wvs.set na v1))) (wvs.set na v1) ((Wc.set na (((B.drop i).take 1 ++ (A.drop (i + 1)).take 1).map some)).map dRow) :=
        ((hwvC.mono (keep_same sCG)).setR hv1).mono (keep_upd hwbG rfl)
      have hwbH' : (upd HG wb (.lst (wvs.set na v1))) wb = some (.lst (wvs.set na v1)) := upd_same
      have hmkH' : (upd HG wb (.lst (wvs.set na v1))) mk = some (.lst (Mc.map vNat)) := by rw [upd_ne nwm.symm]; exact sCG _ _ hmkC
      generalize upd HG wb (.lst (wvs.set na v1)) = HH at *
      -- next_one
      try dsimp only
      refine set_via (vNat (i + 1 + if i = far then 1 else 0)) (fun H' => H' = HH) (fun Q' hQ' => ?_) (fun HH' eHH => ?_)
      · refine ⟨_, rfl, _, _, rfl, rfl, _, rfl, _, rfl, rfl, .inr ⟨_, rfl, _, _, rfl, rfl, ?_⟩⟩
        have e : V.int ((i : Int) + 1 + (if decide (vNat i = vNat far) = true then (1 : Int) else 0)) = vNat (i + 1 + if i = far then 1 else 0) := by
          by_cases e : i = far
          · subst e
            rw [if_pos rfl, decide_eq_true rfl, if_pos rfl]
            rfl
          · have : decide (vNat i = vNat far) = false := decide_eq_false fun z => e (nat_of_vNat z)
            rw [this, if_neg e]
            rfl
        show Q' (V.int ((i : Int) + 1 + (if decide (vNat i = vNat far) = true then (1 : Int) else 0))) HH
        rw [e]
        exact hQ' _ rfl
      subst eHH
      refine gname_ ?_
      try dsimp only
      generalize hnx : (i + 1 + if i = far then 1 else 0) = nx at *
      -- web[others[at]] = tuple(ones[next_one:][:1] + others[at + 1:at + 2])
      refine ⟨_, rfl, _, rfl, _, rfl, oa, _, rfl, SqL.of (keepA frH), fun p1 hp1 => ?_⟩
      rw [cutV_drop]
      have u1 := same_new (o := .lst ((A.map vNat).drop nx)) hp1
      have hp1a : (upd HH' p1 (.lst ((A.map vNat).drop nx))) p1 = some (.lst ((A.map vNat).drop nx)) := upd_same
      generalize upd HH' p1 (.lst ((A.map vNat).drop nx)) = HI at *
      refine ⟨_, rfl, p1, _, rfl, SqL.of hp1a, fun p2 hp2 => ?_⟩
      have e1 : cutV ((A.map vNat).drop nx) none (some 1) = (((A.drop nx).take 1).map some).map vTie := by
        have : cutV ((A.map vNat).drop nx) none (some ((1 : Nat) : Int)) = ((A.map vNat).drop nx).take 1 := cutV_take _ 1
        rw [← etk]
        exact this
      rw [e1]
      have u2 := same_new (o := .lst ((((A.drop nx).take 1).map some).map vTie)) hp2
      have hp2a : (upd HI p2 (.lst ((((A.drop nx).take 1).map some).map vTie))) p2 = some (.lst ((((A.drop nx).take 1).map some).map vTie)) := upd_same
      generalize upd HI p2 (.lst ((((A.drop nx).take 1).map some).map vTie)) = HJ at *
      have frJ := frH.trans (.of (u1.trans u2))
      refine ⟨_, rfl, _, rfl, _, _, rfl, rfl, _, rfl, _, rfl, _, _, rfl, rfl, _, rfl, ob, _, rfl, SqL.of (keepB frJ), fun p3 hp3 => ?_⟩
      rw [cutV_one, etk]
      have u3 := same_new (o := .lst ((((B.drop (i + 1)).take 1).map some).map vTie)) hp3
      have hp3a : (upd HJ p3 (.lst ((((B.drop (i + 1)).take 1).map some).map vTie))) p3 = some (.lst ((((B.drop (i + 1)).take 1).map some).map vTie)) := upd_same
      have hp2b := u3 _ _ hp2a
      generalize upd HJ p3 (.lst ((((B.drop (i + 1)).take 1).map some).map vTie)) = HK at *
      have h3 := tk1 A nx
      have h4 := tk1 B (i + 1)
      have hsz2 : ((((A.drop nx).take 1).map some).map vTie).length + ((((B.drop (i + 1)).take 1).map some).map vTie).length ≤ sizeLine := Nat.le_of_lt (small1000 (by omega))
      refine ⟨p2, p3, _, _, rfl, rfl, hp2b, hp3a, hsz2, fun p4 hp4 => ?_⟩
      rw [← List.map_append, ← List.map_append]
      have u4 := same_new (o := .lst ((((A.drop nx).take 1 ++ (B.drop (i + 1)).take 1).map some).map vTie)) hp4
      have hp4a : (upd HK p4 (.lst ((((A.drop nx).take 1 ++ (B.drop (i + 1)).take 1).map some).map vTie))) p4 = some (.lst ((((A.drop nx).take 1 ++ (B.drop (i + 1)).take 1).map some).map vTie)) := upd_same
      generalize upd HK p4 (.lst ((((A.drop nx).take 1 ++ (B.drop (i + 1)).take 1).map some).map vTie)) = HL at *
      refine ⟨p4, _, _, rfl, SqL.of hp4a, tpAll_rowV _, fun v2 HM uM hv2 => ?_⟩
      have sHM := (((u1.trans u2).trans u3).trans u4).trans uM
      have frM := frH.trans (.of sHM)
      have hwbM := sHM _ _ hwbH'
      have hwvl2 : (wvs.set na v1).length = 2 * long := by rw [List.length_set, hwvl]
      refine ⟨_, rfl, _, rfl, _, rfl, ob, _, _, vNat nb, rfl, rfl, SqL.of (keepB frM), atI_nat (get_mapV hnb), wb, _, _, nb, rfl, rfl, hwbM, ixN_nat (by rw [hwvl2]; exact hnbl), ?_⟩
      have hMN := (hMH.keep sHM).upd (p := .lst ((wvs.set na v1).set nb v2)) hwbM nwr w00
      have frN := frM.upd (p := .lst ((wvs.set na v1).set nb v2)) (.inl rfl) hwbM rfl
      have hwvN : TpAll K (upd HM wb (.lst ((wvs.set na v1).set nb v2))) ((wvs.set na v1).set nb v2) (((Wc.set na (((B.drop i).take 1 ++ (A.drop (i + 1)).take 1).map some)).set nb (((A.drop nx).take 1 ++ (B.drop (i + 1)).take 1).map some)).map dRow) :=
        ((hwvH.mono (keep_same sHM)).setR hv2).mono (keep_upd hwbM rfl)
      have hwbN : (upd HM wb (.lst ((wvs.set na v1).set nb v2))) wb = some (.lst ((wvs.set na v1).set nb v2)) := upd_same
      have hmkN : (upd HM wb (.lst ((wvs.set na v1).set nb v2))) mk = some (.lst (Mc.map vNat)) := by rw [upd_ne nwm.symm]; exact sHM _ _ hmkH'
      generalize upd HM wb (.lst ((wvs.set na v1).set nb v2)) = HN at *
      have hstep := hlaid.step hperm ht1 hna hnb
      rw [hnx] at hstep
      -- if at <= here
      refine ⟨_, rfl, _, rfl, _, _, rfl, rfl, _, rfl, ?_⟩
      by_cases hle : i ≤ here
      · rw [if_pos hle] at hstep
        have ed : decide ((i : Int) ≤ (here : Int)) = true := decide_eq_true (by omega)
        show ite (decide ((i : Int) ≤ (here : Int)) = true) _ _
        rw [ed]
        refine iteT ⟨_, rfl, _, _, rfl, rfl, _, rfl, _, _, rfl, rfl, (by show 2 ≤ sizeLine; decide), fun t ht => ?_⟩
        have et2 : V.int ((2 : Int) - (turn : Int)) = vNat (2 - turn) := by
          show V.int _ = V.int _
          congr 1
          omega
        have eT : upd HN t (.tup [(fun i j => V.int (i + j)) (1 : Int) (turn : Int), (fun i j => V.int (i - j)) (2 : Int) (turn : Int)]) = upd HN t (.tup [vNat (1 + turn), vNat (2 - turn)]) := by
          show upd HN t (.tup [vNat (1 + turn), V.int ((2 : Int) - (turn : Int))]) = _
          rw [et2]
        rw [eT]
        have sT := same_new (o := .tup [vNat (1 + turn), vNat (2 - turn)]) ht
        have hTT : SqT K (upd HN t (.tup [vNat (1 + turn), vNat (2 - turn)])) t [vNat (1 + turn), vNat (2 - turn)] := SqT.of upd_same
        generalize upd HN t (.tup [vNat (1 + turn), vNat (2 - turn)]) = HO' at *
        have frO := frN.trans (.of sT)
        have hmkO := sT _ _ hmkN
        have hMO := hMN.keep sT
        refine ⟨t, _, rfl, hTT, rfl, _, _, rfl, _, rfl, _, rfl, _, rfl, oa, _, _, vNat na, rfl, rfl, SqL.of (keepA frO), atI_nat (get_mapV hna), mk, _, _, na, rfl, rfl, hmkO, ixN_nat (by rw [List.length_map, hlaid.ml]; exact hnal), ?_⟩
        rw [← List.map_set]
        have hMP := hMO.upd (p := .lst ((Mc.set na (1 + turn)).map vNat)) hmkO nmr m00
        have frP := frO.upd (p := .lst ((Mc.set na (1 + turn)).map vNat)) (.inr rfl) hmkO rfl
        have hmkP : (upd HO' mk (.lst ((Mc.set na (1 + turn)).map vNat))) mk = some (.lst ((Mc.set na (1 + turn)).map vNat)) := upd_same
        have hwbP : (upd HO' mk (.lst ((Mc.set na (1 + turn)).map vNat))) wb = some (.lst ((wvs.set na v1).set nb v2)) := by rw [upd_ne nwm]; exact sT _ _ hwbN
        have hwvP := (hwvN.mono (keep_same sT)).mono (keep_upd (p := .lst ((Mc.set na (1 + turn)).map vNat)) hmkO rfl)
        generalize upd HO' mk (.lst ((Mc.set na (1 + turn)).map vNat)) = HP at *
        refine ⟨_, _, rfl, _, rfl, _, rfl, _, rfl, ob, _, _, vNat nb, rfl, rfl, SqL.of (keepB frP), atI_nat (get_mapV hnb), mk, _, _, nb, rfl, rfl, hmkP, ixN_nat (by rw [List.length_map, List.length_set, hlaid.ml]; exact hnbl), rfl, ?_⟩
        rw [← List.map_set]
        exact ⟨_, _, _, _, _, rfl, hMP.upd hmkP nmr m00, frP.upd (.inr rfl) hmkP rfl, by rw [upd_ne nwm]; exact hwbP, hwvP.mono (keep_upd hmkP rfl), upd_same, hstep⟩
      · rw [if_neg hle] at hstep
        have ed : decide ((i : Int) ≤ (here : Int)) = false := decide_eq_false (by omega)
        show ite (decide ((i : Int) ≤ (here : Int)) = true) _ _
        rw [ed]
        exact iteF ⟨_, _, _, _, _, rfl, hMN, frN, hwbN, hwvN, hmkN, hstep⟩
    · rintro σ HC ⟨y10, y11, Wc, Mc, wvs, rfl, hMC, frC, hwbC, hwvC, hmkC, hlaid⟩
      have hrings := hlaid.rings hA hB hperm rfl hl2 ht1 hhl hf
      obtain ⟨a0, ha0⟩ : ∃ a0, A[0]? = some a0 := ⟨A[0]'(by omega), List.getElem?_eq_getElem _⟩
      obtain ⟨b0, hb0⟩ : ∃ b0, B[0]? = some b0 := ⟨B[0]'(by omega), List.getElem?_eq_getElem _⟩
      have hright := hrings.right ha0 hb0 rfl hlaid.mks
      have frE : FrM K H HC m rl := ⟨fun b o e n1 n2 => frC.1 b o (frA.1 b o e n1 n2) n1 n2 (fun z => by rw [z, hwbH] at e; cases e) (fun z => by rw [z, hmkH] at e; cases e), frA.2.trans frC.2⟩
      try dsimp only
      -- roots
      refine set_any (fun v H' => Same HC H' ∧ Tp K H' v (dNats (if turn = 0 then [a0, b0] else [b0, a0]))) (fun Q' hQ' => ?_) (fun v HD qD => ?_)
      · refine ⟨_, rfl, oa, _, _, vNat a0, rfl, rfl, SqL.of (keepA frC), at_of (j := 0) rfl (get_mapV ha0), _, rfl, ob, _, _, vNat b0, rfl, rfl, SqL.of (keepB frC), at_of (j := 0) rfl (get_mapV hb0), (by show 2 ≤ sizeLine; decide), fun t1 ht1' => ?_⟩
        have s1 := same_new (o := .tup [vNat a0, vNat b0]) ht1'
        have ht1a : Tp K (upd HC t1 (.tup [vNat a0, vNat b0])) (.ref t1) (dNats [a0, b0]) := tp_two (tp_nat a0) (tp_nat b0) ht1'
        generalize upd HC t1 (.tup [vNat a0, vNat b0]) = HD at *
        have frD := frC.trans (.of s1)
        refine ⟨_, rfl, ob, _, _, vNat b0, rfl, rfl, SqL.of (keepB frD), at_of (j := 0) rfl (get_mapV hb0), _, rfl, oa, _, _, vNat a0, rfl, rfl, SqL.of (keepA frD), at_of (j := 0) rfl (get_mapV ha0), (by show 2 ≤ sizeLine; decide), fun t2 ht2 => ⟨(by show 2 ≤ sizeLine; decide), fun q hq => ?_⟩⟩
        have s2 := same_new (o := .tup [vNat b0, vNat a0]) ht2
        have ht2a : Tp K (upd HD t2 (.tup [vNat b0, vNat a0])) (.ref t2) (dNats [b0, a0]) := tp_two (tp_nat b0) (tp_nat a0) ht2
        have s3 := same_new (o := .lst [V.ref t1, V.ref t2]) hq
        have hqa : (upd (upd HD t2 (.tup [vNat b0, vNat a0])) q (.lst [V.ref t1, V.ref t2])) q = some (.lst [V.ref t1, V.ref t2]) := upd_same
        rcases Nat.eq_zero_or_pos turn with e | e
        · have eg : [V.ref t1, V.ref t2][turn]? = some (V.ref t1) := by rw [e]; rfl
          refine ⟨_, rfl, q, _, _, .ref t1, rfl, rfl, SqL.of hqa, atI_nat eg, hQ' _ _ ⟨(s1.trans s2).trans s3, ?_⟩⟩
          rw [if_pos e]
          exact ht1a.mono (keep_same (s2.trans s3))
        · have eg : [V.ref t1, V.ref t2][turn]? = some (V.ref t2) := by
            have : turn = 1 := by omega
            rw [this]
            rfl
          refine ⟨_, rfl, q, _, _, .ref t2, rfl, rfl, SqL.of hqa, atI_nat eg, hQ' _ _ ⟨(s1.trans s2).trans s3, ?_⟩⟩
          rw [if_neg (by omega)]
          exact ht2a.mono (keep_same s3)
      obtain ⟨sD, hroots⟩ := qD
      have hwbD := sD _ _ hwbC
      have hwvD := hwvC.mono (keep_same sD)
      have hmkD := sD _ _ hmkC
      -- the answer
      refine ⟨_, rfl, _, rfl, wb, _, _, rfl, SqL.of hwbD, hwvD, fun w' HE sE hw' => ⟨_, rfl, mk, _, _, rfl, SqL.of (sE _ _ hmkD), tpAll_nats Mc, fun mv HF sF hmv => ⟨_, rfl, _, rfl, _, rfl, _, _, rfl, rfl, rfl, ?_⟩⟩⟩
      have sCF := (sD.trans sE).trans sF
      have ef : decide (vNat here = V.int ((long : Int) - 1)) = decide (here = long - 1) := by
        by_cases e : here = long - 1
        · rw [decide_eq_true e, decide_eq_true]
          show V.int _ = V.int _
          congr 1
          omega
        · rw [decide_eq_false e, decide_eq_false]
          intro z
          injection z with z
          apply e
          omega
      have em3 : ∀ b : Bool, b = decide (here = long - 1) → [V.ref m, w', mv, v, .bl b] = [V.ref m, w', mv, v, .bl (decide (here = long - 1))] := fun b e => by rw [e]
      refine ⟨H0, m, sa, rl, q5 + 1 + 1 + 1 + 1, ns, rs9, w', mv, v, Wc, Mc, _, decide (here = long - 1), em3 _ ef, hMC.keep sCF, by omega, hw'.mono (keep_same sF), hmv, hroots.mono (keep_same (sE.trans sF)), hright, fun k' rs' H' hk' hM' fr' => ?_⟩
      exact kq k' rs' H' (by omega) hM' ((frE.trans (.of sCF)).trans fr')
end
end Tb
end
section
set_option Elab.async false
set_option linter.all false
set_option maxRecDepth 100000
set_option maxHeartbeats 4000000
/-! The law. -/
namespace Tb
open PySem PySem.Spec PyProof.Rows L2
abbrev sLaw : Stmt := top 54
def spLaw (K : PySem.W.Frag) : Sp := fun vs H Q _ => ∃ sa, ∃ ns : List Int, vs = [.ref sa] ∧ SqL K H sa (ns.map V.int) ∧ ns.length ≤ 63 ∧ ∀ H', Q (.bl true) H'
section
variable {P : Program} {w : World} {K : PySem.W.Frag} {mg : Str → Option Value} {base : Heap}
abbrev nLaw : List Str := ["_law_script", "_law_m", "_law_k", "_law_web", "_law_marks", "_law_roots"]
theorem scLaw : FnScope nLaw ["_law_script"] (defScope sLaw) := ⟨rfl, rfl, rfl, by decide +kernel, rfl, by decide +kernel, by decide +kernel⟩
theorem ok_law {f fs fc fr fl : Addr} {fd fds fdc fdr fdl : FuncData} (F : Fun K "law" "law" sLaw f fd) (T : Bt mg)
    (Gs : FnOk P w K mg base CX0 1 fs fds ["_law_script"] (spStarted K)) (Ds : Dn K mg "_law_started" fs fds ["_law_script"])
    (Gc : FnOk P w K mg base CX0 3 fc fdc ["_law_m"] (spChains K)) (Dc : Dn K mg "_law_chains" fc fdc ["_law_m"])
    (Gr : Tg.FnOkG P w K mg base CX0 10 fr fdr ["_law_m", "_law_web", "_law_marks", "_law_roots", "_law_is_free"] (spRight K)) (Dr : Dn K mg "_law_right" fr fdr ["_law_m", "_law_web", "_law_marks", "_law_roots", "_law_is_free"])
    (Gl : Tg.FnOkG P w K mg base CX0 11 fl fdl ["_law_m"] (spLong K)) (Dl : Dn K mg "_law_long_right" fl fdl ["_law_m"]) :
    Tg.FnOkG P w K mg base CX0 12 f fd ["_law_script"] (spLaw K) := by
  refine Tg.okG F scLaw (fun vs H Q E h => ?_) (fun cdv A outer s H vs Q E hg hr h => ?_)
  · obtain ⟨sa, ns, rfl, _⟩ := h
    rfl
  · obtain ⟨sa, ns, rfl, hS, h63, kq⟩ := h
    refine ⟨_, (pss_cons (ps_set (i := 1) scLaw.nd rfl (Or.inl rfl) (pe_call Gs (hr.mono (by decide : 1 ≤ 11)) (by rfl) Ds.mgf Ds.kp Ds.b .nil pass0 (pa_cons (pv 0) pa_nil)))
      (pss_cons (ps_for PassesOwn.never rfl (pi_range1 rfl T.range (pa_cons (pe_callB (call_max2 rfl) (by rfl) T.max (by decide +kernel) (pa_cons pe_int (pa_cons (pe_callB (call_min2 rfl) (by rfl) T.min (by decide +kernel) (pa_cons pe_int (pa_cons (pe_callB call_len_seq (by rfl) T.len PySem.boot_len (pa_cons (pv 0) pa_nil)) pa_nil))) pa_nil))) pa_nil)) (pg_name (i := 2) scLaw.nd rfl (Or.inl rfl)) (pss_cons (ps_asg (pe_call Gc (hr.mono (by decide : 3 ≤ 11)) (by rfl) Dc.mgf Dc.kp Dc.b .nil pass0 (pa_cons (pv 1) pa_nil)) (pg_tup rfl (pgs_cons (pg_name (i := 3) scLaw.nd rfl (Or.inl rfl)) (pgs_cons (pg_name (i := 4) scLaw.nd rfl (Or.inl rfl)) (pgs_cons (pg_name (i := 5) scLaw.nd rfl (Or.inl rfl)) pgs_nil)))))
      (pss_one (ps_if (pt_not (pt_val (Tg.pe_callG Gr hg (hr.mono (by decide : 10 ≤ 11)) (by rfl) Dr.mgf Dr.kp Dr.b pass0 (pa_cons (pv 1) (pa_cons (pv 3) (pa_cons (pv 4) (pa_cons (pv 5) (pa_cons pe_bl pa_nil)))))))) (pss_one (ps_ret pe_bl)) pss_nil))))
      (pss_one (ps_ret (pe_and (Tg.pe_callG Gl hg hr (by rfl) Dl.mgf Dl.kp Dl.b pass0 (pa_cons (pv 1) pa_nil)) (pe_one (Tg.pe_callG Gl hg hr (by rfl) Dl.mgf Dl.kp Dl.b pass0 (pa_cons (pv 1) pa_nil)))))))), ?_⟩
    refine ⟨_, rfl, sa, ns, rfl, hS, h63, fun m rl rs H1 hM1 => ?_⟩
    have hS1 : SqL K H1 sa (ns.map V.int) := Same.seq hM1.same hS
    refine ⟨_, rfl, sa, _, rfl, .inl hS1, _, _, rfl, _, _, rfl, ?_⟩
    have hc : ∃ c : Nat, (if (if ((ns.map V.int).length : Int) < 16 then ((ns.map V.int).length : Int) else 16) > 4 then (if ((ns.map V.int).length : Int) < 16 then ((ns.map V.int).length : Int) else 16) else 4) = (c : Int) ∧ c ≤ 16 := by
      have hz : 0 ≤ (if ((ns.map V.int).length : Int) < 16 then ((ns.map V.int).length : Int) else 16) ∧ (if ((ns.map V.int).length : Int) < 16 then ((ns.map V.int).length : Int) else 16) ≤ 16 := by
        split <;> omega
      generalize (if ((ns.map V.int).length : Int) < 16 then ((ns.map V.int).length : Int) else 16) = z at hz
      by_cases e : z > 4
      · exact ⟨z.toNat, by rw [if_pos e]; omega, by omega⟩
      · exact ⟨4, by rw [if_neg e]; rfl, by decide⟩
    obtain ⟨c, hc, hc16⟩ := hc
    refine ⟨(c : Int), congrArg (fun z => [V.int z]) hc, by omega, by omega, ?_⟩
    rw [Int.toNat_natCast]
    refine for_it (walk_range (lo := 0) (n := c)) (fun i σ H' => ∃ y2 y3 y4 y5 k' rs', σ = [some (.ref sa), some (.ref m), y2, y3, y4, y5] ∧ k' ≤ 406 * i ∧ MD K H H' m sa rl k' ns rs') ⟨_, _, _, _, 0, rs, rfl, Nat.le_refl _, hM1⟩ (fun _ _ _ _ _ => trivial) ?_ ?_
    · rintro i x σ Ha Hb hi ⟨y2, y3, y4, y5, k', rs', rfl, hk', hMa⟩ ⟨rfl, hx⟩
      refine ⟨_, rfl, H, m, sa, rl, k', ns, rs', rfl, hMa, by omega, fun k2 rs2 H2 t w mv r W M roots hk2 hM2 fr2 ht hw hm hr' hin => ?_⟩
      refine ⟨t, _, rfl, SqT.of ht, rfl, _, _, rfl, _, _, rfl, _, _, rfl, rfl, ?_⟩
      refine ⟨_, rfl, _, rfl, _, rfl, _, rfl, H, m, sa, rl, k2, ns, rs2, w, mv, r, W, M, roots, true, rfl, hM2, by omega, hw, hm, hr', hin, fun k3 rs3 H3 hk3 hM3 fr3 => ?_⟩
      refine ⟨true, rfl, iteF ?_⟩
      exact ⟨_, _, _, _, k3, rs3, rfl, by omega, hM3⟩
    · rintro σ Ha ⟨y2, y3, y4, y5, k', rs', rfl, hk', hMa⟩
      refine ⟨_, rfl, H, m, sa, rl, k', ns, rs', rfl, hMa, by omega, fun k2 rs2 H2 hk2 hM2 fr2 => ⟨true, rfl, iteT ?_⟩⟩
      exact ⟨_, rfl, H, m, sa, rl, k2, ns, rs2, rfl, hM2, by omega, fun k3 rs3 H3 _ _ _ => kq H3⟩
end
end Tb
end
section
set_option Elab.async false
set_option linter.all false
set_option maxRecDepth 100000
set_option maxHeartbeats 4000000
/-! The head: what the module has written. -/
namespace Tb
open PySem PySem.Spec PyProof.Rows L2
theorem exm_of {K : PySem.W.Frag} {B S : Addr} {b : Bool} (h1 : PySem.W.subIn K (.ref S) (.type "BaseException") = some true) (h2 : PySem.W.isClsIn K S = true) (h3 : PySem.W.typeIn K (.ref S) = some (.type "type")) (h4 : PySem.W.subIn K (.ref B) (.ref S) = some b) :
    PySem.W.exmOne K (.ref B) (.ref S) = some b := by
  unfold PySem.W.isClsIn at h2
  unfold PySem.W.exmOne
  rw [h1, if_pos (by decide)]
  unfold PySem.W.kitCls
  simp only [h2, h3]
  simpa using h4
theorem kit_of {K : PySem.W.Frag} {B S : Addr} {b : Bool} (hs : PySem.W.subIn K (.ref B) (.ref B) = some true) (h2 : PySem.W.isClsIn K S = true) (h3 : PySem.W.typeIn K (.ref S) = some (.type "type")) (h4 : PySem.W.subIn K (.ref B) (.ref S) = some b) :
    PySem.W.kitOne K (.ref B) (.ref S) = some b := by
  unfold PySem.W.isClsIn at h2
  unfold PySem.W.kitOne
  by_cases e : B = S
  · subst e
    rw [hs] at h4
    rw [if_pos (by simp)]
    exact h4
  · rw [if_neg (by simpa using e)]
    unfold PySem.W.kitCls
    simp only [h2, h3]
    simpa using h4
theorem kit_ty {K : PySem.W.Frag} {B : Addr} (h4 : PySem.W.subIn K (.ref B) (.type "ValueError") = some true) : PySem.W.kitOne K (.ref B) (.type "ValueError") = some true := by
  unfold PySem.W.kitOne
  rw [if_neg (by simp)]
  unfold PySem.W.kitCls
  have e : PySem.W.kitMeta "ValueError" = true := by decide +kernel
  simp only [e]
  simpa using h4
theorem kit_none {K : PySem.W.Frag} {B S : Addr} {r : List Value} (h : PySem.W.kitOne K (.ref B) (.ref S) = some false) (h2 : PySem.W.kitAny K (.ref B) r = some false) : PySem.W.kitAny K (.ref B) (.ref S :: r) = some false := by
  unfold PySem.W.kitAny
  rw [h]
  exact h2
open PySem.HandSPX in
theorem all_mk {l : PySem.W.OpenLaw} {w : World} {K : PySem.W.Frag} {h : Heap} {mg : Str → Option Value} {fa C CB CW f1 f2 f3 f4 f5 f6 f7 f8 f9 f10 f11 f12 f13 f14 f15 f16 f17 f18 f19 f20 f21 f22 f23 f24 f25 f26 f27 f28 f29 f30 f31 f32 f33 f34 f35 f36 f37 f38 f39 f40 f41 f42 f43 f44 f45 g1 g2 g3 g4 g5 g6 g7 : Addr} (X : K.In h) (G : h.Ns mainGlobals mg) (hfa : mg "law" = some (.ref fa))
    {nm q : Str} {N : Addr} {bs : List Value} {sn : List Str} {sub : List Value} {ab : Bool} {col : Option Bool} {dd : Option Addr} {m0 m1 m2 m3 m5 : Option Value} {u1 u2 u3 : Tok}
    {od1 an1 od2 an2 od3 an3 od4 an4 od5 an5 od6 an6 od7 an7 od8 an8 od9 an9 od10 an10 od11 an11 od12 an12 od13 an13 od14 an14 od15 an15 od16 an16 od17 an17 od18 an18 od19 an19 od20 an20 od21 an21 od22 an22 od23 an23 od24 an24 od25 an25 od26 an26 od27 an27 od28 an28 od29 an29 od30 an30 od31 an31 od32 an32 od33 an33 od34 an34 od35 an35 od36 an36 od37 an37 od38 an38 od39 an39 od40 an40 od41 an41 od42 an42 od43 an43 od44 an44 od45 an45 : Option Addr} {sl1 sl2 sl3 sl4 sl5 sl6 sl7 sl8 sl9 sl10 sl11 sl12 sl13 sl14 sl15 sl16 sl17 sl18 sl19 sl20 sl21 sl22 sl23 sl24 sl25 sl26 sl27 sl28 sl29 sl30 sl31 sl32 sl33 sl34 sl35 sl36 sl37 sl38 sl39 sl40 sl41 sl42 sl43 sl44 sl45 : Array (Option Value)} {oc1 kV1 dc1 pm1 cd1 ct1 oc2 kV2 dc2 pm2 cd2 ct2 oc3 kV3 dc3 pm3 cd3 ct3 oc4 kV4 dc4 pm4 cd4 ct4 oc5 kV5 dc5 pm5 cd5 ct5 oc6 kV6 dc6 pm6 cd6 ct6 oc7 kV7 dc7 pm7 cd7 ct7 oc8 kV8 dc8 pm8 cd8 ct8 oc9 kV9 dc9 pm9 cd9 ct9 oc10 kV10 dc10 pm10 cd10 ct10 oc11 kV11 dc11 pm11 cd11 ct11 oc12 kV12 dc12 pm12 cd12 ct12 oc13 kV13 dc13 pm13 cd13 ct13 oc14 kV14 dc14 pm14 cd14 ct14 oc15 kV15 dc15 pm15 cd15 ct15 oc16 kV16 dc16 pm16 cd16 ct16 oc17 kV17 dc17 pm17 cd17 ct17 oc18 kV18 dc18 pm18 cd18 ct18 oc19 kV19 dc19 pm19 cd19 ct19 oc20 kV20 dc20 pm20 cd20 ct20 oc21 kV21 dc21 pm21 cd21 ct21 oc22 kV22 dc22 pm22 cd22 ct22 oc23 kV23 dc23 pm23 cd23 ct23 oc24 kV24 dc24 pm24 cd24 ct24 oc25 kV25 dc25 pm25 cd25 ct25 oc26 kV26 dc26 pm26 cd26 ct26 oc27 kV27 dc27 pm27 cd27 ct27 oc28 kV28 dc28 pm28 cd28 ct28 oc29 kV29 dc29 pm29 cd29 ct29 oc30 kV30 dc30 pm30 cd30 ct30 oc31 kV31 dc31 pm31 cd31 ct31 oc32 kV32 dc32 pm32 cd32 ct32 oc33 kV33 dc33 pm33 cd33 ct33 oc34 kV34 dc34 pm34 cd34 ct34 oc35 kV35 dc35 pm35 cd35 ct35 oc36 kV36 dc36 pm36 cd36 ct36 oc37 kV37 dc37 pm37 cd37 ct37 oc38 kV38 dc38 pm38 cd38 ct38 oc39 kV39 dc39 pm39 cd39 ct39 oc40 kV40 dc40 pm40 cd40 ct40 oc41 kV41 dc41 pm41 cd41 ct41 oc42 kV42 dc42 pm42 cd42 ct42 oc43 kV43 dc43 pm43 cd43 ct43 oc44 kV44 dc44 pm44 cd44 ct44 oc45 kV45 dc45 pm45 cd45 ct45 : Value}
    (aC : PySem.W.nsIn K mainGlobals "Moment" = some (some (.ref C)))
    (aB : PySem.W.nsIn K mainGlobals "BadState" = some (some (.ref CB)))
    (aW : PySem.W.nsIn K mainGlobals "WebError" = some (some (.ref CW)))
    (a1 : PySem.W.nsIn K mainGlobals "is_whole" = some (some (.ref f1)))
    (l1 : K.lookup f1 = some ⟨oc1, od1, .func (PySem.W.fnOf "is_whole" "is_whole" (defArgs sWhole) (defBody sWhole) (defScope sWhole) .none kV1 dc1 pm1 an1 cd1 ct1), sl1⟩)
    (c1 : PySem.W.codeIn K cd1 "is_whole" = true)
    (k1 : PySem.W.keepIn K (.ref f1) = true)
    (a2 : PySem.W.nsIn K mainGlobals "is_among" = some (some (.ref f2)))
    (l2 : K.lookup f2 = some ⟨oc2, od2, .func (PySem.W.fnOf "is_among" "is_among" (defArgs sAmong) (defBody sAmong) (defScope sAmong) .none kV2 dc2 pm2 an2 cd2 ct2), sl2⟩)
    (c2 : PySem.W.codeIn K cd2 "is_among" = true)
    (k2 : PySem.W.keepIn K (.ref f2) = true)
    (a3 : PySem.W.nsIn K mainGlobals "is_row_of" = some (some (.ref f3)))
    (l3 : K.lookup f3 = some ⟨oc3, od3, .func (PySem.W.fnOf "is_row_of" "is_row_of" (defArgs sRowOf) (defBody sRowOf) (defScope sRowOf) .none kV3 dc3 pm3 an3 cd3 ct3), sl3⟩)
    (c3 : PySem.W.codeIn K cd3 "is_row_of" = true)
    (k3 : PySem.W.keepIn K (.ref f3) = true)
    (a4 : PySem.W.nsIn K mainGlobals "is_web" = some (some (.ref f4)))
    (l4 : K.lookup f4 = some ⟨oc4, od4, .func (PySem.W.fnOf "is_web" "is_web" (defArgs sIsWeb) (defBody sIsWeb) (defScope sIsWeb) .none kV4 dc4 pm4 an4 cd4 ct4), sl4⟩)
    (c4 : PySem.W.codeIn K cd4 "is_web" = true)
    (k4 : PySem.W.keepIn K (.ref f4) = true)
    (a5 : PySem.W.nsIn K mainGlobals "is_node" = some (some (.ref f5)))
    (l5 : K.lookup f5 = some ⟨oc5, od5, .func (PySem.W.fnOf "is_node" "is_node" (defArgs sNode) (defBody sNode) (defScope sNode) .none kV5 dc5 pm5 an5 cd5 ct5), sl5⟩)
    (c5 : PySem.W.codeIn K cd5 "is_node" = true)
    (k5 : PySem.W.keepIn K (.ref f5) = true)
    (a6 : PySem.W.nsIn K mainGlobals "are_marks" = some (some (.ref f6)))
    (l6 : K.lookup f6 = some ⟨oc6, od6, .func (PySem.W.fnOf "are_marks" "are_marks" (defArgs sMarks) (defBody sMarks) (defScope sMarks) .none kV6 dc6 pm6 an6 cd6 ct6), sl6⟩)
    (c6 : PySem.W.codeIn K cd6 "are_marks" = true)
    (k6 : PySem.W.keepIn K (.ref f6) = true)
    (a7 : PySem.W.nsIn K mainGlobals "are_counts" = some (some (.ref f7)))
    (l7 : K.lookup f7 = some ⟨oc7, od7, .func (PySem.W.fnOf "are_counts" "are_counts" (defArgs sCounts) (defBody sCounts) (defScope sCounts) .none kV7 dc7 pm7 an7 cd7 ct7), sl7⟩)
    (c7 : PySem.W.codeIn K cd7 "are_counts" = true)
    (k7 : PySem.W.keepIn K (.ref f7) = true)
    (a8 : PySem.W.nsIn K mainGlobals "is_spot" = some (some (.ref f8)))
    (l8 : K.lookup f8 = some ⟨oc8, od8, .func (PySem.W.fnOf "is_spot" "is_spot" (defArgs sSpot) (defBody sSpot) (defScope sSpot) .none kV8 dc8 pm8 an8 cd8 ct8), sl8⟩)
    (c8 : PySem.W.codeIn K cd8 "is_spot" = true)
    (k8 : PySem.W.keepIn K (.ref f8) = true)
    (a9 : PySem.W.nsIn K mainGlobals "is_state" = some (some (.ref f9)))
    (l9 : K.lookup f9 = some ⟨oc9, od9, .func (PySem.W.fnOf "is_state" "is_state" (defArgs sIsState) (defBody sIsState) (defScope sIsState) .none kV9 dc9 pm9 an9 cd9 ct9), sl9⟩)
    (c9 : PySem.W.codeIn K cd9 "is_state" = true)
    (k9 : PySem.W.keepIn K (.ref f9) = true)
    (a10 : PySem.W.nsIn K mainGlobals "need_state" = some (some (.ref f10)))
    (l10 : K.lookup f10 = some ⟨oc10, od10, .func (PySem.W.fnOf "need_state" "need_state" (defArgs sNeedState) (defBody sNeedState) (defScope sNeedState) .none kV10 dc10 pm10 an10 cd10 ct10), sl10⟩)
    (c10 : PySem.W.codeIn K cd10 "need_state" = true)
    (k10 : PySem.W.keepIn K (.ref f10) = true)
    (a11 : PySem.W.nsIn K mainGlobals "has_stopped" = some (some (.ref f11)))
    (l11 : K.lookup f11 = some ⟨oc11, od11, .func (PySem.W.fnOf "has_stopped" "has_stopped" (defArgs sStopped) (defBody sStopped) (defScope sStopped) .none kV11 dc11 pm11 an11 cd11 ct11), sl11⟩)
    (c11 : PySem.W.codeIn K cd11 "has_stopped" = true)
    (k11 : PySem.W.keepIn K (.ref f11) = true)
    (a12 : PySem.W.nsIn K mainGlobals "is_fit" = some (some (.ref f12)))
    (l12 : K.lookup f12 = some ⟨oc12, od12, .func (PySem.W.fnOf "is_fit" "is_fit" (defArgs sFit) (defBody sFit) (defScope sFit) .none kV12 dc12 pm12 an12 cd12 ct12), sl12⟩)
    (c12 : PySem.W.codeIn K cd12 "is_fit" = true)
    (k12 : PySem.W.keepIn K (.ref f12) = true)
    (a13 : PySem.W.nsIn K mainGlobals "back_of" = some (some (.ref f13)))
    (l13 : K.lookup f13 = some ⟨oc13, od13, .func (PySem.W.fnOf "back_of" "back_of" (defArgs sBack) (defBody sBack) (defScope sBack) .none kV13 dc13 pm13 an13 cd13 ct13), sl13⟩)
    (c13 : PySem.W.codeIn K cd13 "back_of" = true)
    (k13 : PySem.W.keepIn K (.ref f13) = true)
    (a14 : PySem.W.nsIn K mainGlobals "all_ways" = some (some (.ref f14)))
    (l14 : K.lookup f14 = some ⟨oc14, od14, .func (PySem.W.fnOf "all_ways" "all_ways" (defArgs sWays) (defBody sWays) (defScope sWays) .none kV14 dc14 pm14 an14 cd14 ct14), sl14⟩)
    (c14 : PySem.W.codeIn K cd14 "all_ways" = true)
    (k14 : PySem.W.keepIn K (.ref f14) = true)
    (a15 : PySem.W.nsIn K mainGlobals "web_by" = some (some (.ref f15)))
    (l15 : K.lookup f15 = some ⟨oc15, od15, .func (PySem.W.fnOf "web_by" "web_by" (defArgs sWebBy) (defBody sWebBy) (defScope sWebBy) .none kV15 dc15 pm15 an15 cd15 ct15), sl15⟩)
    (c15 : PySem.W.codeIn K cd15 "web_by" = true)
    (k15 : PySem.W.keepIn K (.ref f15) = true)
    (a16 : PySem.W.nsIn K mainGlobals "roots_by" = some (some (.ref f16)))
    (l16 : K.lookup f16 = some ⟨oc16, od16, .func (PySem.W.fnOf "roots_by" "roots_by" (defArgs sRoots) (defBody sRoots) (defScope sRoots) .none kV16 dc16 pm16 an16 cd16 ct16), sl16⟩)
    (c16 : PySem.W.codeIn K cd16 "roots_by" = true)
    (k16 : PySem.W.keepIn K (.ref f16) = true)
    (a17 : PySem.W.findIn K (.ref C) "__init__" = some (some (.ref f17)))
    (i17 : PySem.W.isFn K (.ref f17) = true)
    (l17 : K.lookup f17 = some ⟨oc17, od17, .func (PySem.W.fnOf "__init__" "Moment.__init__" (defArgs sMInit) (defBody sMInit) (defScope sMInit) .none kV17 dc17 pm17 an17 cd17 ct17), sl17⟩)
    (c17 : PySem.W.codeIn K cd17 "Moment.__init__" = true)
    (k17 : PySem.W.keepIn K (.ref f17) = true)
    (a18 : PySem.W.findIn K (.ref C) "seen_of" = some (some (.ref f18)))
    (i18 : PySem.W.isFn K (.ref f18) = true)
    (l18 : K.lookup f18 = some ⟨oc18, od18, .func (PySem.W.fnOf "seen_of" "Moment.seen_of" (defArgs sSeen) (defBody sSeen) (defScope sSeen) .none kV18 dc18 pm18 an18 cd18 ct18), sl18⟩)
    (c18 : PySem.W.codeIn K cd18 "Moment.seen_of" = true)
    (k18 : PySem.W.keepIn K (.ref f18) = true)
    (a19 : PySem.W.findIn K (.ref C) "need_counts" = some (some (.ref f19)))
    (i19 : PySem.W.isFn K (.ref f19) = true)
    (l19 : K.lookup f19 = some ⟨oc19, od19, .func (PySem.W.fnOf "need_counts" "Moment.need_counts" (defArgs sNeedC) (defBody sNeedC) (defScope sNeedC) .none kV19 dc19 pm19 an19 cd19 ct19), sl19⟩)
    (c19 : PySem.W.codeIn K cd19 "Moment.need_counts" = true)
    (k19 : PySem.W.keepIn K (.ref f19) = true)
    (a20 : PySem.W.findIn K (.ref C) "need_closed" = some (some (.ref f20)))
    (i20 : PySem.W.isFn K (.ref f20) = true)
    (l20 : K.lookup f20 = some ⟨oc20, od20, .func (PySem.W.fnOf "need_closed" "Moment.need_closed" (defArgs sClosed) (defBody sClosed) (defScope sClosed) .none kV20 dc20 pm20 an20 cd20 ct20), sl20⟩)
    (c20 : PySem.W.codeIn K cd20 "Moment.need_closed" = true)
    (k20 : PySem.W.keepIn K (.ref f20) = true)
    (a21 : PySem.W.findIn K (.ref C) "deeds_by" = some (some (.ref f21)))
    (i21 : PySem.W.isFn K (.ref f21) = true)
    (l21 : K.lookup f21 = some ⟨oc21, od21, .func (PySem.W.fnOf "deeds_by" "Moment.deeds_by" (defArgs sDeedsBy) (defBody sDeedsBy) (defScope sDeedsBy) .none kV21 dc21 pm21 an21 cd21 ct21), sl21⟩)
    (c21 : PySem.W.codeIn K cd21 "Moment.deeds_by" = true)
    (k21 : PySem.W.keepIn K (.ref f21) = true)
    (a22 : PySem.W.findIn K (.ref C) "deed" = some (some (.ref f22)))
    (i22 : PySem.W.isFn K (.ref f22) = true)
    (l22 : K.lookup f22 = some ⟨oc22, od22, .func (PySem.W.fnOf "deed" "Moment.deed" (defArgs sDeed) (defBody sDeed) (defScope sDeed) .none kV22 dc22 pm22 an22 cd22 ct22), sl22⟩)
    (c22 : PySem.W.codeIn K cd22 "Moment.deed" = true)
    (k22 : PySem.W.keepIn K (.ref f22) = true)
    (a23 : PySem.W.findIn K (.ref C) "tie_of" = some (some (.ref f23)))
    (i23 : PySem.W.isFn K (.ref f23) = true)
    (l23 : K.lookup f23 = some ⟨oc23, od23, .func (PySem.W.fnOf "tie_of" "Moment.tie_of" (defArgs sTieOf) (defBody sTieOf) (defScope sTieOf) .none kV23 dc23 pm23 an23 cd23 ct23), sl23⟩)
    (c23 : PySem.W.codeIn K cd23 "Moment.tie_of" = true)
    (k23 : PySem.W.keepIn K (.ref f23) = true)
    (a24 : PySem.W.findIn K (.ref C) "turns" = some (some (.ref f24)))
    (i24 : PySem.W.isFn K (.ref f24) = true)
    (l24 : K.lookup f24 = some ⟨oc24, od24, .func (PySem.W.fnOf "turns" "Moment.turns" (defArgs sTurns) (defBody sTurns) (defScope sTurns) .none kV24 dc24 pm24 an24 cd24 ct24), sl24⟩)
    (c24 : PySem.W.codeIn K cd24 "Moment.turns" = true)
    (k24 : PySem.W.keepIn K (.ref f24) = true)
    (a25 : PySem.W.findIn K (.ref C) "next_one" = some (some (.ref f25)))
    (i25 : PySem.W.isFn K (.ref f25) = true)
    (l25 : K.lookup f25 = some ⟨oc25, od25, .func (PySem.W.fnOf "next_one" "Moment.next_one" (defArgs sNext) (defBody sNext) (defScope sNext) .none kV25 dc25 pm25 an25 cd25 ct25), sl25⟩)
    (c25 : PySem.W.codeIn K cd25 "Moment.next_one" = true)
    (k25 : PySem.W.keepIn K (.ref f25) = true)
    (a26 : PySem.W.findIn K (.ref CB) "__init__" = some (some (.ref f26)))
    (t26 : PySem.W.typeIn K (.ref f26) = some (.type "function"))
    (l26 : K.lookup f26 = some ⟨oc26, od26, .func (PySem.W.fnOf "__init__" "BadState.__init__" (defArgs sBadInit) (defBody sBadInit) (defScope sBadInit) .none kV26 dc26 pm26 an26 cd26 ct26), sl26⟩)
    (c26 : PySem.W.codeIn K cd26 "BadState.__init__" = true)
    (k26 : PySem.W.keepIn K (.ref f26) = true)
    (a27 : PySem.W.nsIn K mainGlobals "moment_of" = some (some (.ref f27)))
    (l27 : K.lookup f27 = some ⟨oc27, od27, .func (PySem.W.fnOf "moment_of" "moment_of" (defArgs sMomentOf) (defBody sMomentOf) (defScope sMomentOf) .none kV27 dc27 pm27 an27 cd27 ct27), sl27⟩)
    (c27 : PySem.W.codeIn K cd27 "moment_of" = true)
    (k27 : PySem.W.keepIn K (.ref f27) = true)
    (a28 : PySem.W.nsIn K mainGlobals "need_moment" = some (some (.ref f28)))
    (l28 : K.lookup f28 = some ⟨oc28, od28, .func (PySem.W.fnOf "need_moment" "need_moment" (defArgs sNeedMoment) (defBody sNeedMoment) (defScope sNeedMoment) .none kV28 dc28 pm28 an28 cd28 ct28), sl28⟩)
    (c28 : PySem.W.codeIn K cd28 "need_moment" = true)
    (k28 : PySem.W.keepIn K (.ref f28) = true)
    (a29 : PySem.W.nsIn K mainGlobals "is_moment" = some (some (.ref f29)))
    (l29 : K.lookup f29 = some ⟨oc29, od29, .func (PySem.W.fnOf "is_moment" "is_moment" (defArgs sIsMoment) (defBody sIsMoment) (defScope sIsMoment) .none kV29 dc29 pm29 an29 cd29 ct29), sl29⟩)
    (c29 : PySem.W.codeIn K cd29 "is_moment" = true)
    (k29 : PySem.W.keepIn K (.ref f29) = true)
    (a30 : PySem.W.nsIn K mainGlobals "deeds_of" = some (some (.ref f30)))
    (l30 : K.lookup f30 = some ⟨oc30, od30, .func (PySem.W.fnOf "deeds_of" "deeds_of" (defArgs sDeedsOf) (defBody sDeedsOf) (defScope sDeedsOf) .none kV30 dc30 pm30 an30 cd30 ct30), sl30⟩)
    (c30 : PySem.W.codeIn K cd30 "deeds_of" = true)
    (k30 : PySem.W.keepIn K (.ref f30) = true)
    (a31 : PySem.W.nsIn K mainGlobals "order_to" = some (some (.ref f31)))
    (l31 : K.lookup f31 = some ⟨oc31, od31, .func (PySem.W.fnOf "order_to" "order_to" (defArgs sOrderTo) (defBody sOrderTo) (defScope sOrderTo) .none kV31 dc31 pm31 an31 cd31 ct31), sl31⟩)
    (c31 : PySem.W.codeIn K cd31 "order_to" = true)
    (k31 : PySem.W.keepIn K (.ref f31) = true)
    (a32 : PySem.W.nsIn K mainGlobals "_law_started" = some (some (.ref f32)))
    (l32 : K.lookup f32 = some ⟨oc32, od32, .func (PySem.W.fnOf "_law_started" "_law_started" (defArgs sStarted) (defBody sStarted) (defScope sStarted) .none kV32 dc32 pm32 an32 cd32 ct32), sl32⟩)
    (c32 : PySem.W.codeIn K cd32 "_law_started" = true)
    (k32 : PySem.W.keepIn K (.ref f32) = true)
    (a33 : PySem.W.nsIn K mainGlobals "_law_draw" = some (some (.ref f33)))
    (l33 : K.lookup f33 = some ⟨oc33, od33, .func (PySem.W.fnOf "_law_draw" "_law_draw" (defArgs sDraw) (defBody sDraw) (defScope sDraw) .none kV33 dc33 pm33 an33 cd33 ct33), sl33⟩)
    (c33 : PySem.W.codeIn K cd33 "_law_draw" = true)
    (k33 : PySem.W.keepIn K (.ref f33) = true)
    (a34 : PySem.W.nsIn K mainGlobals "_law_of" = some (some (.ref f34)))
    (l34 : K.lookup f34 = some ⟨oc34, od34, .func (PySem.W.fnOf "_law_of" "_law_of" (defArgs sOf) (defBody sOf) (defScope sOf) .none kV34 dc34 pm34 an34 cd34 ct34), sl34⟩)
    (c34 : PySem.W.codeIn K cd34 "_law_of" = true)
    (k34 : PySem.W.keepIn K (.ref f34) = true)
    (a35 : PySem.W.nsIn K mainGlobals "_law_chains" = some (some (.ref f35)))
    (l35 : K.lookup f35 = some ⟨oc35, od35, .func (PySem.W.fnOf "_law_chains" "_law_chains" (defArgs sChains) (defBody sChains) (defScope sChains) .none kV35 dc35 pm35 an35 cd35 ct35), sl35⟩)
    (c35 : PySem.W.codeIn K cd35 "_law_chains" = true)
    (k35 : PySem.W.keepIn K (.ref f35) = true)
    (a36 : PySem.W.nsIn K mainGlobals "_law_gone" = some (some (.ref f36)))
    (l36 : K.lookup f36 = some ⟨oc36, od36, .func (PySem.W.fnOf "_law_gone" "_law_gone" (defArgs sGone) (defBody sGone) (defScope sGone) .none kV36 dc36 pm36 an36 cd36 ct36), sl36⟩)
    (c36 : PySem.W.codeIn K cd36 "_law_gone" = true)
    (k36 : PySem.W.keepIn K (.ref f36) = true)
    (a37 : PySem.W.nsIn K mainGlobals "_law_state" = some (some (.ref f37)))
    (l37 : K.lookup f37 = some ⟨oc37, od37, .func (PySem.W.fnOf "_law_state" "_law_state" (defArgs sState) (defBody sState) (defScope sState) .none kV37 dc37 pm37 an37 cd37 ct37), sl37⟩)
    (c37 : PySem.W.codeIn K cd37 "_law_state" = true)
    (k37 : PySem.W.keepIn K (.ref f37) = true)
    (a38 : PySem.W.nsIn K mainGlobals "_law_word" = some (some (.ref f38)))
    (l38 : K.lookup f38 = some ⟨oc38, od38, .func (PySem.W.fnOf "_law_word" "_law_word" (defArgs sWord) (defBody sWord) (defScope sWord) .none kV38 dc38 pm38 an38 cd38 ct38), sl38⟩)
    (c38 : PySem.W.codeIn K cd38 "_law_word" = true)
    (k38 : PySem.W.keepIn K (.ref f38) = true)
    (a39 : PySem.W.nsIn K mainGlobals "_law_refused" = some (some (.ref f39)))
    (l39 : K.lookup f39 = some ⟨oc39, od39, .func (PySem.W.fnOf "_law_refused" "_law_refused" (defArgs sRefused) (defBody sRefused) (defScope sRefused) .none kV39 dc39 pm39 an39 cd39 ct39), sl39⟩)
    (c39 : PySem.W.codeIn K cd39 "_law_refused" = true)
    (k39 : PySem.W.keepIn K (.ref f39) = true)
    (a40 : PySem.W.nsIn K mainGlobals "_law_stuck" = some (some (.ref f40)))
    (l40 : K.lookup f40 = some ⟨oc40, od40, .func (PySem.W.fnOf "_law_stuck" "_law_stuck" (defArgs sStuck) (defBody sStuck) (defScope sStuck) .none kV40 dc40 pm40 an40 cd40 ct40), sl40⟩)
    (c40 : PySem.W.codeIn K cd40 "_law_stuck" = true)
    (k40 : PySem.W.keepIn K (.ref f40) = true)
    (a41 : PySem.W.nsIn K mainGlobals "_law_waits" = some (some (.ref f41)))
    (l41 : K.lookup f41 = some ⟨oc41, od41, .func (PySem.W.fnOf "_law_waits" "_law_waits" (defArgs sWaits) (defBody sWaits) (defScope sWaits) .none kV41 dc41 pm41 an41 cd41 ct41), sl41⟩)
    (c41 : PySem.W.codeIn K cd41 "_law_waits" = true)
    (k41 : PySem.W.keepIn K (.ref f41) = true)
    (a42 : PySem.W.nsIn K mainGlobals "_law_turns" = some (some (.ref f42)))
    (l42 : K.lookup f42 = some ⟨oc42, od42, .func (PySem.W.fnOf "_law_turns" "_law_turns" (defArgs sLTurns) (defBody sLTurns) (defScope sLTurns) .none kV42 dc42 pm42 an42 cd42 ct42), sl42⟩)
    (c42 : PySem.W.codeIn K cd42 "_law_turns" = true)
    (k42 : PySem.W.keepIn K (.ref f42) = true)
    (a43 : PySem.W.nsIn K mainGlobals "_law_right" = some (some (.ref f43)))
    (l43 : K.lookup f43 = some ⟨oc43, od43, .func (PySem.W.fnOf "_law_right" "_law_right" (defArgs sRight) (defBody sRight) (defScope sRight) .none kV43 dc43 pm43 an43 cd43 ct43), sl43⟩)
    (c43 : PySem.W.codeIn K cd43 "_law_right" = true)
    (k43 : PySem.W.keepIn K (.ref f43) = true)
    (a44 : PySem.W.nsIn K mainGlobals "_law_long_right" = some (some (.ref f44)))
    (l44 : K.lookup f44 = some ⟨oc44, od44, .func (PySem.W.fnOf "_law_long_right" "_law_long_right" (defArgs sLong) (defBody sLong) (defScope sLong) .none kV44 dc44 pm44 an44 cd44 ct44), sl44⟩)
    (c44 : PySem.W.codeIn K cd44 "_law_long_right" = true)
    (k44 : PySem.W.keepIn K (.ref f44) = true)
    (a45 : PySem.W.nsIn K mainGlobals "law" = some (some (.ref f45)))
    (l45 : K.lookup f45 = some ⟨oc45, od45, .func (PySem.W.fnOf "law" "law" (defArgs sLaw) (defBody sLaw) (defScope sLaw) .none kV45 dc45 pm45 an45 cd45 ct45), sl45⟩)
    (c45 : PySem.W.codeIn K cd45 "law" = true)
    (k45 : PySem.W.keepIn K (.ref f45) = true)
    (pg : PySem.W.plainGet K C Str.empty = true)
    (hd : PySem.W.hasDictIn K C = true)
    (po : PySem.W.plainOver K C = true)
    (sa : PySem.W.findIn K (.ref C) "__setattr__" = some (some (.builtin "object.__setattr__")))
    (mk : PySem.W.makesIn K C = true)
    (kc : PySem.W.keepIn K (.ref C) = true)
    (nM : PySem.W.findIn K (.ref C) "own_marks" = some none)
    (nW : PySem.W.findIn K (.ref C) "ways" = some none)
    (nR : PySem.W.findIn K (.ref C) "own_roots" = some none)
    (nB : PySem.W.findIn K (.ref C) "own_web" = some none)
    (nS : PySem.W.findIn K (.ref C) "stays" = some none)
    (nN : PySem.W.findIn K (.ref C) "seen" = some none)
    (nD : PySem.W.findIn K (.ref C) "deeds" = some none)
    (xL : K.lookup CB = some (excClassObj nm q CB N bs [.ref CW, .type "ValueError", .type "Exception", .type "BaseException", .type "object"] true sn sub ab col dd m0 m1 m2 m3 m5 "ValueError.__new__"))
    (sB : PySem.W.findIn K (.ref CB) "__setattr__" = some (some (.builtin "object.__setattr__")))
    (eB : PySem.W.subIn K (.ref CB) (.type "BaseException") = some true)
    (tB : PySem.W.typeIn K (.ref CB) = some (.type "type"))
    (kB : PySem.W.keepIn K (.ref CB) = true)
    (nBn : PySem.W.findIn K (.ref CB) "node" = some none)
    (rd : PySem.W.readsIn K CW (.type "type") = true)
    (rf : PySem.W.findCls K (.ref CW) (.type "type") "__init__" = some (.val (.builtin "ValueError.__init__")))
    (gaW : PySem.W.specialIn K (.ref CW) "__getattribute__" = some (some (.builtin "type.__getattribute__")))
    (kcl : PySem.W.isClsIn K CB = true)
    (kga : PySem.W.findIn K (.ref CB) "__getattribute__" = some (some (.builtin "BaseException.__getattribute__")))
    (kgg : PySem.W.findIn K (.ref CB) "__getattr__" = some none)
    (kcs : PySem.W.findIn K (.ref CB) "__class__" = some (some (.builtin "object.__class__")))
    (ksp : PySem.W.specialIn K (.builtin "object.__class__") "__get__" = some (some (.builtin "getset_descriptor.__get__")))
    (ktk : PySem.W.takesIn K (.builtin "object.__class__") = some true)
    (kmr : PySem.W.mroIn K CB (.type "object") = some true)
    (khd : PySem.W.hasDictIn K CB = true)
    (cW : PySem.W.isClsIn K CW = true)
    (tW : PySem.W.typeIn K (.ref CW) = some (.type "type"))
    (eW : PySem.W.subIn K (.ref CW) (.type "BaseException") = some true)
    (sBB : PySem.W.subIn K (.ref CB) (.ref CB) = some true)
    (sBW : PySem.W.subIn K (.ref CB) (.ref CW) = some true)
    (sBV : PySem.W.subIn K (.ref CB) (.type "ValueError") = some true)
    (o1 : PySem.W.nsIn K mainGlobals "BadOrder" = some (some (.ref g1)))
    (o2 : PySem.W.nsIn K mainGlobals "BadPaper" = some (some (.ref g2)))
    (o3 : PySem.W.nsIn K mainGlobals "BadRow" = some (some (.ref g3)))
    (o4 : PySem.W.nsIn K mainGlobals "BadSharing" = some (some (.ref g4)))
    (o5 : PySem.W.nsIn K mainGlobals "BadWeb" = some (some (.ref g5)))
    (o6 : PySem.W.nsIn K mainGlobals "TooGreat" = some (some (.ref g6)))
    (o7 : PySem.W.nsIn K mainGlobals "OutOfPlace" = some (some (.ref g7)))
    (y1 : PySem.W.isClsIn K g1 = true)
    (v1 : PySem.W.typeIn K (.ref g1) = some (.type "type"))
    (r1 : PySem.W.subIn K (.ref CB) (.ref g1) = some false)
    (y2 : PySem.W.isClsIn K g2 = true)
    (v2 : PySem.W.typeIn K (.ref g2) = some (.type "type"))
    (r2 : PySem.W.subIn K (.ref CB) (.ref g2) = some false)
    (y3 : PySem.W.isClsIn K g3 = true)
    (v3 : PySem.W.typeIn K (.ref g3) = some (.type "type"))
    (r3 : PySem.W.subIn K (.ref CB) (.ref g3) = some false)
    (y4 : PySem.W.isClsIn K g4 = true)
    (v4 : PySem.W.typeIn K (.ref g4) = some (.type "type"))
    (r4 : PySem.W.subIn K (.ref CB) (.ref g4) = some false)
    (y5 : PySem.W.isClsIn K g5 = true)
    (v5 : PySem.W.typeIn K (.ref g5) = some (.type "type"))
    (r5 : PySem.W.subIn K (.ref CB) (.ref g5) = some false)
    (y6 : PySem.W.isClsIn K g6 = true)
    (v6 : PySem.W.typeIn K (.ref g6) = some (.type "type"))
    (r6 : PySem.W.subIn K (.ref CB) (.ref g6) = some false)
    (y7 : PySem.W.isClsIn K g7 = true)
    (v7 : PySem.W.typeIn K (.ref g7) = some (.type "type"))
    (r7 : PySem.W.subIn K (.ref CB) (.ref g7) = some false)
    (z1 : PySem.W.nsIn K mainGlobals "len" = some none)
    (z2 : PySem.W.nsIn K mainGlobals "isinstance" = some none)
    (z3 : PySem.W.nsIn K mainGlobals "tuple" = some none)
    (z4 : PySem.W.nsIn K mainGlobals "list" = some none)
    (z5 : PySem.W.nsIn K mainGlobals "int" = some none)
    (z6 : PySem.W.nsIn K mainGlobals "bool" = some none)
    (z7 : PySem.W.nsIn K mainGlobals "all" = some none)
    (z8 : PySem.W.nsIn K mainGlobals "zip" = some none)
    (z9 : PySem.W.nsIn K mainGlobals "range" = some none)
    (z10 : PySem.W.nsIn K mainGlobals "dict" = some none)
    (z11 : PySem.W.nsIn K mainGlobals "enumerate" = some none)
    (z12 : PySem.W.nsIn K mainGlobals "sorted" = some none)
    (z13 : PySem.W.nsIn K mainGlobals "max" = some none)
    (z14 : PySem.W.nsIn K mainGlobals "min" = some none)
    (z15 : PySem.W.nsIn K mainGlobals "repr" = some none)
    (z16 : PySem.W.nsIn K mainGlobals "ValueError" = some none)
    (w1 : PySem.W.nsIn K mainGlobals "MOST_NODES" = some (some (.int 60 u1)))
    (w2 : PySem.W.nsIn K mainGlobals "MOST_TIES" = some (some (.int 8 u2)))
    (w3 : PySem.W.nsIn K mainGlobals "MOST_WALKERS" = some (some (.int 6 u3))) :
    ∃ fd : FuncData, (∀ (s : Shared) (v : Value), BindsTo s fd ⟨[v], []⟩ [("_law_script", v)]) ∧ ∀ base : Heap, K.In base → base.Ns mainGlobals mg → Tg.FnOkG l.prog w K mg base CX0 12 fa fd ["_law_script"] (spLaw K) := by
  have e := hfa.symm.trans (PySem.W.mg_of X G a45)
  cases e
  have T : Bt mg := ⟨PySem.W.mg_none_of X G z1, PySem.W.mg_none_of X G z2, PySem.W.mg_none_of X G z3, PySem.W.mg_none_of X G z4, PySem.W.mg_none_of X G z5, PySem.W.mg_none_of X G z6, PySem.W.mg_none_of X G z7, PySem.W.mg_none_of X G z8, PySem.W.mg_none_of X G z9, PySem.W.mg_none_of X G z10, PySem.W.mg_none_of X G z11, PySem.W.mg_none_of X G z12, PySem.W.mg_none_of X G z13, PySem.W.mg_none_of X G z14, PySem.W.mg_none_of X G z15, PySem.W.mg_none_of X G z16, ⟨_, PySem.W.mg_of X G w1⟩, ⟨_, PySem.W.mg_of X G w2⟩, ⟨_, PySem.W.mg_of X G w3⟩⟩
  have TC : MoC K mg C := ⟨⟨pg, hd, po, sa⟩, nM, nW, nR, nB, nS, nN, nD, PySem.W.mg_of X G aC⟩
  have mB := PySem.W.mg_of X G aB
  have TW : WebC K mg CW := ⟨PySem.W.mg_of X G aW, ⟨_, rd, rf⟩, gaW⟩
  have TO : OexC K CB := ⟨⟨_, _, _, _, _, _, _, _, _, _, _, _, _, _, _, xL, by rfl⟩, sB, eB, tB, kB⟩
  have TR : WordC K mg CB CW := ⟨⟨kcl, kga, kgg, eB, kcs, ksp, ktk, kmr, khd⟩, nBn, mB, PySem.W.mg_of X G aW, exm_of eW cW tW sBW, kit_of sBB kcl tB sBB, kit_ty sBV, ⟨_, _, _, _, _, _, PySem.W.mg_of X G o1, PySem.W.mg_of X G o2, PySem.W.mg_of X G o3, PySem.W.mg_of X G o4, PySem.W.mg_of X G o5, PySem.W.mg_of X G o6, kit_none (kit_of sBB y1 v1 r1) (kit_none (kit_of sBB y2 v2 r2) (kit_none (kit_of sBB y3 v3 r3) (kit_none (kit_of sBB y4 v4 r4) (kit_none (kit_of sBB y5 v5 r5) (kit_none (kit_of sBB y6 v6 r6) rfl)))))⟩, ⟨_, PySem.W.mg_of X G o7, kit_of sBB y7 v7 r7⟩⟩
  have F1 := fun_mk (st := sWhole) l1 c1 k1
  have b1 := F1.binds (ps := ["thing"]) fun _ _ _ _ _ _ us hl => match us, hl with | [_], _ => rfl
  have D1 : Dn K mg "is_whole" f1 _ ["thing"] := ⟨PySem.W.mg_of X G a1, k1, b1⟩
  have F2 := fun_mk (st := sAmong) l2 c2 k2
  have b2 := F2.binds (ps := ["thing", "least", "most"]) fun _ _ _ _ _ _ us hl => match us, hl with | [_, _, _], _ => rfl
  have D2 : Dn K mg "is_among" f2 _ ["thing", "least", "most"] := ⟨PySem.W.mg_of X G a2, k2, b2⟩
  have F3 := fun_mk (st := sRowOf) l3 c3 k3
  have b3 := F3.binds (ps := ["thing", "many"]) fun _ _ _ _ _ _ us hl => match us, hl with | [_, _], _ => rfl
  have D3 : Dn K mg "is_row_of" f3 _ ["thing", "many"] := ⟨PySem.W.mg_of X G a3, k3, b3⟩
  have F4 := fun_mk (st := sIsWeb) l4 c4 k4
  have b4 := F4.binds (ps := ["thing"]) fun _ _ _ _ _ _ us hl => match us, hl with | [_], _ => rfl
  have D4 : Dn K mg "is_web" f4 _ ["thing"] := ⟨PySem.W.mg_of X G a4, k4, b4⟩
  have F5 := fun_mk (st := sNode) l5 c5 k5
  have b5 := F5.binds (ps := ["web", "thing"]) fun _ _ _ _ _ _ us hl => match us, hl with | [_, _], _ => rfl
  have D5 : Dn K mg "is_node" f5 _ ["web", "thing"] := ⟨PySem.W.mg_of X G a5, k5, b5⟩
  have F6 := fun_mk (st := sMarks) l6 c6 k6
  have b6 := F6.binds (ps := ["web", "thing", "many"]) fun _ _ _ _ _ _ us hl => match us, hl with | [_, _, _], _ => rfl
  have D6 : Dn K mg "are_marks" f6 _ ["web", "thing", "many"] := ⟨PySem.W.mg_of X G a6, k6, b6⟩
  have F7 := fun_mk (st := sCounts) l7 c7 k7
  have b7 := F7.binds (ps := ["web", "thing"]) fun _ _ _ _ _ _ us hl => match us, hl with | [_, _], _ => rfl
  have D7 : Dn K mg "are_counts" f7 _ ["web", "thing"] := ⟨PySem.W.mg_of X G a7, k7, b7⟩
  have F8 := fun_mk (st := sSpot) l8 c8 k8
  have b8 := F8.binds (ps := ["web", "thing"]) fun _ _ _ _ _ _ us hl => match us, hl with | [_, _], _ => rfl
  have D8 : Dn K mg "is_spot" f8 _ ["web", "thing"] := ⟨PySem.W.mg_of X G a8, k8, b8⟩
  have F9 := fun_mk (st := sIsState) l9 c9 k9
  have b9 := F9.binds (ps := ["thing"]) fun _ _ _ _ _ _ us hl => match us, hl with | [_], _ => rfl
  have D9 : Dn K mg "is_state" f9 _ ["thing"] := ⟨PySem.W.mg_of X G a9, k9, b9⟩
  have F10 := fun_mk (st := sNeedState) l10 c10 k10
  have b10 := F10.binds (ps := ["thing"]) fun _ _ _ _ _ _ us hl => match us, hl with | [_], _ => rfl
  have D10 : Dn K mg "need_state" f10 _ ["thing"] := ⟨PySem.W.mg_of X G a10, k10, b10⟩
  have F11 := fun_mk (st := sStopped) l11 c11 k11
  have b11 := F11.binds (ps := ["spot"]) fun _ _ _ _ _ _ us hl => match us, hl with | [_], _ => rfl
  have D11 : Dn K mg "has_stopped" f11 _ ["spot"] := ⟨PySem.W.mg_of X G a11, k11, b11⟩
  have F12 := fun_mk (st := sFit) l12 c12 k12
  have b12 := F12.binds (ps := ["state", "walker", "node", "found"]) fun _ _ _ _ _ _ us hl => match us, hl with | [_, _, _, _], _ => rfl
  have D12 : Dn K mg "is_fit" f12 _ ["state", "walker", "node", "found"] := ⟨PySem.W.mg_of X G a12, k12, b12⟩
  have F13 := fun_mk (st := sBack) l13 c13 k13
  have b13 := F13.binds (ps := ["state", "walker"]) fun _ _ _ _ _ _ us hl => match us, hl with | [_, _], _ => rfl
  have D13 : Dn K mg "back_of" f13 _ ["state", "walker"] := ⟨PySem.W.mg_of X G a13, k13, b13⟩
  have F14 := fun_mk (st := sWays) l14 c14 k14
  have b14 := F14.binds (ps := ["state"]) fun _ _ _ _ _ _ us hl => match us, hl with | [_], _ => rfl
  have D14 : Dn K mg "all_ways" f14 _ ["state"] := ⟨PySem.W.mg_of X G a14, k14, b14⟩
  have F15 := fun_mk (st := sWebBy) l15 c15 k15
  have b15 := F15.binds (ps := ["state", "ways"]) fun _ _ _ _ _ _ us hl => match us, hl with | [_, _], _ => rfl
  have D15 : Dn K mg "web_by" f15 _ ["state", "ways"] := ⟨PySem.W.mg_of X G a15, k15, b15⟩
  have F16 := fun_mk (st := sRoots) l16 c16 k16
  have b16 := F16.binds (ps := ["state", "ways"]) fun _ _ _ _ _ _ us hl => match us, hl with | [_, _], _ => rfl
  have D16 : Dn K mg "roots_by" f16 _ ["state", "ways"] := ⟨PySem.W.mg_of X G a16, k16, b16⟩
  have F17 := fun_mk (st := sMInit) l17 c17 k17
  have b17 := F17.binds (ps := ["self", "state"]) fun _ _ _ _ _ _ us hl => match us, hl with | [_, _], _ => rfl
  have F18 := fun_mk (st := sSeen) l18 c18 k18
  have b18 := F18.binds (ps := ["self", "counts", "node"]) fun _ _ _ _ _ _ us hl => match us, hl with | [_, _, _], _ => rfl
  have m18 : Meth K C "seen_of" f18 := ⟨a18, i18, k18⟩
  have F19 := fun_mk (st := sNeedC) l19 c19 k19
  have b19 := F19.binds (ps := ["self", "counts"]) fun _ _ _ _ _ _ us hl => match us, hl with | [_, _], _ => rfl
  have m19 : Meth K C "need_counts" f19 := ⟨a19, i19, k19⟩
  have F20 := fun_mk (st := sClosed) l20 c20 k20
  have b20 := F20.binds (ps := ["self"]) fun _ _ _ _ _ _ us hl => match us, hl with | [_], _ => rfl
  have m20 : Meth K C "need_closed" f20 := ⟨a20, i20, k20⟩
  have F21 := fun_mk (st := sDeedsBy) l21 c21 k21
  have b21 := F21.binds (ps := ["self", "walker"]) fun _ _ _ _ _ _ us hl => match us, hl with | [_, _], _ => rfl
  have m21 : Meth K C "deeds_by" f21 := ⟨a21, i21, k21⟩
  have F22 := fun_mk (st := sDeed) l22 c22 k22
  have b22 := F22.binds (ps := ["self", "walker", "gone", "stand"]) fun _ _ _ _ _ _ us hl => match us, hl with | [_, _, _, _], _ => rfl
  have m22 : Meth K C "deed" f22 := ⟨a22, i22, k22⟩
  have F23 := fun_mk (st := sTieOf) l23 c23 k23
  have b23 := F23.binds (ps := ["self", "deed"]) fun _ _ _ _ _ _ us hl => match us, hl with | [_, _], _ => rfl
  have m23 : Meth K C "tie_of" f23 := ⟨a23, i23, k23⟩
  have F24 := fun_mk (st := sTurns) l24 c24 k24
  have b24 := F24.binds (ps := ["self"]) fun _ _ _ _ _ _ us hl => match us, hl with | [_], _ => rfl
  have m24 : Meth K C "turns" f24 := ⟨a24, i24, k24⟩
  have F25 := fun_mk (st := sNext) l25 c25 k25
  have b25 := F25.binds (ps := ["self", "done", "there"]) fun _ _ _ _ _ _ us hl => match us, hl with | [_, _, _], _ => rfl
  have m25 : Meth K C "next_one" f25 := ⟨a25, i25, k25⟩
  have F26 := fun_mk (st := sBadInit) l26 c26 k26
  have b26 := F26.binds (ps := ["self", "node"]) fun _ _ _ _ _ _ us hl => match us, hl with | [_, _], _ => rfl
  have F27 := fun_mk (st := sMomentOf) l27 c27 k27
  have b27 := F27.binds (ps := ["state"]) fun _ _ _ _ _ _ us hl => match us, hl with | [_], _ => rfl
  have D27 : Dn K mg "moment_of" f27 _ ["state"] := ⟨PySem.W.mg_of X G a27, k27, b27⟩
  have F28 := fun_mk (st := sNeedMoment) l28 c28 k28
  have b28 := F28.binds (ps := ["thing"]) fun _ _ _ _ _ _ us hl => match us, hl with | [_], _ => rfl
  have D28 : Dn K mg "need_moment" f28 _ ["thing"] := ⟨PySem.W.mg_of X G a28, k28, b28⟩
  have F29 := fun_mk (st := sIsMoment) l29 c29 k29
  have b29 := F29.binds (ps := ["thing"]) fun _ _ _ _ _ _ us hl => match us, hl with | [_], _ => rfl
  have D29 : Dn K mg "is_moment" f29 _ ["thing"] := ⟨PySem.W.mg_of X G a29, k29, b29⟩
  have F30 := fun_mk (st := sDeedsOf) l30 c30 k30
  have b30 := F30.binds (ps := ["state"]) fun _ _ _ _ _ _ us hl => match us, hl with | [_], _ => rfl
  have D30 : Dn K mg "deeds_of" f30 _ ["state"] := ⟨PySem.W.mg_of X G a30, k30, b30⟩
  have F31 := fun_mk (st := sOrderTo) l31 c31 k31
  have b31 := F31.binds (ps := ["state"]) fun _ _ _ _ _ _ us hl => match us, hl with | [_], _ => rfl
  have D31 : Dn K mg "order_to" f31 _ ["state"] := ⟨PySem.W.mg_of X G a31, k31, b31⟩
  have F32 := fun_mk (st := sStarted) l32 c32 k32
  have b32 := F32.binds (ps := ["_law_script"]) fun _ _ _ _ _ _ us hl => match us, hl with | [_], _ => rfl
  have D32 : Dn K mg "_law_started" f32 _ ["_law_script"] := ⟨PySem.W.mg_of X G a32, k32, b32⟩
  have F33 := fun_mk (st := sDraw) l33 c33 k33
  have b33 := F33.binds (ps := ["_law_m", "_law_many"]) fun _ _ _ _ _ _ us hl => match us, hl with | [_, _], _ => rfl
  have D33 : Dn K mg "_law_draw" f33 _ ["_law_m", "_law_many"] := ⟨PySem.W.mg_of X G a33, k33, b33⟩
  have F34 := fun_mk (st := sOf) l34 c34 k34
  have b34 := F34.binds (ps := ["_law_m", "_law_some"]) fun _ _ _ _ _ _ us hl => match us, hl with | [_, _], _ => rfl
  have D34 : Dn K mg "_law_of" f34 _ ["_law_m", "_law_some"] := ⟨PySem.W.mg_of X G a34, k34, b34⟩
  have F35 := fun_mk (st := sChains) l35 c35 k35
  have b35 := F35.binds (ps := ["_law_m"]) fun _ _ _ _ _ _ us hl => match us, hl with | [_], _ => rfl
  have D35 : Dn K mg "_law_chains" f35 _ ["_law_m"] := ⟨PySem.W.mg_of X G a35, k35, b35⟩
  have F36 := fun_mk (st := sGone) l36 c36 k36
  have b36 := F36.binds (ps := ["_law_web", "_law_marks", "_law_root"]) fun _ _ _ _ _ _ us hl => match us, hl with | [_, _, _], _ => rfl
  have D36 : Dn K mg "_law_gone" f36 _ ["_law_web", "_law_marks", "_law_root"] := ⟨PySem.W.mg_of X G a36, k36, b36⟩
  have F37 := fun_mk (st := sState) l37 c37 k37
  have b37 := F37.binds (ps := ["_law_web", "_law_roots", "_law_kept"]) fun _ _ _ _ _ _ us hl => match us, hl with | [_, _, _], _ => rfl
  have D37 : Dn K mg "_law_state" f37 _ ["_law_web", "_law_roots", "_law_kept"] := ⟨PySem.W.mg_of X G a37, k37, b37⟩
  have F38 := fun_mk (st := sWord) l38 c38 k38
  have b38 := F38.binds (ps := ["_law_caught"]) fun _ _ _ _ _ _ us hl => match us, hl with | [_], _ => rfl
  have D38 : Dn K mg "_law_word" f38 _ ["_law_caught"] := ⟨PySem.W.mg_of X G a38, k38, b38⟩
  have F39 := fun_mk (st := sRefused) l39 c39 k39
  have b39 := F39.binds (ps := ["_law_deed", "_law_thing"]) fun _ _ _ _ _ _ us hl => match us, hl with | [_, _], _ => rfl
  have D39 : Dn K mg "_law_refused" f39 _ ["_law_deed", "_law_thing"] := ⟨PySem.W.mg_of X G a39, k39, b39⟩
  have F40 := fun_mk (st := sStuck) l40 c40 k40
  have b40 := F40.binds (ps := ["_law_web", "_law_roots", "_law_deeds"]) fun _ _ _ _ _ _ us hl => match us, hl with | [_, _, _], _ => rfl
  have D40 : Dn K mg "_law_stuck" f40 _ ["_law_web", "_law_roots", "_law_deeds"] := ⟨PySem.W.mg_of X G a40, k40, b40⟩
  have F41 := fun_mk (st := sWaits) l41 c41 k41
  have b41 := F41.binds (ps := ["_law_web", "_law_there", "_law_deed"]) fun _ _ _ _ _ _ us hl => match us, hl with | [_, _, _], _ => rfl
  have D41 : Dn K mg "_law_waits" f41 _ ["_law_web", "_law_there", "_law_deed"] := ⟨PySem.W.mg_of X G a41, k41, b41⟩
  have F42 := fun_mk (st := sLTurns) l42 c42 k42
  have b42 := F42.binds (ps := ["_law_web", "_law_roots", "_law_deeds"]) fun _ _ _ _ _ _ us hl => match us, hl with | [_, _, _], _ => rfl
  have D42 : Dn K mg "_law_turns" f42 _ ["_law_web", "_law_roots", "_law_deeds"] := ⟨PySem.W.mg_of X G a42, k42, b42⟩
  have F43 := fun_mk (st := sRight) l43 c43 k43
  have b43 := F43.binds (ps := ["_law_m", "_law_web", "_law_marks", "_law_roots", "_law_is_free"]) fun _ _ _ _ _ _ us hl => match us, hl with | [_, _, _, _, _], _ => rfl
  have D43 : Dn K mg "_law_right" f43 _ ["_law_m", "_law_web", "_law_marks", "_law_roots", "_law_is_free"] := ⟨PySem.W.mg_of X G a43, k43, b43⟩
  have F44 := fun_mk (st := sLong) l44 c44 k44
  have b44 := F44.binds (ps := ["_law_m"]) fun _ _ _ _ _ _ us hl => match us, hl with | [_], _ => rfl
  have D44 : Dn K mg "_law_long_right" f44 _ ["_law_m"] := ⟨PySem.W.mg_of X G a44, k44, b44⟩
  have F45 := fun_mk (st := sLaw) l45 c45 k45
  have b45 := F45.binds (ps := ["_law_script"]) fun _ _ _ _ _ _ us hl => match us, hl with | [_], _ => rfl
  have MK : Mk K C f17 := ⟨mk, a17, i17, kc⟩
  refine ⟨PySem.W.fnOf "law" "law" (defArgs sLaw) (defBody sLaw) (defScope sLaw) .none kV45 dc45 pm45 an45 cd45 ct45, fun s v => .of_eq rfl, fun base _ _ => ?_⟩
  have G1 : FnOk l.prog w K mg base CX0 1 f1 _ ["thing"] (spWhole K) := ok_whole F1 T
  have G2 : FnOk l.prog w K mg base CX0 2 f2 _ ["thing", "least", "most"] (spAmong K) := ok_among F2 T G1 D1
  have G3 : FnOk l.prog w K mg base CX0 3 f3 _ ["thing", "many"] (spRowOf K) := ok_rowof F3 T G2 D2
  have G4 : FnOk l.prog w K mg base CX0 4 f4 _ ["thing"] (spIsWeb K) := ok_isweb F4 T G3 D3
  have G5 : FnOk l.prog w K mg base CX0 3 f5 _ ["web", "thing"] (spNode K) := ok_node F5 T G2 D2
  have G6 : FnOk l.prog w K mg base CX0 3 f6 _ ["web", "thing", "many"] (spMarks K) := ok_marks F6 T G2 D2
  have G7 : FnOk l.prog w K mg base CX0 3 f7 _ ["web", "thing"] (spCounts K) := ok_counts F7 T G2 D2
  have G8 : FnOk l.prog w K mg base CX0 4 f8 _ ["web", "thing"] (spSpot K) := ok_spot F8 T G5 D5
  have G9 : FnOk l.prog w K mg base CX0 5 f9 _ ["thing"] (spIsState K) := ok_isstate F9 T G4 D4 G8 D8 G6 D6 G7 D7
  have G10 : FnOk l.prog w K mg base CX0 6 f10 _ ["thing"] (spNeedState K) := ok_needstate F10 T G9 D9
  have G11 : FnOk l.prog w K mg base CX0 1 f11 _ ["spot"] (spStopped K) := ok_stopped F11 T
  have G12 : FnOk l.prog w K mg base CX0 1 f12 _ ["state", "walker", "node", "found"] (spFit K) := ok_fit F12 T
  have G13 : FnOk l.prog w K mg base CX0 2 f13 _ ["state", "walker"] (spBack K) := ok_back F13 T G11 D11 G12 D12
  have G14 : FnOk l.prog w K mg base CX0 3 f14 _ ["state"] (spWays K) := ok_ways F14 T G13 D13
  have G15 : FnOk l.prog w K mg base CX0 1 f15 _ ["state", "ways"] (spWebBy K) := ok_webby F15 T
  have G16 : FnOk l.prog w K mg base CX0 1 f16 _ ["state", "ways"] (spRoots K) := ok_roots F16 T
  have G18 : FnOk l.prog w K mg base CX0 1 f18 _ ["self", "counts", "node"] (spSeen K C) := ok_seen F18 T TC
  have G19 : FnOk l.prog w K mg base CX0 1 f19 _ ["self", "counts"] (spNeedC K C) := ok_needc F19 T TC
  have G20 : FnOk l.prog w K mg base CX0 1 f20 _ ["self"] (spClosed K C) := ok_closed F20 T TC
  have G23 : FnOk l.prog w K mg base CX0 1 f23 _ ["self", "deed"] (spTieOf K C) := ok_tieof F23 T TC
  have G22 : FnOk l.prog w K mg base CX0 1 f22 _ ["self", "walker", "gone", "stand"] (spDeed K C) := ok_deed F22 T TC
  have G21 : FnOk l.prog w K mg base CX0 2 f21 _ ["self", "walker"] (spDB K C) := ok_db F21 T TC G22 b22 m22
  have G25 : FnOk l.prog w K mg base CX0 2 f25 _ ["self", "done", "there"] (spNext K C) := ok_next F25 T TC G23 b23 m23
  have G26 : FnOk l.prog w K mg base CX0 1 f26 _ ["self", "node"] (spBadInit K CB) := ok_badinit F26 TW nBn
  have G24 : FnOk l.prog w K mg base (L2.CX l.prog w) 3 f24 _ ["self"] (spTurns K C CB) := ok_turns F24 T TC G23 b23 m23 G25 b25 m25 G26 b26 TO a26 t26 mB
  have G17 : FnOk l.prog w K mg base CX0 4 f17 _ ["self", "state"] (spMInit K C) := ok_minit F17 T TC G14 D14 G16 D16 G15 D15 G18 b18 m18 G19 b19 m19 G20 b20 m20 G21 b21 m21
  have G27 : FnOk l.prog w K mg base (L2.CX l.prog w) 7 f27 _ ["state"] (spMomentOf K C CB) := ok_momentof F27 T TC G10 D10 MK G17 b17 G24 b24 m24
  have G28 : FnOk l.prog w K mg base (L2.CX l.prog w) 8 f28 _ ["thing"] (spNeedMoment K CB) := ok_needmoment F28 G27 D27
  have G29 : FnOk l.prog w K mg base CX0 9 f29 _ ["thing"] (spIsMoment K) := ok_ismoment F29 G28 D28 mB (exm_of eB kcl tB sBB)
  have G30 : FnOk l.prog w K mg base CX0 8 f30 _ ["state"] (spDeedsOf K) := ok_deedsof F30 T TC G27 D27
  have G31 : FnOk l.prog w K mg base CX0 8 f31 _ ["state"] (spOrderTo K) := ok_orderto F31 T G27 D27
  have G32 : FnOk l.prog w K mg base CX0 1 f32 _ ["_law_script"] (spStarted K) := ok_started F32 T
  have G33 : FnOk l.prog w K mg base CX0 1 f33 _ ["_law_m", "_law_many"] (spDraw K) := ok_draw F33 T
  have G34 : FnOk l.prog w K mg base CX0 2 f34 _ ["_law_m", "_law_some"] (spOf K) := ok_of F34 T G33 D33
  have G35 : FnOk l.prog w K mg base CX0 3 f35 _ ["_law_m"] (spChains K) := ok_chains F35 T G33 D33 G34 D34
  have G36 : FnOk l.prog w K mg base CX0 1 f36 _ ["_law_web", "_law_marks", "_law_root"] (spGone K) := ok_gone F36 T
  have G37 : FnOk l.prog w K mg base CX0 1 f37 _ ["_law_web", "_law_roots", "_law_kept"] (spState K) := ok_state F37 T
  have G38 : FnOk l.prog w K mg base CX0 1 f38 _ ["_law_caught"] (spWord K CB) := ok_word F38 T TR
  have G39 : FnOk l.prog w K mg base CX0 9 f39 _ ["_law_deed", "_law_thing"] (spRefused K f28) := ok_refused F39 TR G28 D28 G38 D38
  have G41 : FnOk l.prog w K mg base CX0 1 f41 _ ["_law_web", "_law_there", "_law_deed"] (spWaits K) := ok_waits F41 
  have G40 : FnOk l.prog w K mg base CX0 2 f40 _ ["_law_web", "_law_roots", "_law_deeds"] (spStuck K) := ok_stuck F40 T G41 D41
  have G42 : FnOk l.prog w K mg base CX0 2 f42 _ ["_law_web", "_law_roots", "_law_deeds"] (spLTurns K) := ok_lturns F42 T G41 D41
  have G43 : Tg.FnOkG l.prog w K mg base CX0 10 f43 _ ["_law_m", "_law_web", "_law_marks", "_law_roots", "_law_is_free"] (spRight K) := ok_right F43 T G36 D36 G33 D33 G37 D37 G40 D40 G29 D29 G39 D39 D28 G42 D42 G30 D30 G31 D31
  have G44 : Tg.FnOkG l.prog w K mg base CX0 11 f44 _ ["_law_m"] (spLong K) := ok_long F44 T G33 D33 G43 D43
  exact ok_law F45 T G32 D32 G35 D35 G43 D43 G44 D44
theorem walk {l : PySem.W.OpenLaw} {q : Program} {loose : List Str} {XP : (Str → Option Value) → Heap → Prop} {YP : World → Heap → Prop} {d : DefRec} {K : Params → PySem.W.Frag} (hn : l.most = some 63) (hdf : d.params.defaults = [])
    (hY : ∀ (w : World) (h : Heap), YP w h → (K w.params).In h)
    (F : ∀ (w : World) (mg : Str → Option Value) (fa : Addr) (h : Heap), (K w.params).In h → h.Ns mainGlobals mg → mg d.name = some (.ref fa) →
      ∃ fd : FuncData, (∀ (s : Shared) (u : Value), BindsTo s fd ⟨[u], []⟩ [("_law_script", u)]) ∧ ∀ base : Heap, (K w.params).In base → base.Ns mainGlobals mg → Tg.FnOkG l.prog w (K w.params) mg base CX0 12 fa fd ["_law_script"] (spLaw (K w.params))) :
    PySem.W.WalkO q loose XP YP l.row.toRowW d [] (fun f vs => PySem.call f vs) :=
  Tg.walk_ofG (n := 63) (k := 12) (x := "_law_script") (CX := fun _ => CX0) (sp := fun w => spLaw (K w.params)) hn (by decide) hdf ⟨rfl, by decide, by decide⟩ hY F (fun _ _ a ns hl _ hS => ⟨a, ns, rfl, hS, hl, fun _ => rfl⟩) fun _ _ _ _ _ z => z
end Tb
open PySem PySem.W PyProof.Rows in
set_option maxRecDepth 100000 in
set_option maxHeartbeats 0 in
theorem PySem.Challenge.cw_turnback_k25_whole_rings_of_waits_holds : PySem.Challenge.rw_turnback_k25_whole_rings_of_waits.Holds := by
  w_on; o_law; k_head; (case hw => w_witness2)
  k_fill
  refine Tb.walk (l := PySem.Challenge.rw_turnback_k25_whole_rings_of_waits) rfl rfl (fun w h Y => PySem.W.kIn_of Y) ?F
  case F =>
    intro w mg fa h KX G hmg
    refine' Tb.all_mk KX G hmg ?aC ?aB ?aW ?a1 ?l1 ?c1 ?k1 ?a2 ?l2 ?c2 ?k2 ?a3 ?l3 ?c3 ?k3 ?a4 ?l4 ?c4 ?k4 ?a5 ?l5 ?c5 ?k5 ?a6 ?l6 ?c6 ?k6 ?a7 ?l7 ?c7 ?k7 ?a8 ?l8 ?c8 ?k8 ?a9 ?l9 ?c9 ?k9 ?a10 ?l10 ?c10 ?k10 ?a11 ?l11 ?c11 ?k11 ?a12 ?l12 ?c12 ?k12 ?a13 ?l13 ?c13 ?k13 ?a14 ?l14 ?c14 ?k14 ?a15 ?l15 ?c15 ?k15 ?a16 ?l16 ?c16 ?k16 ?a17 ?i17 ?l17 ?c17 ?k17 ?a18 ?i18 ?l18 ?c18 ?k18 ?a19 ?i19 ?l19 ?c19 ?k19 ?a20 ?i20 ?l20 ?c20 ?k20 ?a21 ?i21 ?l21 ?c21 ?k21 ?a22 ?i22 ?l22 ?c22 ?k22 ?a23 ?i23 ?l23 ?c23 ?k23 ?a24 ?i24 ?l24 ?c24 ?k24 ?a25 ?i25 ?l25 ?c25 ?k25 ?a26 ?t26 ?l26 ?c26 ?k26 ?a27 ?l27 ?c27 ?k27 ?a28 ?l28 ?c28 ?k28 ?a29 ?l29 ?c29 ?k29 ?a30 ?l30 ?c30 ?k30 ?a31 ?l31 ?c31 ?k31 ?a32 ?l32 ?c32 ?k32 ?a33 ?l33 ?c33 ?k33 ?a34 ?l34 ?c34 ?k34 ?a35 ?l35 ?c35 ?k35 ?a36 ?l36 ?c36 ?k36 ?a37 ?l37 ?c37 ?k37 ?a38 ?l38 ?c38 ?k38 ?a39 ?l39 ?c39 ?k39 ?a40 ?l40 ?c40 ?k40 ?a41 ?l41 ?c41 ?k41 ?a42 ?l42 ?c42 ?k42 ?a43 ?l43 ?c43 ?k43 ?a44 ?l44 ?c44 ?k44 ?a45 ?l45 ?c45 ?k45 ?pg ?hd ?po ?sa ?mk ?kc ?nM ?nW ?nR ?nB ?nS ?nN ?nD ?xL ?sB ?eB ?tB ?kB ?nBn ?rd ?rf ?gaW ?kcl ?kga ?kgg ?kcs ?ksp ?ktk ?kmr ?khd ?cW ?tW ?eW ?sBB ?sBW ?sBV ?o1 ?o2 ?o3 ?o4 ?o5 ?o6 ?o7 ?y1 ?v1 ?r1 ?y2 ?v2 ?r2 ?y3 ?v3 ?r3 ?y4 ?v4 ?r4 ?y5 ?v5 ?r5 ?y6 ?v6 ?r6 ?y7 ?v7 ?r7 ?z1 ?z2 ?z3 ?z4 ?z5 ?z6 ?z7 ?z8 ?z9 ?z10 ?z11 ?z12 ?z13 ?z14 ?z15 ?z16 ?w1 ?w2 ?w3
    (case aC => k_is)
    (case aB => k_is)
    (case aW => k_is)
    (case a1 => k_is)
    (case l1 => k_is)
    (case c1 => k_is)
    (case k1 => k_is)
    (case a2 => k_is)
    (case l2 => k_is)
    (case c2 => k_is)
    (case k2 => k_is)
    (case a3 => k_is)
    (case l3 => k_is)
    (case c3 => k_is)
    (case k3 => k_is)
    (case a4 => k_is)
    (case l4 => k_is)
    (case c4 => k_is)
    (case k4 => k_is)
    (case a5 => k_is)
    (case l5 => k_is)
    (case c5 => k_is)
    (case k5 => k_is)
    (case a6 => k_is)
    (case l6 => k_is)
    (case c6 => k_is)
    (case k6 => k_is)
    (case a7 => k_is)
    (case l7 => k_is)
    (case c7 => k_is)
    (case k7 => k_is)
    (case a8 => k_is)
    (case l8 => k_is)
    (case c8 => k_is)
    (case k8 => k_is)
    (case a9 => k_is)
    (case l9 => k_is)
    (case c9 => k_is)
    (case k9 => k_is)
    (case a10 => k_is)
    (case l10 => k_is)
    (case c10 => k_is)
    (case k10 => k_is)
    (case a11 => k_is)
    (case l11 => k_is)
    (case c11 => k_is)
    (case k11 => k_is)
    (case a12 => k_is)
    (case l12 => k_is)
    (case c12 => k_is)
    (case k12 => k_is)
    (case a13 => k_is)
    (case l13 => k_is)
    (case c13 => k_is)
    (case k13 => k_is)
    (case a14 => k_is)
    (case l14 => k_is)
    (case c14 => k_is)
    (case k14 => k_is)
    (case a15 => k_is)
    (case l15 => k_is)
    (case c15 => k_is)
    (case k15 => k_is)
    (case a16 => k_is)
    (case l16 => k_is)
    (case c16 => k_is)
    (case k16 => k_is)
    (case a17 => k_is)
    (case i17 => k_is)
    (case l17 => k_is)
    (case c17 => k_is)
    (case k17 => k_is)
    (case a18 => k_is)
    (case i18 => k_is)
    (case l18 => k_is)
    (case c18 => k_is)
    (case k18 => k_is)
    (case a19 => k_is)
    (case i19 => k_is)
    (case l19 => k_is)
    (case c19 => k_is)
    (case k19 => k_is)
    (case a20 => k_is)
    (case i20 => k_is)
    (case l20 => k_is)
    (case c20 => k_is)
    (case k20 => k_is)
    (case a21 => k_is)
    (case i21 => k_is)
    (case l21 => k_is)
    (case c21 => k_is)
    (case k21 => k_is)
    (case a22 => k_is)
    (case i22 => k_is)
    (case l22 => k_is)
    (case c22 => k_is)
    (case k22 => k_is)
    (case a23 => k_is)
    (case i23 => k_is)
    (case l23 => k_is)
    (case c23 => k_is)
    (case k23 => k_is)
    (case a24 => k_is)
    (case i24 => k_is)
    (case l24 => k_is)
    (case c24 => k_is)
    (case k24 => k_is)
    (case a25 => k_is)
    (case i25 => k_is)
    (case l25 => k_is)
    (case c25 => k_is)
    (case k25 => k_is)
    (case a26 => k_is)
    (case t26 => k_is)
    (case l26 => k_is)
    (case c26 => k_is)
    (case k26 => k_is)
    (case a27 => k_is)
    (case l27 => k_is)
    (case c27 => k_is)
    (case k27 => k_is)
    (case a28 => k_is)
    (case l28 => k_is)
    (case c28 => k_is)
    (case k28 => k_is)
    (case a29 => k_is)
    (case l29 => k_is)
    (case c29 => k_is)
    (case k29 => k_is)
    (case a30 => k_is)
    (case l30 => k_is)
    (case c30 => k_is)
    (case k30 => k_is)
    (case a31 => k_is)
    (case l31 => k_is)
    (case c31 => k_is)
    (case k31 => k_is)
    (case a32 => k_is)
    (case l32 => k_is)
    (case c32 => k_is)
    (case k32 => k_is)
    (case a33 => k_is)
    (case l33 => k_is)
    (case c33 => k_is)
    (case k33 => k_is)
    (case a34 => k_is)
    (case l34 => k_is)
    (case c34 => k_is)
    (case k34 => k_is)
    (case a35 => k_is)
    (case l35 => k_is)
    (case c35 => k_is)
    (case k35 => k_is)
    (case a36 => k_is)
    (case l36 => k_is)
    (case c36 => k_is)
    (case k36 => k_is)
    (case a37 => k_is)
    (case l37 => k_is)
    (case c37 => k_is)
    (case k37 => k_is)
    (case a38 => k_is)
    (case l38 => k_is)
    (case c38 => k_is)
    (case k38 => k_is)
    (case a39 => k_is)
    (case l39 => k_is)
    (case c39 => k_is)
    (case k39 => k_is)
    (case a40 => k_is)
    (case l40 => k_is)
    (case c40 => k_is)
    (case k40 => k_is)
    (case a41 => k_is)
    (case l41 => k_is)
    (case c41 => k_is)
    (case k41 => k_is)
    (case a42 => k_is)
    (case l42 => k_is)
    (case c42 => k_is)
    (case k42 => k_is)
    (case a43 => k_is)
    (case l43 => k_is)
    (case c43 => k_is)
    (case k43 => k_is)
    (case a44 => k_is)
    (case l44 => k_is)
    (case c44 => k_is)
    (case k44 => k_is)
    (case a45 => k_is)
    (case l45 => k_is)
    (case c45 => k_is)
    (case k45 => k_is)
    (case pg => k_is)
    (case hd => k_is)
    (case po => k_is)
    (case sa => k_is)
    (case mk => k_is)
    (case kc => k_is)
    (case nM => k_is)
    (case nW => k_is)
    (case nR => k_is)
    (case nB => k_is)
    (case nS => k_is)
    (case nN => k_is)
    (case nD => k_is)
    (case xL => k_is)
    (case sB => k_is)
    (case eB => k_is)
    (case tB => k_is)
    (case kB => k_is)
    (case nBn => k_is)
    (case rd => k_is)
    (case rf => k_is)
    (case gaW => k_is)
    (case kcl => k_is)
    (case kga => k_is)
    (case kgg => k_is)
    (case kcs => k_is)
    (case ksp => k_is)
    (case ktk => k_is)
    (case kmr => k_is)
    (case khd => k_is)
    (case cW => k_is)
    (case tW => k_is)
    (case eW => k_is)
    (case sBB => first | rfl | k_is)
    (case sBW => k_is)
    (case sBV => k_is)
    (case o1 => k_is)
    (case o2 => k_is)
    (case o3 => k_is)
    (case o4 => k_is)
    (case o5 => k_is)
    (case o6 => k_is)
    (case o7 => k_is)
    (case y1 => k_is)
    (case v1 => k_is)
    (case r1 => k_is)
    (case y2 => k_is)
    (case v2 => k_is)
    (case r2 => k_is)
    (case y3 => k_is)
    (case v3 => k_is)
    (case r3 => k_is)
    (case y4 => k_is)
    (case v4 => k_is)
    (case r4 => k_is)
    (case y5 => k_is)
    (case v5 => k_is)
    (case r5 => k_is)
    (case y6 => k_is)
    (case v6 => k_is)
    (case r6 => k_is)
    (case y7 => k_is)
    (case v7 => k_is)
    (case r7 => k_is)
    (case z1 => k_is)
    (case z2 => k_is)
    (case z3 => k_is)
    (case z4 => k_is)
    (case z5 => k_is)
    (case z6 => k_is)
    (case z7 => k_is)
    (case z8 => k_is)
    (case z9 => k_is)
    (case z10 => k_is)
    (case z11 => k_is)
    (case z12 => k_is)
    (case z13 => k_is)
    (case z14 => k_is)
    (case z15 => k_is)
    (case z16 => k_is)
    (case w1 => k_is)
    (case w2 => k_is)
    (case w3 => k_is)
end
